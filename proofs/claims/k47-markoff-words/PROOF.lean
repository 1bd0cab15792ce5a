import PyProof.Rows.All
import Wide.All
import OpenK.AllK
import Wide.FinOn
import HandS.ForMost
import HandS.Evl
import HandS.Wide
import HandS.Style
import HandS.TupAny
import HandS.Conv
import HandS.Zip
import HandS.RevTup
import HandS.Rev
import HandS.NoneIn
import HandS.WideBits
import HandS.Exc
import HandS.Ends
import HandS.HeadEnd
import HandS.Defaults
import HandS.TupMul
import HandS.SortInts
import HandS.Deep
import KE.KTupSum
import PySem.Challenge.RW_linecuts_k47_whole_markoff_words
import KE.KStateDown
import HandS.Head0
import HandS.Head1
import HandS.Head2
import HandS.HeadHook1
import HandS.HeadHook2
set_option Elab.async false
set_option linter.all false
set_option maxRecDepth 100000
set_option maxHeartbeats 0
set_option autoImplicit false
set_option exponentiation.threshold 256
/-! DL: data-level readings over the hand layer. What a piece of syntax does is told as a function on data (PyData); slots hold data that stands (sh), a list of one's own (ow) or the bag (bg). -/
namespace DL
open PySem L2
abbrev D := PyData
abbrev Ex := Evl.Ex
/-- what a slot holds -/
inductive Sl where
  | un
  | sh (d : D)
  | ow (ds : List D)
  | bg
abbrev Env := List Sl
/-- the bag: where it stands, its objects, what is known of them; B0, H0: the state at the entry -/
structure Bg where
  pb : Addr
  mem : Addr → Prop
  ok : Hp → Prop
  loc : ∀ H H' : Hp, (∀ a, mem a → H' a = H a) → ok H → ok H'
structure C extends Bg where
  B0 : Hp
  H0 : Hp
def C.isBag (c : C) (a : Addr) : Prop := c.mem a
structure BagOk (c : C) (B H : Hp) : Prop where
  out : ∀ a, c.isBag a → B a = none
  here : ∀ a, c.isBag a → H a ≠ none
  ok : c.ok H
theorem BagOk.keep {c : C} {B H B' H' : Hp} (b : BagOk c B H) (k : ∀ a, c.isBag a → B' a = B a ∧ H' a = H a) : BagOk c B' H' :=
  ⟨fun a ha => by rw [(k a ha).1]; exact b.out a ha, fun a ha => by rw [(k a ha).2]; exact b.here a ha, c.loc H H' (fun a ha => (k a ha).2) b.ok⟩
/-- the state of the data: B, what stands and is shared, within H -/
structure Wd (c : C) (B H : Hp) : Prop where
  sub : Ex B H
  bag : BagOk c B H
/-- from one state to a later one: nothing that stood has changed but the bag; what is shared grew by new objects -/
structure Gr (c : C) (B H B' H' : Hp) : Prop where
  b : Ex B B'
  h : ∀ a o, ¬ c.isBag a → H a = some o → H' a = some o
  n : ∀ a, H a ≠ none → B' a = B a
  w : Wd c B' H'
theorem Wd.nb {c : C} {B H : Hp} (w : Wd c B H) {a : Addr} {o : HO} (h : B a = some o) : ¬ c.isBag a := by
  intro z
  rw [w.bag.out a z] at h
  cases h
theorem Wd.there {c : C} {B H : Hp} (w : Wd c B H) {a : Addr} (h : c.isBag a) : H a ≠ none := w.bag.here a h
/-- what is not there is no part of the bag -/
theorem Wd.off {c : C} {B H : Hp} (w : Wd c B H) {a p : Addr} (h : c.isBag a) (hp : H p = none) : a ≠ p := fun z => w.there h (by rw [z]; exact hp)
theorem Gr.refl {c : C} {B H : Hp} (w : Wd c B H) : Gr c B H B H := ⟨Evl.Ex.refl B, fun _ _ _ h => h, fun _ _ => rfl, w⟩
theorem Gr.trans {c : C} {B H B1 H1 B2 H2 : Hp} (w : Wd c B H) (x : Gr c B H B1 H1) (y : Gr c B1 H1 B2 H2) : Gr c B H B2 H2 := by
  refine ⟨x.b.trans y.b, fun a o nb h => y.h a o nb (x.h a o nb h), fun a h => ?_, y.w⟩
  rw [← x.n a h]
  refine y.n a ?_
  by_cases hb : c.isBag a
  · exact x.w.there hb
  · cases e : H a with
    | none => exact absurd e h
    | some o => rw [x.h a o hb e]; exact fun q => nomatch q
/-- a new shared object -/
theorem Gr.new {c : C} {B H : Hp} (w : Wd c B H) {p : Addr} {o : HO} (hp : H p = none) : Gr c B H (upd B p o) (upd H p o) := by
  have hB : B p = none := Evl.fresh_back w.sub hp
  refine ⟨Evl.Ex.new hB, fun a u _ e => ?_, fun a e => ?_, fun a u e => ?_, w.bag.keep fun a ha => ⟨upd_ne (w.off ha hp), upd_ne (w.off ha hp)⟩⟩
  · rw [upd_ne (ne_of_none e hp)]; exact e
  · exact upd_ne fun z => e (by rw [z]; exact hp)
  · by_cases z : a = p
    · subst z; rw [upd_same] at e ⊢; exact e
    · rw [upd_ne z] at e ⊢; exact w.sub a u e
/-- a new object that is not shared (yet) -/
theorem Gr.newO {c : C} {B H : Hp} (w : Wd c B H) {p : Addr} {o : HO} (hp : H p = none) : Gr c B H B (upd H p o) := by
  have hB : B p = none := Evl.fresh_back w.sub hp
  refine ⟨Evl.Ex.refl B, fun a u _ e => ?_, fun a e => rfl, fun a u e => ?_, w.bag.keep fun a ha => ⟨rfl, upd_ne (w.off ha hp)⟩⟩
  · rw [upd_ne (ne_of_none e hp)]; exact e
  · have z : a ≠ p := ne_of_none e hB
    rw [upd_ne z]; exact w.sub a u e
/-! ### data that stands -/
def kD : Key → D
  | .inl i => .int i
  | .inr x => .str x
mutual
inductive Rp (B : Hp) : V → D → Prop
  | non : Rp B .non .none
  | bl (b : Bool) : Rp B (.bl b) (.bool b)
  | int (i : Int) : Rp B (.int i) (.int i)
  | str (x : Str) : Rp B (.str x) (.str x)
  | lst {a : Addr} {xs : List V} {ds : List D} : B a = some (.lst xs) → RpA B xs ds → Rp B (.ref a) (.list ds)
  | tup {a : Addr} {xs : List V} {ds : List D} : B a = some (.tup xs) → RpA B xs ds → Rp B (.ref a) (.tuple ds)
  | dct {a : Addr} {kvs : List (Key × V)} {ds : List D} : B a = some (.dK kvs) → RpA B (kvs.map (·.2)) ds → Rp B (.ref a) (.dict ((kvs.map fun p => kD p.1).zip ds))
inductive RpA (B : Hp) : List V → List D → Prop
  | nil : RpA B [] []
  | cons {v : V} {vs : List V} {d : D} {ds : List D} : Rp B v d → RpA B vs ds → RpA B (v :: vs) (d :: ds)
end
mutual
theorem rp_mono {B B' : Hp} (e : Ex B B') : ∀ {v : V} {d : D}, Rp B v d → Rp B' v d
  | _, _, .non => .non
  | _, _, .bl b => .bl b
  | _, _, .int i => .int i
  | _, _, .str x => .str x
  | _, _, .lst h1 h2 => .lst (e _ _ h1) (rpa_mono e h2)
  | _, _, .tup h1 h2 => .tup (e _ _ h1) (rpa_mono e h2)
  | _, _, .dct h1 h2 => .dct (e _ _ h1) (rpa_mono e h2)
theorem rpa_mono {B B' : Hp} (e : Ex B B') : ∀ {v : List V} {d : List D}, RpA B v d → RpA B' v d
  | _, _, .nil => .nil
  | _, _, .cons h1 h2 => .cons (rp_mono e h1) (rpa_mono e h2)
end
mutual
theorem rp_dp {K : PySem.W.Frag} {B : Hp} : ∀ {v : V} {d : D}, Rp B v d → d.canLay0 = true → Dp K B v d
  | _, _, .non, _ => .non
  | _, _, .bl b, _ => .bl b
  | _, _, .int i, _ => .int i
  | _, _, .str x, _ => .str x
  | _, _, .lst h1 h2, c => .lst (SqL.of h1) (rpa_dp h2 (by simpa [PyData.canLay0] using c))
  | _, _, .tup h1 h2, c => .tup (SqT.of h1) (rpa_dp h2 (by simpa [PyData.canLay0] using c))
  | _, _, .dct _ _, c => by simp [PyData.canLay0] at c
theorem rpa_dp {K : PySem.W.Frag} {B : Hp} : ∀ {v : List V} {d : List D}, RpA B v d → PyData.canLayAll0 d = true → DpAll K B v d
  | _, _, .nil, _ => .nil
  | _, _, .cons h1 h2, c => by
    have c' := c
    simp only [PyData.canLayAll0, Bool.and_eq_true] at c'
    exact .cons (rp_dp h1 c'.1) (rpa_dp h2 c'.2)
end
section
variable {B : Hp}
theorem rpa_len : ∀ {v : List V} {d : List D}, RpA B v d → v.length = d.length
  | _, _, .nil => rfl
  | _, _, .cons _ h2 => by rw [List.length_cons, List.length_cons, rpa_len h2]
theorem rpa_get : ∀ {vs : List V} {ds : List D} {i : Nat} {d : D}, RpA B vs ds → ds[i]? = some d → ∃ v, vs[i]? = some v ∧ Rp B v d
  | _, _, _, _, .nil, e => by simp at e
  | _, _, 0, _, .cons h1 _, e => by simp at e; subst e; exact ⟨_, rfl, h1⟩
  | _, _, i + 1, _, .cons _ h2, e => by
    obtain ⟨v, h3, h4⟩ := rpa_get (i := i) h2 (by simpa using e)
    exact ⟨v, by simpa using h3, h4⟩
theorem rpa_get' : ∀ {vs : List V} {ds : List D} {i : Nat} {v : V}, RpA B vs ds → vs[i]? = some v → ∃ d, ds[i]? = some d ∧ Rp B v d
  | _, _, _, _, .nil, e => by simp at e
  | _, _, 0, _, .cons h1 _, e => by simp at e; subst e; exact ⟨_, rfl, h1⟩
  | _, _, i + 1, _, .cons _ h2, e => by
    obtain ⟨v, h3, h4⟩ := rpa_get' (i := i) h2 (by simpa using e)
    exact ⟨v, by simpa using h3, h4⟩
theorem rpa_app : ∀ {vs ws : List V} {ds es : List D}, RpA B vs ds → RpA B ws es → RpA B (vs ++ ws) (ds ++ es)
  | _, _, _, _, .nil, h => h
  | _, _, _, _, .cons h1 h2, h => .cons h1 (rpa_app h2 h)
theorem rpa_take : ∀ {vs : List V} {ds : List D} (n : Nat), RpA B vs ds → RpA B (vs.take n) (ds.take n)
  | _, _, 0, _ => .nil
  | _, _, _ + 1, .nil => .nil
  | _, _, n + 1, .cons h1 h2 => .cons h1 (rpa_take n h2)
theorem rpa_drop : ∀ {vs : List V} {ds : List D} (n : Nat), RpA B vs ds → RpA B (vs.drop n) (ds.drop n)
  | _, _, 0, h => h
  | _, _, _ + 1, .nil => .nil
  | _, _, n + 1, .cons _ h2 => rpa_drop n h2
theorem rpa_set {v : V} {d : D} (h : Rp B v d) : ∀ {vs : List V} {ds : List D} (i : Nat), RpA B vs ds → RpA B (vs.set i v) (ds.set i d)
  | _, _, _, .nil => .nil
  | _, _, 0, .cons _ h2 => .cons h h2
  | _, _, i + 1, .cons h1 h2 => .cons h1 (rpa_set h i h2)
theorem rpa_rev : ∀ {vs : List V} {ds : List D}, RpA B vs ds → RpA B vs.reverse ds.reverse
  | _, _, .nil => .nil
  | _, _, .cons h1 h2 => by rw [List.reverse_cons, List.reverse_cons]; exact rpa_app (rpa_rev h2) (.cons h1 .nil)
theorem rpa_ints : ∀ {vs : List V} {ns : List Int}, RpA B vs (ns.map PyData.int) → vs = ns.map V.int
  | _, [], h => by cases h; rfl
  | _, n :: ns, h => by
    cases h with
    | cons h1 h2 =>
      cases h1
      rw [rpa_ints h2]; rfl
theorem rpa_of_ints : ∀ (ns : List Int), RpA B (ns.map V.int) (ns.map PyData.int)
  | [] => .nil
  | n :: ns => .cons (.int n) (rpa_of_ints ns)
theorem rpa_bls : ∀ {vs : List V} {ns : List Bool}, RpA B vs (ns.map PyData.bool) → vs = ns.map V.bl
  | _, [], h => by cases h; rfl
  | _, n :: ns, h => by
    cases h with
    | cons h1 h2 =>
      cases h1
      rw [rpa_bls h2]; rfl
theorem rpa_strs : ∀ {vs : List V} {ns : List Str}, RpA B vs (ns.map PyData.str) → vs = ns.map V.str
  | _, [], h => by cases h; rfl
  | _, n :: ns, h => by
    cases h with
    | cons h1 h2 =>
      cases h1
      rw [rpa_strs h2]; rfl
theorem rpa_nil_iff {vs : List V} {ds : List D} (h : RpA B vs ds) : vs = [] ↔ ds = [] := by
  have e := rpa_len h
  rw [← List.length_eq_zero_iff, ← List.length_eq_zero_iff, e]
theorem rp_lst {v : V} {ds : List D} (h : Rp B v (.list ds)) : ∃ a xs, v = .ref a ∧ B a = some (.lst xs) ∧ RpA B xs ds := by
  cases h with
  | lst h1 h2 => exact ⟨_, _, rfl, h1, h2⟩
theorem rp_tup {v : V} {ds : List D} (h : Rp B v (.tuple ds)) : ∃ a xs, v = .ref a ∧ B a = some (.tup xs) ∧ RpA B xs ds := by
  cases h with
  | tup h1 h2 => exact ⟨_, _, rfl, h1, h2⟩
theorem rp_int {v : V} {i : Int} (h : Rp B v (.int i)) : v = .int i := by cases h; rfl
theorem rp_bl {v : V} {i : Bool} (h : Rp B v (.bool i)) : v = .bl i := by cases h; rfl
theorem rp_str {v : V} {i : Str} (h : Rp B v (.str i)) : v = .str i := by cases h; rfl
theorem rp_non {v : V} (h : Rp B v .none) : v = .non := by cases h; rfl
end
/-- a value that may be read: shared, or a list of one's own -/
def Bw (c : C) (B H : Hp) (v : V) (d : D) : Prop :=
  Rp B v d ∨ ∃ p vs ds, v = .ref p ∧ d = .list ds ∧ ¬ c.isBag p ∧ B p = none ∧ H p = some (.lst vs) ∧ RpA B vs ds
section
variable {c : C} {B H B' H' : Hp} {v : V} {d : D}
theorem Bw.of (h : Rp B v d) : Bw c B H v d := .inl h
theorem Bw.mono (g : Gr c B H B' H') (h : Bw c B H v d) : Bw c B' H' v d := by
  rcases h with h | ⟨p, vs, ds, h1, h2, h3, h4, h5, h6⟩
  · exact .inl (rp_mono g.b h)
  · refine .inr ⟨p, vs, ds, h1, h2, h3, ?_, g.h p _ h3 h5, rpa_mono g.b h6⟩
    rw [g.n p (by rw [h5]; exact fun q => nomatch q)]; exact h4
theorem Bw.rp (w : Wd c B H) (h : Bw c B H v d) : Rp H v d := by
  rcases h with h | ⟨p, vs, ds, rfl, rfl, h3, h4, h5, h6⟩
  · exact rp_mono w.sub h
  · exact .lst h5 (rpa_mono w.sub h6)
theorem Bw.list {ds : List D} (w : Wd c B H) (h : Bw c B H v (.list ds)) : ∃ a xs, v = .ref a ∧ H a = some (.lst xs) ∧ RpA B xs ds := by
  rcases h with h | ⟨p, vs, es, rfl, e, h3, h4, h5, h6⟩
  · obtain ⟨a, xs, rfl, h1, h2⟩ := rp_lst h
    exact ⟨a, xs, rfl, w.sub _ _ h1, h2⟩
  · cases e
    exact ⟨p, vs, rfl, h5, h6⟩
theorem Bw.tup {ds : List D} (w : Wd c B H) (h : Bw c B H v (.tuple ds)) : ∃ a xs, v = .ref a ∧ H a = some (.tup xs) ∧ RpA B xs ds := by
  rcases h with h | ⟨p, vs, es, rfl, e, h3, h4, h5, h6⟩
  · obtain ⟨a, xs, rfl, h1, h2⟩ := rp_tup h
    exact ⟨a, xs, rfl, w.sub _ _ h1, h2⟩
  · cases e
theorem Bw.int {i : Int} (h : Bw c B H v (.int i)) : v = .int i := by
  rcases h with h | ⟨p, vs, es, rfl, e, _⟩
  · exact rp_int h
  · cases e
theorem Bw.bl {i : Bool} (h : Bw c B H v (.bool i)) : v = .bl i := by
  rcases h with h | ⟨p, vs, es, rfl, e, _⟩
  · exact rp_bl h
  · cases e
theorem Bw.str {i : Str} (h : Bw c B H v (.str i)) : v = .str i := by
  rcases h with h | ⟨p, vs, es, rfl, e, _⟩
  · exact rp_str h
  · cases e
theorem Bw.non (h : Bw c B H v .none) : v = .non := by
  rcases h with h | ⟨p, vs, es, rfl, e, _⟩
  · exact rp_non h
  · cases e
end
/-- what slot holds what -/
def SlOk (c : C) (B H : Hp) (σ : St) (i : Nat) : Sl → Prop
  | .un => True
  | .sh d => ∃ v, σ[i]? = some (some v) ∧ Rp B v d
  | .ow ds => ∃ p vs, σ[i]? = some (some (.ref p)) ∧ c.H0 p = none ∧ ¬ c.isBag p ∧ B p = none ∧ H p = some (.lst vs) ∧ RpA B vs ds
  | .bg => σ[i]? = some (some (.ref c.pb))
structure EOk (c : C) (B H : Hp) (σ : St) (ρ : Env) : Prop where
  w0 : Wd c c.B0 c.H0
  w : Wd c B H
  g : Gr c c.B0 c.H0 B H
  len : ρ.length = σ.length
  sl : ∀ i s, ρ[i]? = some s → SlOk c B H σ i s
  ap : ∀ (i j : Nat) (p : Addr) (ds es : List D), i ≠ j → ρ[i]? = some (Sl.ow ds) → ρ[j]? = some (Sl.ow es) → σ[i]? = some (some (V.ref p)) → ¬ σ[j]? = some (some (V.ref p))
section
variable {c : C} {B H B' H' : Hp} {σ : St} {ρ : Env}
theorem SlOk.mono {i : Nat} {s : Sl} (g : Gr c B H B' H') (h : SlOk c B H σ i s) : SlOk c B' H' σ i s := by
  cases s with
  | un => trivial
  | sh d => obtain ⟨v, h1, h2⟩ := h; exact ⟨v, h1, rp_mono g.b h2⟩
  | ow ds =>
    obtain ⟨p, vs, h1, h2, h3, h4, h5, h6⟩ := h
    refine ⟨p, vs, h1, h2, h3, ?_, g.h p _ h3 h5, rpa_mono g.b h6⟩
    rw [g.n p (by rw [h5]; exact fun q => nomatch q)]; exact h4
  | bg => exact h
theorem EOk.mono (e : EOk c B H σ ρ) (g : Gr c B H B' H') : EOk c B' H' σ ρ :=
  ⟨e.w0, g.w, e.g.trans e.w0 g, e.len, fun i s h => (e.sl i s h).mono g, e.ap⟩
end
end DL
namespace DL
open PySem L2 PyProof.Rows
abbrev SE := Env → (D → Prop) → Prop
abbrev ST := Env → (Bool → Prop) → Prop
abbrev SA := Env → (List Sl → Prop) → Prop
/-- the i-th slot -/
def lk : Env → Nat → Sl
  | [], _ => .un
  | s :: _, 0 => s
  | _ :: r, n + 1 => lk r n
theorem lk_get : ∀ {ρ : Env} {i : Nat} {s : Sl}, lk ρ i = s → s ≠ .un → ρ[i]? = some s
  | [], _, _, h, n => by simp only [lk] at h; exact absurd h.symm n
  | s :: _, 0, _, h, _ => by simp only [lk] at h; rw [h]; rfl
  | _ :: r, i + 1, s, h, n => by
    have := lk_get (ρ := r) (i := i) (s := s) (by simpa only [lk] using h) n
    simpa using this
def Mono (f : SE) : Prop := ∀ ρ (Q Q' : D → Prop), (∀ d, Q d → Q' d) → f ρ Q → f ρ Q'
def MonoT (f : ST) : Prop := ∀ ρ (Q Q' : Bool → Prop), (∀ d, Q d → Q' d) → f ρ Q → f ρ Q'
def MonoA (f : SA) : Prop := ∀ ρ (Q Q' : List Sl → Prop), (∀ d, Q d → Q' d) → f ρ Q → f ρ Q'
def toV (c : C) (f : SE) : TE := fun σ H Q => ∃ B ρ, EOk c B H σ ρ ∧ f ρ fun d => ∀ v B' H', Gr c B H B' H' → Rp B' v d → Q v H'
def toB (c : C) (f : SE) : TE := fun σ H Q => ∃ B ρ, EOk c B H σ ρ ∧ f ρ fun d => ∀ v B' H', Gr c B H B' H' → Bw c B' H' v d → Q v H'
def toT (c : C) (f : ST) : TT := fun σ H Q => ∃ B ρ, EOk c B H σ ρ ∧ f ρ fun b => ∀ B' H', Gr c B H B' H' → Q b H'
/-- an argument -/
def ArgOk (c : C) (B H : Hp) (v : V) : Sl → Prop
  | .sh d => Rp B v d
  | .bg => v = .ref c.pb
  | _ => False
def ArgsOk (c : C) (B H : Hp) : List V → List Sl → Prop
  | [], [] => True
  | v :: vs, s :: ss => ArgOk c B H v s ∧ ArgsOk c B H vs ss
  | _, _ => False
def toA (c : C) (f : SA) : TA := fun σ H Q => ∃ B ρ, EOk c B H σ ρ ∧ f ρ fun ss => ∀ vs B' H', Gr c B H B' H' → ArgsOk c B' H' vs ss → Q vs H'
theorem ArgOk.mono {c : C} {B H B' H' : Hp} (g : Gr c B H B' H') {v : V} {s : Sl} (h : ArgOk c B H v s) : ArgOk c B' H' v s := by
  cases s with
  | sh d => exact rp_mono g.b h
  | bg => exact h
  | un => exact h
  | ow ds => exact h
theorem ArgsOk.mono {c : C} {B H B' H' : Hp} (g : Gr c B H B' H') : ∀ {vs : List V} {ss : List Sl}, ArgsOk c B H vs ss → ArgsOk c B' H' vs ss
  | [], [], _ => trivial
  | _ :: _, _ :: _, h => ⟨h.1.mono g, ArgsOk.mono g h.2⟩
  | [], _ :: _, h => h
  | _ :: _, [], h => h
structure PV (X : Cx) (c : C) (e : Expr) (f : SE) : Prop where
  mono : Mono f
  pe : PE X e (toV c f)
structure PB (X : Cx) (c : C) (e : Expr) (f : SE) : Prop where
  mono : Mono f
  pe : PE X e (toB c f)
structure PTd (X : Cx) (c : C) (e : Expr) (f : ST) : Prop where
  mono : MonoT f
  pt : PT X e (toT c f)
structure PAd (X : Cx) (c : C) (es : List Expr) (f : SA) : Prop where
  mono : MonoA f
  pa : PA X es (toA c f)
theorem pe_weak {X : Cx} {e : Expr} {t t' : TE} (h : PE X e t) (w : ∀ σ H Q, t' σ H Q → t σ H Q) : PE X e t' := ⟨fun pins s σ H Q I q => h.run pins s σ H Q I (w σ H Q q)⟩
theorem pt_weak {X : Cx} {e : Expr} {t t' : TT} (h : PT X e t) (w : ∀ σ H Q, t' σ H Q → t σ H Q) : PT X e t' := ⟨fun pins s σ H Q I q => h.run pins s σ H Q I (w σ H Q q)⟩
theorem pa_weak {X : Cx} {e : List Expr} {t t' : TA} (h : PA X e t) (w : ∀ σ H Q, t' σ H Q → t σ H Q) : PA X e t' := ⟨fun pos pins s σ H Q I q => h.run pos pins s σ H Q I (w σ H Q q)⟩
theorem ps_weak {X : Cx} {e : Stmt} {t t' : TS} (h : PS X e t) (w : ∀ D σ H, t' D σ H → t D σ H) : PS X e t' := ⟨fun pins s σ H D I q => h.run pins s σ H D I (w D σ H q)⟩
theorem pss_weak {X : Cx} {e : List Stmt} {t t' : TS} (h : PSs X e t) (w : ∀ D σ H, t' D σ H → t D σ H) : PSs X e t' := ⟨fun pins s σ H D I q => h.run pins s σ H D I (w D σ H q)⟩
section
variable {X : Cx} {c : C}
/-- what stands may be read -/
theorem PV.b {e : Expr} {f : SE} (h : PV X c e f) : PB X c e f :=
  ⟨h.mono, pe_weak h.pe fun σ H Q ⟨B, ρ, ok, q⟩ => ⟨B, ρ, ok, h.mono _ _ _ (fun d k v B' H' g r => k v B' H' g (.inl r)) q⟩⟩
/-! ### names, constants -/
def fV (i : Nat) : SE := fun ρ Q => match lk ρ i with | .sh d => Q d | _ => False
def fN (i : Nat) : SE := fun ρ Q => match lk ρ i with | .sh d => Q d | .ow ds => Q (.list ds) | _ => False
def fC (d : D) : SE := fun _ Q => Q d
theorem v_name (i : Nat) {x : Str} {pos : Pos} (hN : X.N[i]? = some x := by rfl) (hv : Vis X.env.scope x := by first | exact Or.inl rfl | exact Or.inr (Or.inl rfl) | exact Or.inr (Or.inr rfl))
    (hd : (x == ("__debug__" : Str)) = false := by decide) (hcd : (x == ("__classdict__" : Str)) = false := by decide) : PV X c (.Name x pos) (fV i) := by
  refine ⟨fun ρ Q Q' k h => ?_, pe_weak (pe_var hN hv hd hcd) fun σ H Q ⟨B, ρ, ok, h⟩ => ?_⟩
  · unfold fV at h ⊢
    cases e : lk ρ i with
    | sh d => rw [e] at h; exact k d h
    | _ => rw [e] at h; exact h
  · unfold fV at h
    cases e : lk ρ i with
    | sh d =>
      rw [e] at h
      obtain ⟨v, h1, h2⟩ := ok.sl i _ (lk_get e (fun z => nomatch z))
      exact ⟨v, h1, h v B H (Gr.refl ok.w) h2⟩
    | _ => rw [e] at h; exact h.elim
theorem b_name (i : Nat) {x : Str} {pos : Pos} (hN : X.N[i]? = some x := by rfl) (hv : Vis X.env.scope x := by first | exact Or.inl rfl | exact Or.inr (Or.inl rfl) | exact Or.inr (Or.inr rfl))
    (hd : (x == ("__debug__" : Str)) = false := by decide) (hcd : (x == ("__classdict__" : Str)) = false := by decide) : PB X c (.Name x pos) (fN i) := by
  refine ⟨fun ρ Q Q' k h => ?_, pe_weak (pe_var hN hv hd hcd) fun σ H Q ⟨B, ρ, ok, h⟩ => ?_⟩
  · unfold fN at h ⊢
    cases e : lk ρ i with
    | sh d => rw [e] at h; exact k d h
    | ow d => rw [e] at h; exact k _ h
    | _ => rw [e] at h; exact h
  · unfold fN at h
    cases e : lk ρ i with
    | sh d =>
      rw [e] at h
      obtain ⟨v, h1, h2⟩ := ok.sl i _ (lk_get e (fun z => nomatch z))
      exact ⟨v, h1, h v B H (Gr.refl ok.w) (.inl h2)⟩
    | ow ds =>
      rw [e] at h
      obtain ⟨p, vs, h1, h2, h3, h4, h5, h6⟩ := ok.sl i _ (lk_get e (fun z => nomatch z))
      exact ⟨_, h1, h _ B H (Gr.refl ok.w) (.inr ⟨p, vs, ds, rfl, rfl, h3, h4, h5, h6⟩)⟩
    | _ => rw [e] at h; exact h.elim
theorem mono_C {d : D} : Mono (fC d) := fun _ _ _ k h => k _ h
theorem cst {e : Expr} {v : V} {d : D} (h : PE X e (tC v)) (r : ∀ B, Rp B v d) : PV X c e (fC d) :=
  ⟨mono_C, pe_weak h fun σ H Q ⟨B, ρ, ok, q⟩ => q v B H (Gr.refl ok.w) (r B)⟩
theorem v_int {i : Int} {j : Nat} {pos : Pos} : PV X c (.Constant (.int i) j pos) (fC (.int i)) := cst pe_int fun _ => .int i
theorem v_bl {i : Bool} {j : Nat} {pos : Pos} : PV X c (.Constant (.bool i) j pos) (fC (.bool i)) := cst pe_bl fun _ => .bl i
theorem v_non {j : Nat} {pos : Pos} : PV X c (.Constant .none j pos) (fC .none) := cst pe_non fun _ => .non
theorem v_str {i : Str} {j : Nat} {pos : Pos} : PV X c (.Constant (.str i) j pos) (fC (.str i)) := cst pe_str fun _ => .str i
/-- a module's constant that is an int -/
theorem v_glob {x : Str} {i : Int} {t : Tok} {pos : Pos} (hg : Gl X x) (hm : X.mg x = some (.int i t)) (hd : (x == ("__debug__" : Str)) = false := by decide) : PV X c (.Name x pos) (fC (.int i)) :=
  cst (v := .int i) (pe_glob hg hm ⟨t, rfl⟩ hd) fun _ => .int i
/-! ### two-place operations -/
abbrev G2 := D → D → (D → Prop) → Prop
def MonoG (g : G2) : Prop := ∀ d e (Q Q' : D → Prop), (∀ z, Q z → Q' z) → g d e Q → g d e Q'
def rD (c : C) (g : G2) : R2 := fun x y H Q => ∃ B d e, Wd c B H ∧ Bw c B H x d ∧ Bw c B H y e ∧ g d e fun z => ∀ v B' H', Gr c B H B' H' → Rp B' v z → Q v H'
structure OpD (X : Cx) (c : C) (f : Value → Value → Sem Value) (g : G2) : Prop where
  mono : MonoG g
  op : OpR X f (rD c g)
theorem opr_weak {f : Value → Value → Sem Value} {r r' : R2} (h : OpR X f r) (w : ∀ x y H Q, r' x y H Q → r x y H Q) : OpR X f r' := fun pins s σ H x y v u Q I rx ry q => h pins s σ H x y v u Q I rx ry (w x y H Q q)
def fBin (g : G2) (fa fb : SE) : SE := fun ρ Q => fa ρ fun d => fb ρ fun e => g d e Q
theorem mono_Bin {g : G2} {fa fb : SE} (hg : MonoG g) (ha : Mono fa) (hb : Mono fb) : Mono (fBin g fa fb) := fun ρ Q Q' k h =>
  ha ρ _ _ (fun d hd => hb ρ _ _ (fun e he => hg d e _ _ k he) hd) h
theorem bin_go {g : G2} {fa fb : SE} (hg : MonoG g) (ha : Mono fa) (hb : Mono fb) (σ : L2.St) (H : Hp) (Q : VK) (h : toV c (fBin g fa fb) σ H Q) : tOp (rD c g) (toB c fa) (toB c fb) σ H Q := by
  obtain ⟨B, ρ, ok, h⟩ := h
  refine ⟨B, ρ, ok, ha _ _ _ (fun d hd v B1 H1 g1 r1 => ?_) h⟩
  refine ⟨B1, ρ, ok.mono g1, hb _ _ _ (fun e he u B2 H2 g2 r2 => ?_) hd⟩
  exact ⟨B2, d, e, g2.w, r1.mono g2, r2, hg _ _ _ _ (fun z hz w B3 H3 g3 r3 => hz w B3 H3 ((g1.trans ok.w g2).trans ok.w g3) r3) he⟩
theorem v_bin {op : Operator} {g : G2} {a b : Expr} {fa fb : SE} {pos : Pos} (ho : OpD X c (binaryOp op) g) (ha : PB X c a fa) (hb : PB X c b fb) : PV X c (.BinOp a op b pos) (fBin g fa fb) :=
  ⟨mono_Bin ho.mono ha.mono hb.mono, pe_weak (pe_op ho.op ha.pe hb.pe) (bin_go ho.mono ha.mono hb.mono)⟩
def gSub : G2 | .int i, .int j, Q => Q (.int (i - j)) | _, _, _ => False
def gAdd : G2
  | .int i, .int j, Q => Q (.int (i + j))
  | .tuple xs, .tuple ys, Q => xs.length + ys.length ≤ sizeLine ∧ Q (.tuple (xs ++ ys))
  | .list xs, .list ys, Q => xs.length + ys.length ≤ sizeLine ∧ Q (.list (xs ++ ys))
  | .str x, .str y, Q => x.length + y.length ≤ sizeLine ∧ Q (.str (x ++ y))
  | _, _, _ => False
def gMul : G2 | .int i, .int j, Q => CMulW i j ∧ Q (.int (i * j)) | _, _, _ => False
def gDiv : G2 | .int i, .int j, Q => j.natAbs.log2 < 9000 ∧ (if 0 < j then Q (.int (i / j)) else j ≠ 0 ∧ Q (.int (i.fdiv j))) | _, _, _ => False
def gMod : G2 | .int i, .int j, Q => (if 0 < j then Q (.int (i % j)) else j ≠ 0 ∧ Q (.int (i.fmod j))) | _, _, _ => False
def gPow : G2 | .int i, .int j, Q => CPow i j ∧ Q (.int (i ^ j.toNat)) | _, _, _ => False
def gShl : G2 | .int i, .int j, Q => CPow i j ∧ Q (.int (i * 2 ^ j.toNat)) | _, _, _ => False
def gShr : G2 | .int i, .int j, Q => 0 ≤ j ∧ Q (.int (i / 2 ^ j.toNat)) | _, _, _ => False
theorem opd_int {f : Value → Value → Sem Value} {g : G2} {P : Int → Int → Prop} {k : Int → Int → Int} (h : OpR X f (rI P fun i j => .int (k i j)))
    (hg : ∀ d e Q, g d e Q → ∃ i j, d = .int i ∧ e = .int j ∧ P i j ∧ Q (.int (k i j))) (m : MonoG g) : OpD X c f g :=
  ⟨m, opr_weak h fun x y H Q ⟨B, d, e, w, r1, r2, q⟩ => by
    obtain ⟨i, j, e1, e2, p, q2⟩ := hg d e _ q
    subst e1 e2
    exact ⟨i, j, r1.int, r2.int, p, q2 _ B H (Gr.refl w) (.int _)⟩⟩
theorem rI0_I {f : Value → Value → Sem Value} {k : Int → Int → V} (h : OpR X f (rI0 k)) : OpR X f (rI (fun _ _ => True) k) := opr_weak h fun _ _ _ _ ⟨i, j, h1, h2, _, h3⟩ => ⟨i, j, h1, h2, h3⟩
theorem m_Sub : MonoG gSub := fun d e Q Q' k h => by cases d <;> cases e <;> first | exact k _ h | exact h.elim
theorem o_sub : OpD X c (binaryOp .Sub) gSub := opd_int (rI0_I op_sub) (fun d e Q h => by cases d <;> cases e <;> first | exact ⟨_, _, rfl, rfl, trivial, h⟩ | exact h.elim) m_Sub
theorem m_Mul : MonoG gMul := fun d e Q Q' k h => by cases d <;> cases e <;> first | exact ⟨h.1, k _ h.2⟩ | exact h.elim
theorem o_mul : OpD X c (binaryOp .Mult) gMul := opd_int op_mulW (fun d e Q h => by cases d <;> cases e <;> first | exact ⟨_, _, rfl, rfl, h.1, h.2⟩ | exact h.elim) m_Mul
theorem m_Pow : MonoG gPow := fun d e Q Q' k h => by cases d <;> cases e <;> first | exact ⟨h.1, k _ h.2⟩ | exact h.elim
theorem o_pow : OpD X c (binaryOp .Pow) gPow := opd_int op_pow (fun d e Q h => by cases d <;> cases e <;> first | exact ⟨_, _, rfl, rfl, h.1, h.2⟩ | exact h.elim) m_Pow
theorem m_Shl : MonoG gShl := fun d e Q Q' k h => by cases d <;> cases e <;> first | exact ⟨h.1, k _ h.2⟩ | exact h.elim
theorem o_shl : OpD X c (binaryOp .LShift) gShl := opd_int op_shl (fun d e Q h => by cases d <;> cases e <;> first | exact ⟨_, _, rfl, rfl, h.1, h.2⟩ | exact h.elim) m_Shl
theorem m_Shr : MonoG gShr := fun d e Q Q' k h => by cases d <;> cases e <;> first | exact ⟨h.1, k _ h.2⟩ | exact h.elim
theorem o_shr : OpD X c (binaryOp .RShift) gShr := opd_int (P := fun _ j => 0 ≤ j) op_shr (fun d e Q h => by cases d <;> cases e <;> first | exact ⟨_, _, rfl, rfl, h.1, h.2⟩ | exact h.elim) m_Shr
theorem op_fdivA : OpR X (binaryOp .FloorDiv) (rI (fun _ j => j ≠ 0 ∧ j.natAbs.log2 < 9000) fun i j => .int (i.fdiv j)) := opI fun i j _ _ _ _ _ hc q => by
  exact floordiv_int hc.1 q (.inl (PyProof.noPylong_of_log2 hc.2))
theorem m_Div : MonoG gDiv := fun d e Q Q' k h => by
  cases d <;> cases e <;> first
    | exact h.elim
    | (refine ⟨h.1, ?_⟩
       have h2 := h.2
       split at h2
       · rw [if_pos (by assumption)]; exact k _ h2
       · rw [if_neg (by assumption)]; exact ⟨h2.1, k _ h2.2⟩)
theorem o_div : OpD X c (binaryOp .FloorDiv) gDiv := opd_int op_fdivA (fun d e Q h => by
  cases d <;> cases e <;> first
    | exact h.elim
    | (refine ⟨_, _, rfl, rfl, ?_⟩
       obtain ⟨h1, h2⟩ := h
       split at h2
       · rename_i hp
         exact ⟨⟨by omega, h1⟩, by rw [Int.fdiv_eq_ediv_of_nonneg _ (by omega)]; exact h2⟩
       · exact ⟨⟨h2.1, h1⟩, h2.2⟩)) m_Div
theorem m_Mod : MonoG gMod := fun d e Q Q' k h => by
  cases d <;> cases e <;> first
    | exact h.elim
    | (have h2 := h
       simp only [gMod] at h2 ⊢
       split at h2
       · rw [if_pos (by assumption)]; exact k _ h2
       · rw [if_neg (by assumption)]; exact ⟨h2.1, k _ h2.2⟩)
theorem o_mod : OpD X c (binaryOp .Mod) gMod := opd_int op_modN (fun d e Q h => by
  cases d <;> cases e <;> first
    | exact h.elim
    | (refine ⟨_, _, rfl, rfl, ?_⟩
       have h2 := h
       simp only [gMod] at h2
       split at h2
       · rename_i hp
         exact ⟨by omega, by rw [Int.fmod_eq_emod_of_nonneg _ (by omega)]; exact h2⟩
       · exact ⟨h2.1, h2.2⟩)) m_Mod
theorem m_Add : MonoG gAdd := fun d e Q Q' k h => by cases d <;> cases e <;> first | exact k _ h | exact ⟨h.1, k _ h.2⟩ | exact h.elim
theorem o_add : OpD X c (binaryOp .Add) gAdd := by
  refine ⟨m_Add, fun pins s σ H x y v u Q I rx ry ⟨B, d, e, w, r1, r2, q⟩ => ?_⟩
  cases d <;> cases e <;> first | exact q.elim | skip
  · exact op_add pins s σ H x y v u Q I rx ry ⟨_, _, r1.int, r2.int, q _ B H (Gr.refl w) (.int _)⟩
  · exact op_add_str pins s σ H x y v u Q I rx ry ⟨_, _, r1.str, r2.str, q.1, q.2 _ B H (Gr.refl w) (.str _)⟩
  · obtain ⟨a, xs, rfl, h1, h2⟩ := r1.list w
    obtain ⟨b, ys, rfl, h3, h4⟩ := r2.list w
    refine op_cat pins s σ H _ _ v u Q I rx ry ⟨a, b, xs, ys, rfl, rfl, h1, h3, ?_, fun p hp => ?_⟩
    · rw [rpa_len h2, rpa_len h4]; exact q.1
    · have g := Gr.new (o := .lst (xs ++ ys)) w hp
      exact q.2 _ _ _ g (.lst upd_same (rpa_app (rpa_mono g.b h2) (rpa_mono g.b h4)))
  · obtain ⟨a, xs, rfl, h1, h2⟩ := r1.tup w
    obtain ⟨b, ys, rfl, h3, h4⟩ := r2.tup w
    refine op_catA pins s σ H _ _ v u Q I rx ry ⟨a, b, xs, ys, rfl, rfl, SqT.of h1, SqT.of h3, ?_, fun z => ?_, fun _ z => ?_, fun _ _ p hp => ?_⟩
    · rw [rpa_len h2, rpa_len h4]; exact q.1
    · have z' := (rpa_nil_iff h2).mp z
      subst z'
      rcases r2 with r2 | ⟨_, _, _, _, e, _⟩
      · exact q.2 _ B H (Gr.refl w) r2
      · cases e
    · have z' := (rpa_nil_iff h4).mp z
      subst z'
      rcases r1 with r1 | ⟨_, _, _, _, e, _⟩
      · have q2 := q.2
        rw [List.append_nil] at q2
        exact q2 _ B H (Gr.refl w) r1
      · cases e
    · have g := Gr.new (o := .tup (xs ++ ys)) w hp
      exact q.2 _ _ _ g (.tup upd_same (rpa_app (rpa_mono g.b h2) (rpa_mono g.b h4)))
/-! ### one place -/
def fNeg (fa : SE) : SE := fun ρ Q => fa ρ fun d => match d with | .int i => Q (.int (-i)) | _ => False
theorem v_neg {a : Expr} {fa : SE} {pos : Pos} (ha : PB X c a fa) : PV X c (.UnaryOp .USub a pos) (fNeg fa) := by
  refine ⟨fun ρ Q Q' k h => ha.mono _ _ _ (fun d hd => ?_) h, pe_weak (pe_un un_neg ha.pe) fun σ H Q ⟨B, ρ, ok, h⟩ => ?_⟩
  · cases d <;> first | exact k _ hd | exact hd.elim
  · refine ⟨B, ρ, ok, ha.mono _ _ _ (fun d hd v B1 H1 g1 r1 => ?_) h⟩
    cases d <;> first | exact hd.elim | skip
    rename_i i
    exact ⟨i, r1.int, hd _ B1 H1 g1 (.int _)⟩
/-! ### comparisons -/
abbrev GC := D → D → (Bool → Prop) → Prop
def MonoC (g : GC) : Prop := ∀ d e (Q Q' : Bool → Prop), (∀ z, Q z → Q' z) → g d e Q → g d e Q'
def rC (c : C) (g : GC) : R2 := fun x y H Q => ∃ B d e, Wd c B H ∧ Bw c B H x d ∧ Bw c B H y e ∧ g d e fun b => Q (.bl b) H
structure CmpD (X : Cx) (c : C) (op : CmpOp) (g : GC) : Prop where
  mono : MonoC g
  op : OpR X (compareOp op) (rC c g)
def gv (g : GC) : G2 := fun d e Q => g d e fun b => Q (.bool b)
def fCmp (g : GC) (fa fb : SE) : ST := fun ρ Q => fa ρ fun d => fb ρ fun e => g d e Q
theorem CmpD.v {op : CmpOp} {g : GC} (h : CmpD X c op g) : OpD X c (compareOp op) (gv g) :=
  ⟨fun d e Q Q' k q => h.mono d e _ _ (fun b hb => k _ hb) q, opr_weak h.op fun x y H Q ⟨B, d, e, w, r1, r2, q⟩ => ⟨B, d, e, w, r1, r2, h.mono _ _ _ _ (fun b hb => hb _ B H (Gr.refl w) (.bl b)) q⟩⟩
theorem v_cmp {op : CmpOp} {g : GC} {a b : Expr} {fa fb : SE} {pos : Pos} (ho : CmpD X c op g) (ha : PB X c a fa) (hb : PB X c b fb) (hm : behindInMarks op b = false := by first | exact nomark _ | with_unfolding_all rfl) : PV X c (.Compare a [op] [b] pos) (fBin (gv g) fa fb) :=
  ⟨mono_Bin ho.v.mono ha.mono hb.mono, pe_weak (pe_cmpR ho.v.op ha.pe hb.pe hm) (bin_go ho.v.mono ha.mono hb.mono)⟩
theorem t_cmp {op : CmpOp} {g : GC} {a b : Expr} {fa fb : SE} {pos : Pos} (ho : CmpD X c op g) (ha : PB X c a fa) (hb : PB X c b fb) (hm : behindInMarks op b = false := by first | exact nomark _ | with_unfolding_all rfl) : PTd X c (.Compare a [op] [b] pos) (fCmp g fa fb) := by
  refine ⟨fun ρ Q Q' k h => ha.mono _ _ _ (fun d hd => hb.mono _ _ _ (fun e he => ho.mono _ _ _ _ k he) hd) h, pt_weak (pt_cmpR ho.op ha.pe hb.pe hm) fun σ H Q ⟨B, ρ, ok, h⟩ => ?_⟩
  refine ⟨B, ρ, ok, ha.mono _ _ _ (fun d hd v B1 H1 g1 r1 => ?_) h⟩
  refine ⟨B1, ρ, ok.mono g1, hb.mono _ _ _ (fun e he u B2 H2 g2 r2 => ?_) hd⟩
  exact ⟨B2, d, e, g2.w, r1.mono g2, r2, ho.mono _ _ _ _ (fun b hb => ⟨b, rfl, hb B2 H2 (g1.trans ok.w g2)⟩) he⟩
def gLt : GC | .int i, .int j, Q => Q (decide (i < j)) | _, _, _ => False
def gLe : GC | .int i, .int j, Q => Q (decide (i ≤ j)) | _, _, _ => False
def gGt : GC | .int i, .int j, Q => Q (decide (j < i)) | _, _, _ => False
def gGe : GC | .int i, .int j, Q => Q (decide (j ≤ i)) | _, _, _ => False
theorem cmpd_int {op : CmpOp} {g : GC} {k : Int → Int → Bool} (h : OpR X (compareOp op) (rI0 fun i j => .bl (k i j))) (hg : ∀ d e Q, g d e Q → ∃ i j, d = .int i ∧ e = .int j ∧ Q (k i j)) (m : MonoC g) : CmpD X c op g :=
  ⟨m, opr_weak h fun x y H Q ⟨B, d, e, w, r1, r2, q⟩ => by
    obtain ⟨i, j, e1, e2, q2⟩ := hg d e _ q
    subst e1 e2
    exact ⟨i, j, r1.int, r2.int, q2⟩⟩
theorem m_Lt : MonoC gLt := fun d e Q Q' k h => by cases d <;> cases e <;> first | exact k _ h | exact h.elim
theorem m_Le : MonoC gLe := fun d e Q Q' k h => by cases d <;> cases e <;> first | exact k _ h | exact h.elim
theorem m_Gt : MonoC gGt := fun d e Q Q' k h => by cases d <;> cases e <;> first | exact k _ h | exact h.elim
theorem m_Ge : MonoC gGe := fun d e Q Q' k h => by cases d <;> cases e <;> first | exact k _ h | exact h.elim
theorem o_lt : CmpD X c .Lt gLt := cmpd_int op_lt (fun d e Q h => by cases d <;> cases e <;> first | exact ⟨_, _, rfl, rfl, h⟩ | exact h.elim) m_Lt
theorem o_le : CmpD X c .LtE gLe := cmpd_int op_le (fun d e Q h => by cases d <;> cases e <;> first | exact ⟨_, _, rfl, rfl, h⟩ | exact h.elim) m_Le
theorem o_gt : CmpD X c .Gt gGt := cmpd_int op_gt (fun d e Q h => by cases d <;> cases e <;> first | exact ⟨_, _, rfl, rfl, h⟩ | exact h.elim) m_Gt
theorem o_ge : CmpD X c .GtE gGe := cmpd_int op_ge (fun d e Q h => by cases d <;> cases e <;> first | exact ⟨_, _, rfl, rfl, h⟩ | exact h.elim) m_Ge
/-- equality: ints by themselves, else data -/
def gEq : GC
  | .int i, .int j, Q => Q (decide (i = j))
  | .str x, .str y, Q => Q (decide (x = y))
  | .bool a, .bool b, Q => Q (decide (a = b))
  | d, e, Q => SeqAt.shaped d = true ∧ SeqAt.shaped e = true ∧ Q (PyData.eqv d e)
def gNe : GC
  | .int i, .int j, Q => Q (!decide (i = j))
  | .str x, .str y, Q => Q (!decide (x = y))
  | .bool a, .bool b, Q => Q (!decide (a = b))
  | d, e, Q => SeqAt.shaped d = true ∧ SeqAt.shaped e = true ∧ Q (!PyData.eqv d e)
theorem m_Eq : MonoC gEq := fun d e Q Q' k h => by
  unfold gEq at h ⊢
  split at h <;> first | exact k _ h | exact ⟨h.1, h.2.1, k _ h.2.2⟩
theorem m_Ne : MonoC gNe := fun d e Q Q' k h => by
  unfold gNe at h ⊢
  split at h <;> first | exact k _ h | exact ⟨h.1, h.2.1, k _ h.2.2⟩
theorem eqv_int (i j : Int) : PyData.eqv (.int i) (.int j) = decide (i = j) := by
  simp only [PyData.eqv]
  rfl
theorem shaped_int (i : Int) : SeqAt.shaped (.int i) = true := by simp [SeqAt.shaped, PyData.canLay0, PyData.depth]
theorem opr_or {f : Value → Value → Sem Value} {r r' : R2} (h : OpR X f r) (h' : OpR X f r') : OpR X f fun x y H Q => r x y H Q ∨ r' x y H Q := fun pins s σ H x y v u Q I rx ry q => q.elim (h pins s σ H x y v u Q I rx ry) (h' pins s σ H x y v u Q I rx ry)
theorem o_eq (hu : X.A.units + 64 < cLine) : CmpD X c .Eq gEq := by
  refine ⟨m_Eq, opr_weak (opr_or (op_eqD hu) op_eq) fun x y H Q ⟨B, d, e, w, r1, r2, q⟩ => ?_⟩
  have gen : (SeqAt.shaped d = true ∧ SeqAt.shaped e = true ∧ Q (.bl (PyData.eqv d e)) H) → rEqD X.K x y H Q ∨ rEq x y H Q := fun q' =>
    .inl ⟨d, e, rp_dp (r1.rp w) (SeqAt.canLay_of_shaped q'.1), rp_dp (r2.rp w) (SeqAt.canLay_of_shaped q'.2.1), q'.1, q'.2.1, q'.2.2⟩
  unfold gEq at q
  split at q
  · exact gen ⟨shaped_int _, shaped_int _, by rw [eqv_int]; exact q⟩
  · rw [r1.str, r2.str]
    refine .inr ⟨rfl, ?_⟩
    simpa using q
  · rw [r1.bl, r2.bl]
    refine .inr ⟨rfl, ?_⟩
    simpa using q
  · exact gen q
theorem o_ne (hu : X.A.units + 64 < cLine) : CmpD X c .NotEq gNe := by
  refine ⟨m_Ne, opr_weak (opr_or (op_neD hu) op_ne) fun x y H Q ⟨B, d, e, w, r1, r2, q⟩ => ?_⟩
  have gen : (SeqAt.shaped d = true ∧ SeqAt.shaped e = true ∧ Q (.bl (!PyData.eqv d e)) H) → rNeD X.K x y H Q ∨ rNe x y H Q := fun q' =>
    .inl ⟨d, e, rp_dp (r1.rp w) (SeqAt.canLay_of_shaped q'.1), rp_dp (r2.rp w) (SeqAt.canLay_of_shaped q'.2.1), q'.1, q'.2.1, q'.2.2⟩
  unfold gNe at q
  split at q
  · exact gen ⟨shaped_int _, shaped_int _, by rw [eqv_int]; exact q⟩
  · rw [r1.str, r2.str]
    refine .inr ⟨rfl, ?_⟩
    simpa using q
  · rw [r1.bl, r2.bl]
    refine .inr ⟨rfl, ?_⟩
    simpa using q
  · exact gen q
/-- is None -/
def isNone : D → Bool | .none => true | _ => false
def gIsN : GC | d, .none, Q => Q (isNone d) | _, _, _ => False
def gNotN : GC | d, .none, Q => Q (!isNone d) | _, _, _ => False
theorem m_IsN : MonoC gIsN := fun d e Q Q' k h => by cases e <;> first | exact k _ h | exact h.elim
theorem m_NotN : MonoC gNotN := fun d e Q Q' k h => by cases e <;> first | exact k _ h | exact h.elim
theorem bw_none {B H : Hp} {v : V} {d : D} (r : Bw c B H v d) : decide (v = .non) = isNone d := by
  rcases r with r | ⟨p, vs, ds, rfl, rfl, _⟩
  · cases r <;> rfl
  · rfl
theorem o_isN : CmpD X c .Is gIsN := ⟨m_IsN, opr_weak op_isN fun x y H Q ⟨B, d, e, w, r1, r2, q⟩ => by
  cases e <;> first | exact q.elim | exact ⟨r2.non, by rw [bw_none r1]; exact q⟩⟩
theorem o_notN : CmpD X c .IsNot gNotN := ⟨m_NotN, opr_weak op_notN fun x y H Q ⟨B, d, e, w, r1, r2, q⟩ => by
  cases e <;> first | exact q.elim | exact ⟨r2.non, by rw [bw_none r1]; exact q⟩⟩
/-! ### truth -/
def fTV (fa : SE) : ST := fun ρ Q => fa ρ fun d => match d with | .bool b => Q b | _ => False
theorem t_val {e : Expr} {fa : SE} (ha : PB X c e fa) (he : ∀ whole, isTrue e X.env whole = (do let v ← whole; standAt e.pos; holding [v] (truthy v)) := by intro _; rfl) : PTd X c e (fTV fa) := by
  refine ⟨fun ρ Q Q' k h => ha.mono _ _ _ (fun d hd => ?_) h, pt_weak (pt_val ha.pe he) fun σ H Q ⟨B, ρ, ok, h⟩ => ?_⟩
  · cases d <;> first | exact k _ hd | exact hd.elim
  · refine ⟨B, ρ, ok, ha.mono _ _ _ (fun d hd v B1 H1 g1 r1 => ?_) h⟩
    cases d <;> first | exact hd.elim | skip
    rename_i i
    exact ⟨i, r1.bl, hd B1 H1 g1⟩
def fNot (fa : ST) : ST := fun ρ Q => fa ρ fun b => Q (!b)
theorem t_not {a : Expr} {fa : ST} {pos : Pos} (ha : PTd X c a fa) : PTd X c (.UnaryOp .Not a pos) (fNot fa) :=
  ⟨fun ρ Q Q' k h => ha.mono _ _ _ (fun b hb => k _ hb) h, pt_weak (pt_not ha.pt) fun σ H Q ⟨B, ρ, ok, h⟩ => ⟨B, ρ, ok, h⟩⟩
/-- a chain of and, of or -/
structure PWd (X : Cx) (c : C) (e : Expr) (f : ST) : Prop where
  mono : MonoT f
  pw : PW X e (toT c f)
theorem pw_weak {X : Cx} {e : Expr} {t t' : TT} (h : PW X e t) (w : ∀ σ H Q, t' σ H Q → t σ H Q) : PW X e t' := ⟨fun wh pins s σ H Q I q => h.run wh pins s σ H Q I (w σ H Q q)⟩
def fAnd (fa fb : ST) : ST := fun ρ Q => fa ρ fun b => if b = true then fb ρ Q else Q false
def fOr (fa fb : ST) : ST := fun ρ Q => fa ρ fun b => if b = true then Q true else fb ρ Q
theorem PWd.t {e : Expr} {f : ST} (h : PWd X c e f) : PTd X c e f := ⟨h.mono, h.pw.pt⟩
theorem w_and1 {a : Expr} {fa : ST} {pos : Pos} (ha : PTd X c a fa) : PWd X c (.BoolOp .And [a] pos) fa := ⟨ha.mono, pw_and1 ha.pt⟩
theorem w_or1 {a : Expr} {fa : ST} {pos : Pos} (ha : PTd X c a fa) : PWd X c (.BoolOp .Or [a] pos) fa := ⟨ha.mono, pw_or1 ha.pt⟩
theorem mono_And {fa fb : ST} (ha : MonoT fa) (hb : MonoT fb) : MonoT (fAnd fa fb) := fun ρ Q Q' k h => ha _ _ _ (fun b hd => by
  cases b with
  | true => exact hb _ _ _ k hd
  | false => exact k _ hd) h
theorem mono_Or {fa fb : ST} (ha : MonoT fa) (hb : MonoT fb) : MonoT (fOr fa fb) := fun ρ Q Q' k h => ha _ _ _ (fun b hd => by
  cases b with
  | true => exact k _ hd
  | false => exact hb _ _ _ k hd) h
theorem w_and {a b : Expr} {rest : List Expr} {fa fb : ST} {pos : Pos} (ha : PTd X c a fa) (hb : PWd X c (.BoolOp .And (b :: rest) pos) fb) : PWd X c (.BoolOp .And (a :: b :: rest) pos) (fAnd fa fb) := by
  refine ⟨mono_And ha.mono hb.mono, pw_weak (pw_and ha.pt hb.pw) fun σ H Q ⟨B, ρ, ok, h⟩ => ⟨B, ρ, ok, ha.mono _ _ _ (fun d hd B1 H1 g1 => ?_) h⟩⟩
  cases d with
  | true => exact ⟨B1, ρ, ok.mono g1, hb.mono _ _ _ (fun e he B2 H2 g2 => he B2 H2 (g1.trans ok.w g2)) hd⟩
  | false => exact hd B1 H1 g1
theorem w_or {a b : Expr} {rest : List Expr} {fa fb : ST} {pos : Pos} (ha : PTd X c a fa) (hb : PWd X c (.BoolOp .Or (b :: rest) pos) fb) : PWd X c (.BoolOp .Or (a :: b :: rest) pos) (fOr fa fb) := by
  refine ⟨mono_Or ha.mono hb.mono, pw_weak (pw_or ha.pt hb.pw) fun σ H Q ⟨B, ρ, ok, h⟩ => ⟨B, ρ, ok, ha.mono _ _ _ (fun d hd B1 H1 g1 => ?_) h⟩⟩
  cases d with
  | false => exact ⟨B1, ρ, ok.mono g1, hb.mono _ _ _ (fun e he B2 H2 g2 => he B2 H2 (g1.trans ok.w g2)) hd⟩
  | true => exact hd B1 H1 g1
/-- as values -/
def fAndV (fa fb : SE) : SE := fun ρ Q => fa ρ fun d => match d with | .bool b => if b = true then fb ρ Q else Q (.bool false) | _ => False
def fOrV (fa fb : SE) : SE := fun ρ Q => fa ρ fun d => match d with | .bool b => if b = true then Q (.bool true) else fb ρ Q | _ => False
def fNotV (fa : SE) : SE := fun ρ Q => fa ρ fun d => match d with | .bool b => Q (.bool (!b)) | _ => False
theorem v_one {op : BoolOp} {a : Expr} {fa : SE} {pos : Pos} (ha : PV X c a fa) : PV X c (.BoolOp op [a] pos) fa := ⟨ha.mono, pe_one ha.pe⟩
theorem v_and {a b : Expr} {rest : List Expr} {fa fb : SE} {pos : Pos} (ha : PB X c a fa) (hb : PV X c (.BoolOp .And (b :: rest) pos) fb) : PV X c (.BoolOp .And (a :: b :: rest) pos) (fAndV fa fb) := by
  refine ⟨fun ρ Q Q' k h => ha.mono _ _ _ (fun d hd => ?_) h, pe_weak (pe_and ha.pe hb.pe) fun σ H Q ⟨B, ρ, ok, h⟩ => ⟨B, ρ, ok, ha.mono _ _ _ (fun d hd v B1 H1 g1 r1 => ?_) h⟩⟩
  · cases d <;> first | exact hd.elim | skip
    rename_i b
    cases b with
    | true => exact hb.mono _ _ _ k hd
    | false => exact k _ hd
  · cases d <;> first | exact hd.elim | skip
    rename_i b
    refine ⟨b, r1.bl, ?_⟩
    cases b with
    | true => exact ⟨B1, ρ, ok.mono g1, hb.mono _ _ _ (fun e he v B2 H2 g2 => he v B2 H2 (g1.trans ok.w g2)) hd⟩
    | false => exact hd _ B1 H1 g1 (.bl _)
theorem v_or {a b : Expr} {rest : List Expr} {fa fb : SE} {pos : Pos} (ha : PB X c a fa) (hb : PV X c (.BoolOp .Or (b :: rest) pos) fb) : PV X c (.BoolOp .Or (a :: b :: rest) pos) (fOrV fa fb) := by
  refine ⟨fun ρ Q Q' k h => ha.mono _ _ _ (fun d hd => ?_) h, pe_weak (pe_or ha.pe hb.pe) fun σ H Q ⟨B, ρ, ok, h⟩ => ⟨B, ρ, ok, ha.mono _ _ _ (fun d hd v B1 H1 g1 r1 => ?_) h⟩⟩
  · cases d <;> first | exact hd.elim | skip
    rename_i b
    cases b with
    | false => exact hb.mono _ _ _ k hd
    | true => exact k _ hd
  · cases d <;> first | exact hd.elim | skip
    rename_i b
    refine ⟨b, r1.bl, ?_⟩
    cases b with
    | false => exact ⟨B1, ρ, ok.mono g1, hb.mono _ _ _ (fun e he v B2 H2 g2 => he v B2 H2 (g1.trans ok.w g2)) hd⟩
    | true => exact hd _ B1 H1 g1 (.bl _)
theorem v_not {a : Expr} {fa : SE} {pos : Pos} (ha : PB X c a fa) : PV X c (.UnaryOp .Not a pos) (fNotV fa) := by
  refine ⟨fun ρ Q Q' k h => ha.mono _ _ _ (fun d hd => ?_) h, pe_weak (pe_not ha.pe) fun σ H Q ⟨B, ρ, ok, h⟩ => ⟨B, ρ, ok, ha.mono _ _ _ (fun d hd v B1 H1 g1 r1 => ?_) h⟩⟩
  · cases d <;> first | exact hd.elim | exact k _ hd
  · cases d <;> first | exact hd.elim | skip
    exact ⟨_, r1.bl, hd _ B1 H1 g1 (.bl _)⟩
def fIf (t : ST) (fa fb : SE) : SE := fun ρ Q => t ρ fun b => if b = true then fa ρ Q else fb ρ Q
theorem mono_If {t : ST} {fa fb : SE} (ht : MonoT t) (ha : Mono fa) (hb : Mono fb) : Mono (fIf t fa fb) := fun ρ Q Q' k h => ht _ _ _ (fun b hd => by
  cases b with
  | true => exact ha _ _ _ k hd
  | false => exact hb _ _ _ k hd) h
theorem v_if {t : ST} {cc a b : Expr} {fa fb : SE} {pos : Pos} (ht : PTd X c cc t) (ha : PV X c a fa) (hb : PV X c b fb) : PV X c (.IfExp cc a b pos) (fIf t fa fb) := by
  refine ⟨mono_If ht.mono ha.mono hb.mono, pe_weak (pe_ifExp ht.pt ha.pe hb.pe) fun σ H Q ⟨B, ρ, ok, h⟩ => ⟨B, ρ, ok, ht.mono _ _ _ (fun d hd B1 H1 g1 => ?_) h⟩⟩
  cases d with
  | true => exact ⟨B1, ρ, ok.mono g1, ha.mono _ _ _ (fun e he v B2 H2 g2 => he v B2 H2 (g1.trans ok.w g2)) hd⟩
  | false => exact ⟨B1, ρ, ok.mono g1, hb.mono _ _ _ (fun e he v B2 H2 g2 => he v B2 H2 (g1.trans ok.w g2)) hd⟩
end
end DL
namespace DL
open PySem L2 PyProof.Rows
/-! ### lists of expressions -/
abbrev SL := Env → (List D → Prop) → Prop
def MonoL (f : SL) : Prop := ∀ ρ (Q Q' : List D → Prop), (∀ d, Q d → Q' d) → f ρ Q → f ρ Q'
def BwA (c : C) (B H : Hp) : List V → List D → Prop
  | [], [] => True
  | v :: vs, d :: ds => Bw c B H v d ∧ BwA c B H vs ds
  | _, _ => False
theorem BwA.mono {c : C} {B H B' H' : Hp} (g : Gr c B H B' H') : ∀ {vs : List V} {ds : List D}, BwA c B H vs ds → BwA c B' H' vs ds
  | [], [], _ => trivial
  | _ :: _, _ :: _, h => ⟨h.1.mono g, BwA.mono g h.2⟩
  | [], _ :: _, h => h
  | _ :: _, [], h => h
theorem BwA.one {c : C} {B H : Hp} {vs : List V} {d : D} (h : BwA c B H vs [d]) : ∃ v, vs = [v] ∧ Bw c B H v d := by
  cases vs with
  | nil => exact h.elim
  | cons v r => cases r with
    | nil => exact ⟨v, rfl, h.1⟩
    | cons _ _ => exact h.2.elim
theorem BwA.two {c : C} {B H : Hp} {vs : List V} {d e : D} (h : BwA c B H vs [d, e]) : ∃ v u, vs = [v, u] ∧ Bw c B H v d ∧ Bw c B H u e := by
  cases vs with
  | nil => exact h.elim
  | cons v r =>
    obtain ⟨u, e1, h2⟩ := BwA.one (d := e) (vs := r) h.2
    subst e1
    exact ⟨v, u, rfl, h.1, h2⟩
theorem BwA.nil {c : C} {B H : Hp} {vs : List V} (h : BwA c B H vs []) : vs = [] := by
  cases vs with
  | nil => rfl
  | cons v r => exact h.elim
def toD (c : C) (f : SL) : TA := fun σ H Q => ∃ B ρ, EOk c B H σ ρ ∧ f ρ fun ds => ∀ vs B' H', Gr c B H B' H' → RpA B' vs ds → Q vs H'
def toDB (c : C) (f : SL) : TA := fun σ H Q => ∃ B ρ, EOk c B H σ ρ ∧ f ρ fun ds => ∀ vs B' H', Gr c B H B' H' → BwA c B' H' vs ds → Q vs H'
structure PDd (X : Cx) (c : C) (es : List Expr) (f : SL) : Prop where
  mono : MonoL f
  len : ∀ ρ Q, f ρ Q → f ρ fun ds => Q ds ∧ ds.length = es.length
  pa : PA X es (toD c f)
structure PBd (X : Cx) (c : C) (es : List Expr) (f : SL) : Prop where
  mono : MonoL f
  pa : PA X es (toDB c f)
def fLN : SL := fun _ Q => Q []
def fLC (fa : SE) (fr : SL) : SL := fun ρ Q => fa ρ fun d => fr ρ fun ds => Q (d :: ds)
section
variable {X : Cx} {c : C}
theorem mono_LC {fa : SE} {fr : SL} (ha : Mono fa) (hr : MonoL fr) : MonoL (fLC fa fr) := fun ρ Q Q' k h => ha _ _ _ (fun d hd => hr _ _ _ (fun ds he => k _ he) hd) h
theorem d_nil : PDd X c [] fLN := ⟨fun _ _ _ k h => k _ h, fun _ _ h => ⟨h, rfl⟩, pa_weak pa_nil fun σ H Q ⟨B, ρ, ok, h⟩ => h [] B H (Gr.refl ok.w) .nil⟩
theorem d_cons {e : Expr} {es : List Expr} {fa : SE} {fr : SL} (ha : PV X c e fa) (hr : PDd X c es fr) (hs : starEach (e :: es) X.env = (false, eval e X.env) :: starEach es X.env := by rfl) : PDd X c (e :: es) (fLC fa fr) := by
  refine ⟨mono_LC ha.mono hr.mono, fun ρ Q h => ha.mono _ _ _ (fun d hd => hr.mono _ _ _ (fun ds q => ⟨q.1, by rw [List.length_cons, List.length_cons, q.2]⟩) (hr.len _ _ hd)) h, pa_weak (pa_cons ha.pe hr.pa hs) fun σ H Q ⟨B, ρ, ok, h⟩ => ?_⟩
  refine ⟨B, ρ, ok, ha.mono _ _ _ (fun d hd v B1 H1 g1 r1 => ?_) h⟩
  exact ⟨B1, ρ, ok.mono g1, hr.mono _ _ _ (fun ds he vs B2 H2 g2 r2 => he _ B2 H2 (g1.trans ok.w g2) (.cons (rp_mono g2.b r1) r2)) hd⟩
theorem bb_nil : PBd X c [] fLN := ⟨fun _ _ _ k h => k _ h, pa_weak pa_nil fun σ H Q ⟨B, ρ, ok, h⟩ => h [] B H (Gr.refl ok.w) trivial⟩
theorem bb_cons {e : Expr} {es : List Expr} {fa : SE} {fr : SL} (ha : PB X c e fa) (hr : PBd X c es fr) (hs : starEach (e :: es) X.env = (false, eval e X.env) :: starEach es X.env := by rfl) : PBd X c (e :: es) (fLC fa fr) := by
  refine ⟨mono_LC ha.mono hr.mono, pa_weak (pa_cons ha.pe hr.pa hs) fun σ H Q ⟨B, ρ, ok, h⟩ => ?_⟩
  refine ⟨B, ρ, ok, ha.mono _ _ _ (fun d hd v B1 H1 g1 r1 => ?_) h⟩
  exact ⟨B1, ρ, ok.mono g1, hr.mono _ _ _ (fun ds he vs B2 H2 g2 r2 => he _ B2 H2 (g1.trans ok.w g2) ⟨r1.mono g2, r2⟩) hd⟩
/-- arguments of a def -/
def fAN : SA := fun _ Q => Q []
def fAC (fa : SE) (fr : SA) : SA := fun ρ Q => fa ρ fun d => fr ρ fun ds => Q (.sh d :: ds)
def fAB (i : Nat) (fr : SA) : SA := fun ρ Q => match lk ρ i with | .bg => fr ρ fun ds => Q (.bg :: ds) | _ => False
theorem a_nil : PAd X c [] fAN := ⟨fun _ _ _ k h => k _ h, pa_weak pa_nil fun σ H Q ⟨B, ρ, ok, h⟩ => h [] B H (Gr.refl ok.w) trivial⟩
theorem a_cons {e : Expr} {es : List Expr} {fa : SE} {fr : SA} (ha : PV X c e fa) (hr : PAd X c es fr) (hs : starEach (e :: es) X.env = (false, eval e X.env) :: starEach es X.env := by rfl) : PAd X c (e :: es) (fAC fa fr) := by
  refine ⟨fun ρ Q Q' k h => ha.mono _ _ _ (fun d hd => hr.mono _ _ _ (fun ds he => k _ he) hd) h, pa_weak (pa_cons ha.pe hr.pa hs) fun σ H Q ⟨B, ρ, ok, h⟩ => ?_⟩
  refine ⟨B, ρ, ok, ha.mono _ _ _ (fun d hd v B1 H1 g1 r1 => ?_) h⟩
  exact ⟨B1, ρ, ok.mono g1, hr.mono _ _ _ (fun ds he vs B2 H2 g2 r2 => he _ B2 H2 (g1.trans ok.w g2) ⟨rp_mono g2.b r1, r2⟩) hd⟩
/-- the bag handed on -/
theorem a_bag (i : Nat) {x : Str} {pos : Pos} {es : List Expr} {fr : SA} (hr : PAd X c es fr) (hN : X.N[i]? = some x := by rfl) (hv : Vis X.env.scope x := by first | exact Or.inl rfl | exact Or.inr (Or.inl rfl) | exact Or.inr (Or.inr rfl))
    (hs : starEach (.Name x pos :: es) X.env = (false, eval (.Name x pos) X.env) :: starEach es X.env := by rfl) (hd : (x == ("__debug__" : Str)) = false := by decide) (hcd : (x == ("__classdict__" : Str)) = false := by decide) : PAd X c (.Name x pos :: es) (fAB i fr) := by
  refine ⟨fun ρ Q Q' k h => ?_, pa_weak (pa_cons (pe_var hN hv hd hcd) hr.pa hs) fun σ H Q ⟨B, ρ, ok, h⟩ => ?_⟩
  · unfold fAB at h ⊢
    cases e : lk ρ i <;> rw [e] at h <;> first | exact h.elim | exact hr.mono _ _ _ (fun ds he => k _ he) h
  · unfold fAB at h
    cases e : lk ρ i <;> rw [e] at h <;> first | exact h.elim | skip
    have h1 := ok.sl i _ (lk_get e (fun z => nomatch z))
    exact ⟨_, h1, B, ρ, ok, hr.mono _ _ _ (fun ds he vs B2 H2 g2 r2 => he _ B2 H2 g2 ⟨rfl, r2⟩) h⟩
/-! ### new lists -/
def toN (c : C) (f : SL) : TE := fun σ H Q => ∃ B ρ, EOk c B H σ ρ ∧ f ρ fun ds => ∀ p vs B' H', Gr c B H B' H' → H p = none → B' p = none → H' p = some (.lst vs) → RpA B' vs ds → Q (.ref p) H'
structure PN (X : Cx) (c : C) (e : Expr) (f : SL) : Prop where
  mono : MonoL f
  pe : PE X e (toN c f)
/-- what is new may be shared -/
theorem Gr.share {B H B' H' : Hp} (w : Wd c B H) (g : Gr c B H B' H') {p : Addr} {vs : List V} (h0 : H p = none) (h1 : B' p = none) (h2 : H' p = some (.lst vs)) : Gr c B H (upd B' p (.lst vs)) H' := by
  have nb : ¬ c.isBag p := fun z => w.there z h0
  refine ⟨g.b.trans (Evl.Ex.new h1), g.h, fun a ha => ?_, fun a o e => ?_, g.w.bag.keep fun a ha => ⟨upd_ne fun z => nb (z ▸ ha), rfl⟩⟩
  · rw [upd_ne (fun z => ha (by rw [z]; exact h0))]
    exact g.n a ha
  · by_cases z : a = p
    · subst z
      rw [upd_same] at e
      rw [h2]; exact e
    · rw [upd_ne z] at e; exact g.w.sub a o e
def fNV (f : SL) : SE := fun ρ Q => f ρ fun ds => Q (.list ds)
theorem PN.v {e : Expr} {f : SL} (h : PN X c e f) : PV X c e (fNV f) := by
  refine ⟨fun ρ Q Q' k q => h.mono _ _ _ (fun ds hd => k _ hd) q, pe_weak h.pe fun σ H Q ⟨B, ρ, ok, q⟩ => ⟨B, ρ, ok, h.mono _ _ _ (fun ds hd p vs B' H' g h0 h1 h2 r => ?_) q⟩⟩
  have g' := Gr.share ok.w g h0 h1 h2
  exact hd _ _ _ g' (.lst upd_same (rpa_mono (Evl.Ex.new h1) r))
theorem n_lst {es : List Expr} {f : SL} {pos : Pos} (h : PDd X c es f) (hl : es.length ≤ 1000 := by decide) : PN X c (.List es pos) f := by
  refine ⟨h.mono, pe_weak (pe_lst h.pa) fun σ H Q ⟨B, ρ, ok, q⟩ => ⟨B, ρ, ok, h.mono _ _ _ (fun ds hd vs B' H' g r => ?_) (h.len _ _ q)⟩⟩
  refine ⟨?_, fun p hp => ?_⟩
  · rw [rpa_len r, hd.2]; exact Nat.le_of_lt (small1000 hl)
  · have g1 := Gr.newO (o := .lst vs) g.w hp
    have hB : B' p = none := Evl.fresh_back g.w.sub hp
    refine hd.1 p vs B' _ (g.trans ok.w g1) ?_ hB upd_same r
    cases e : H p with
    | none => rfl
    | some o =>
      by_cases z : c.isBag p
      · exact absurd hp (g.w.there z)
      · rw [g.h p o z e] at hp; cases hp
def fTup (f : SL) : SE := fun ρ Q => f ρ fun ds => Q (.tuple ds)
theorem v_tup {es : List Expr} {f : SL} {k : Nat} {pos : Pos} (h : PDd X c es f) (hl : es.length ≤ 1000 := by decide) : PV X c (.Tuple es k pos) (fTup f) := by
  refine ⟨fun ρ Q Q' k q => h.mono _ _ _ (fun ds hd => k _ hd) q, pe_weak (pe_tup h.pa) fun σ H Q ⟨B, ρ, ok, q⟩ => ⟨B, ρ, ok, h.mono _ _ _ (fun ds hd vs B' H' g r => ?_) (h.len _ _ q)⟩⟩
  refine ⟨?_, fun p hp => ?_⟩
  · rw [rpa_len r, hd.2]; exact Nat.le_of_lt (small1000 hl)
  · have g1 := Gr.new (o := .tup vs) g.w hp
    exact hd.1 _ _ _ (g.trans ok.w g1) (.tup upd_same (rpa_mono g1.b r))
/-! ### calls of what Python brings -/
abbrev GB := List D → (D → Prop) → Prop
def MonoB (g : GB) : Prop := ∀ ds (Q Q' : D → Prop), (∀ z, Q z → Q' z) → g ds Q → g ds Q'
structure CallD (X : Cx) (c : C) (f : Value) (g : GB) : Prop where
  mono : MonoB g
  call : CallR X f fun xs H Q => ∃ B ds, Wd c B H ∧ BwA c B H xs ds ∧ g ds fun z => ∀ v B' H', Gr c B H B' H' → Rp B' v z → Q v H'
theorem callr_weak {f : Value} {r r' : List V → Hp → VK → Prop} (h : CallR X f r) (w : ∀ xs H Q, r' xs H Q → r xs H Q) : CallR X f r' := fun pins s σ H xs us Q I rv q => h pins s σ H xs us Q I rv (w xs H Q q)
def fCB (g : GB) (fa : SL) : SE := fun ρ Q => fa ρ fun ds => g ds Q
theorem callB_go {g : GB} {fa : SL} (hg : MonoB g) (ha : MonoL fa) (σ : L2.St) (H : Hp) (Q : VK) (h : toV c (fCB g fa) σ H Q) :
    tCB (fun xs H Q => ∃ B ds, Wd c B H ∧ BwA c B H xs ds ∧ g ds fun z => ∀ v B' H', Gr c B H B' H' → Rp B' v z → Q v H') (toDB c fa) σ H Q := by
  obtain ⟨B, ρ, ok, h⟩ := h
  refine ⟨B, ρ, ok, ha _ _ _ (fun ds hd vs B1 H1 g1 r1 => ?_) h⟩
  exact ⟨B1, ds, g1.w, r1, hg _ _ _ (fun z hz v B2 H2 g2 r2 => hz v B2 H2 (g1.trans ok.w g2) r2) hd⟩
theorem v_callB {id : String} {g : GB} {fa : SL} {x : Str} {p pos : Pos} {e : Expr} {es : List Expr} (hc : CallD X c (.builtin id) g) (hm : X.mg x = none) (ha : PBd X c (e :: es) fa) (hg : Gl X x := by rfl) (hv : bootBuiltins x = some (.builtin id) := by decide +kernel)
    (hn : x ≠ "__name__" := by decide) (hdb : (x == ("__debug__" : Str)) = false := by decide)
    (he : starEach (e :: es) X.env = (false, eval e X.env) :: starEach es X.env := by rfl) (hpl : (backTo pos (starEach es X.env)).any (·.1) = false := by rfl) : PV X c (.Call (.Name x p) (e :: es) [] pos) (fCB g fa) :=
  ⟨fun ρ Q Q' k h => ha.mono _ _ _ (fun ds hd => hc.mono _ _ _ k hd) h, pe_weak (pe_callB hc.call hg hm hv ha.pa hn hdb he hpl) (callB_go hc.mono ha.mono)⟩
theorem v_callT {T : String} {g : GB} {fa : SL} {x : Str} {p pos : Pos} {e : Expr} {es : List Expr} (hc : CallD X c (.type T) g) (hm : X.mg x = none) (ha : PBd X c (e :: es) fa) (hg : Gl X x := by rfl) (hv : bootBuiltins x = some (.type T) := by decide +kernel)
    (hn : x ≠ "__name__" := by decide) (hdb : (x == ("__debug__" : Str)) = false := by decide)
    (he : starEach (e :: es) X.env = (false, eval e X.env) :: starEach es X.env := by rfl) (hpl : (backTo pos (starEach es X.env)).any (·.1) = false := by rfl) : PV X c (.Call (.Name x p) (e :: es) [] pos) (fCB g fa) :=
  ⟨fun ρ Q Q' k h => ha.mono _ _ _ (fun ds hd => hc.mono _ _ _ k hd) h, pe_weak (pe_callTy hc.call hg hm hv ha.pa hn hdb he hpl) (callB_go hc.mono ha.mono)⟩
def bInt : GB | [.int i], Q => Q (.int i) | [.bool b], Q => Q (.int (if b then 1 else 0)) | _, _ => False
def bAbs : GB | [.int i], Q => Q (.int (if i < 0 then -i else i)) | _, _ => False
def bLen : GB | [.list ds], Q => Q (.int ds.length) | [.tuple ds], Q => Q (.int ds.length) | [.str x], Q => x.length ≤ sizeLine ∧ Q (.int x.length) | _, _ => False
def bMax2 : GB | [.int i, .int j], Q => Q (.int (if j > i then j else i)) | _, _ => False
def bMin2 : GB | [.int i, .int j], Q => Q (.int (if j < i then j else i)) | _, _ => False
theorem m_Int : MonoB bInt := fun ds Q Q' k h => by
  unfold bInt at h ⊢
  split at h <;> first | exact k _ h | exact h.elim
theorem m_Abs : MonoB bAbs := fun ds Q Q' k h => by
  unfold bAbs at h ⊢
  split at h <;> first | exact k _ h | exact h.elim
theorem m_Len : MonoB bLen := fun ds Q Q' k h => by
  unfold bLen at h ⊢
  split at h <;> first | exact k _ h | exact ⟨h.1, k _ h.2⟩ | exact h.elim
theorem m_Max2 : MonoB bMax2 := fun ds Q Q' k h => by
  unfold bMax2 at h ⊢
  split at h <;> first | exact k _ h | exact h.elim
theorem m_Min2 : MonoB bMin2 := fun ds Q Q' k h => by
  unfold bMin2 at h ⊢
  split at h <;> first | exact k _ h | exact h.elim
theorem c_int : CallD X c (.type "int") bInt := ⟨m_Int, callr_weak call_int1 fun xs H Q ⟨B, ds, w, ra, q⟩ => by
  unfold bInt at q
  split at q <;> first | exact q.elim | skip
  · obtain ⟨v, e, r⟩ := ra.one
    subst e
    rw [r.int]
    exact .inl ⟨_, rfl, q _ B H (Gr.refl w) (.int _)⟩
  · obtain ⟨v, e, r⟩ := ra.one
    subst e
    rw [r.bl]
    exact .inr ⟨_, rfl, q _ B H (Gr.refl w) (.int _)⟩⟩
theorem c_abs : CallD X c (.builtin "abs") bAbs := ⟨m_Abs, callr_weak call_abs fun xs H Q ⟨B, ds, w, ra, q⟩ => by
  unfold bAbs at q
  split at q <;> first | exact q.elim | skip
  obtain ⟨v, e, r⟩ := ra.one
  subst e
  rw [r.int]
  exact ⟨_, rfl, q _ B H (Gr.refl w) (.int _)⟩⟩
theorem c_len : CallD X c (.builtin "len") bLen := ⟨m_Len, callr_weak call_len fun xs H Q ⟨B, ds, w, ra, q⟩ => by
  unfold bLen at q
  split at q <;> first | exact q.elim | skip
  · obtain ⟨v, e, r⟩ := ra.one
    subst e
    obtain ⟨a, xs, rfl, h1, h2⟩ := r.list w
    exact ⟨_, xs.length, rfl, .inl ⟨xs, SqL.of h1, rfl⟩, by rw [rpa_len h2]; exact q _ B H (Gr.refl w) (.int _)⟩
  · obtain ⟨v, e, r⟩ := ra.one
    subst e
    obtain ⟨a, xs, rfl, h1, h2⟩ := r.tup w
    exact ⟨_, xs.length, rfl, .inr ⟨xs, SqT.of h1, rfl⟩, by rw [rpa_len h2]; exact q _ B H (Gr.refl w) (.int _)⟩
  · obtain ⟨v, e, r⟩ := ra.one
    subst e
    rw [r.str]
    exact ⟨_, _, rfl, ⟨q.1, rfl⟩, q.2 _ B H (Gr.refl w) (.int _)⟩⟩
theorem c_max2 (hc : X.calm = true) : CallD X c (.builtin "max") bMax2 := ⟨m_Max2, callr_weak (call_max2 hc) fun xs H Q ⟨B, ds, w, ra, q⟩ => by
  unfold bMax2 at q
  split at q <;> first | exact q.elim | skip
  obtain ⟨v, u, e, r1, r2⟩ := ra.two
  subst e
  rw [r1.int, r2.int]
  exact ⟨_, _, rfl, q _ B H (Gr.refl w) (.int _)⟩⟩
theorem c_min2 (hc : X.calm = true) : CallD X c (.builtin "min") bMin2 := ⟨m_Min2, callr_weak (call_min2 hc) fun xs H Q ⟨B, ds, w, ra, q⟩ => by
  unfold bMin2 at q
  split at q <;> first | exact q.elim | skip
  obtain ⟨v, u, e, r1, r2⟩ := ra.two
  subst e
  rw [r1.int, r2.int]
  exact ⟨_, _, rfl, q _ B H (Gr.refl w) (.int _)⟩⟩
/-- tuple(x): of a list a new one, a tuple itself -/
def bTuple : GB | [.list ds], Q => Q (.tuple ds) | [.tuple ds], Q => Q (.tuple ds) | _, _ => False
theorem m_Tuple : MonoB bTuple := fun ds Q Q' k h => by
  unfold bTuple at h ⊢
  split at h <;> first | exact k _ h | exact h.elim
theorem c_tuple : CallD X c (.type "tuple") bTuple := ⟨m_Tuple, callr_weak call_tuple_of fun xs H Q ⟨B, ds, w, ra, q⟩ => by
  unfold bTuple at q
  split at q <;> first | exact q.elim | skip
  · obtain ⟨v, e, r⟩ := ra.one
    subst e
    obtain ⟨a, xs, rfl, h1, h2⟩ := r.list w
    refine ⟨a, xs, rfl, .inl ⟨SqL.of h1, fun l hl => ?_⟩⟩
    have g := Gr.new (o := .tup xs) w hl
    exact q _ _ _ g (.tup upd_same (rpa_mono g.b h2))
  · obtain ⟨v, e, r⟩ := ra.one
    subst e
    obtain ⟨a, xs, rfl, h1, h2⟩ := r.tup w
    refine ⟨a, xs, rfl, .inr ⟨SqT.of h1, ?_⟩⟩
    rcases r with r | ⟨_, _, _, _, e, _⟩
    · exact q _ B H (Gr.refl w) r
    · cases e⟩
/-- sums, bounds, all, any of lists -/
def asInts : List D → Option (List Int)
  | [] => some []
  | .int i :: r => (asInts r).map (i :: ·)
  | _ :: _ => none
def asBls : List D → Option (List Bool)
  | [] => some []
  | .bool i :: r => (asBls r).map (i :: ·)
  | _ :: _ => none
theorem asInts_eq : ∀ {ds : List D} {ns : List Int}, asInts ds = some ns → ds = ns.map PyData.int
  | [], ns, h => by
    simp only [asInts] at h
    cases h; rfl
  | d :: ds, ns, h => by
    cases d <;> simp only [asInts] at h <;> first | cases h | skip
    cases e : asInts ds with
    | none => rw [e] at h; cases h
    | some m =>
      rw [e] at h
      cases h
      rw [asInts_eq e]; rfl
theorem asInts_map : ∀ (ns : List Int), asInts (ns.map PyData.int) = some ns
  | [] => rfl
  | n :: ns => by simp only [List.map_cons, asInts, asInts_map ns, Option.map_some]
theorem asBls_eq : ∀ {ds : List D} {ns : List Bool}, asBls ds = some ns → ds = ns.map PyData.bool
  | [], ns, h => by
    simp only [asBls] at h
    cases h; rfl
  | d :: ds, ns, h => by
    cases d <;> simp only [asBls] at h <;> first | cases h | skip
    cases e : asBls ds with
    | none => rw [e] at h; cases h
    | some m =>
      rw [e] at h
      cases h
      rw [asBls_eq e]; rfl
theorem asBls_map : ∀ (ns : List Bool), asBls (ns.map PyData.bool) = some ns
  | [] => rfl
  | n :: ns => by simp only [List.map_cons, asBls, asBls_map ns, Option.map_some]
def intsOf : D → Option (List Int) | .list ds => asInts ds | _ => none
def blsOf : D → Option (List Bool) | .list ds => asBls ds | _ => none
def bSum : GB | [d], Q => (match intsOf d with | some ns => Q (.int ns.sum) | none => False) | _, _ => False
def bMaxL : GB | [d], Q => (match intsOf d with | some ns => 0 < ns.length ∧ ∀ m, m ∈ ns → (∀ y, y ∈ ns → y ≤ m) → Q (.int m) | none => False) | _, _ => False
def bMinL : GB | [d], Q => (match intsOf d with | some ns => 0 < ns.length ∧ ∀ m, m ∈ ns → (∀ y, y ∈ ns → m ≤ y) → Q (.int m) | none => False) | _, _ => False
def bAll : GB | [d], Q => (match blsOf d with | some ns => Q (.bool (ns.all id)) | none => False) | _, _ => False
def bAny : GB | [d], Q => (match blsOf d with | some ns => Q (.bool (ns.any id)) | none => False) | _, _ => False
theorem ints_rd {B H : Hp} {v : V} {d : D} {ns : List Int} (w : Wd c B H) (r : Bw c B H v d) (h : intsOf d = some ns) : ∃ a, v = .ref a ∧ SqL X.K H a (ns.map V.int) := by
  cases d <;> simp only [intsOf] at h <;> first | cases h | skip
  obtain ⟨a, xs, rfl, h1, h2⟩ := r.list w
  rw [asInts_eq h] at h2
  rw [rpa_ints h2] at h1
  exact ⟨a, rfl, SqL.of h1⟩
theorem bls_rd {B H : Hp} {v : V} {d : D} {ns : List Bool} (w : Wd c B H) (r : Bw c B H v d) (h : blsOf d = some ns) : ∃ a, v = .ref a ∧ SqL X.K H a (ns.map V.bl) := by
  cases d <;> simp only [blsOf] at h <;> first | cases h | skip
  obtain ⟨a, xs, rfl, h1, h2⟩ := r.list w
  rw [asBls_eq h] at h2
  rw [rpa_bls h2] at h1
  exact ⟨a, rfl, SqL.of h1⟩
theorem m_Sum : MonoB bSum := fun ds Q Q' k h => by
  unfold bSum at h ⊢
  split at h <;> first | exact h.elim | skip
  split at h <;> first | exact h.elim | exact k _ h
theorem c_sum (hc : X.calm = true) : CallD X c (.builtin "sum") bSum := ⟨m_Sum, callr_weak (cr_sum hc) fun xs H Q ⟨B, ds, w, ra, q⟩ => by
  unfold bSum at q
  split at q <;> first | exact q.elim | skip
  split at q <;> first | exact q.elim | skip
  rename_i e
  obtain ⟨v, e1, r⟩ := ra.one
  subst e1
  obtain ⟨a, rfl, h⟩ := ints_rd (X := X) w r e
  exact ⟨a, _, rfl, h, q _ B H (Gr.refl w) (.int _)⟩⟩
theorem m_MaxL : MonoB bMaxL := fun ds Q Q' k h => by
  unfold bMaxL at h ⊢
  split at h <;> first | exact h.elim | skip
  split at h <;> first | exact h.elim | exact ⟨h.1, fun m h1 h2 => k _ (h.2 m h1 h2)⟩
theorem c_maxL (hc : X.calm = true) : CallD X c (.builtin "max") bMaxL := ⟨m_MaxL, callr_weak (cr_max hc) fun xs H Q ⟨B, ds, w, ra, q⟩ => by
  unfold bMaxL at q
  split at q <;> first | exact q.elim | skip
  split at q <;> first | exact q.elim | skip
  rename_i e
  obtain ⟨v, e1, r⟩ := ra.one
  subst e1
  obtain ⟨a, rfl, h⟩ := ints_rd (X := X) w r e
  exact ⟨a, _, rfl, h, q.1, fun m h1 h2 => q.2 m h1 h2 _ B H (Gr.refl w) (.int _)⟩⟩
theorem m_MinL : MonoB bMinL := fun ds Q Q' k h => by
  unfold bMinL at h ⊢
  split at h <;> first | exact h.elim | skip
  split at h <;> first | exact h.elim | exact ⟨h.1, fun m h1 h2 => k _ (h.2 m h1 h2)⟩
theorem c_minL (hc : X.calm = true) : CallD X c (.builtin "min") bMinL := ⟨m_MinL, callr_weak (cr_min hc) fun xs H Q ⟨B, ds, w, ra, q⟩ => by
  unfold bMinL at q
  split at q <;> first | exact q.elim | skip
  split at q <;> first | exact q.elim | skip
  rename_i e
  obtain ⟨v, e1, r⟩ := ra.one
  subst e1
  obtain ⟨a, rfl, h⟩ := ints_rd (X := X) w r e
  exact ⟨a, _, rfl, h, q.1, fun m h1 h2 => q.2 m h1 h2 _ B H (Gr.refl w) (.int _)⟩⟩
theorem m_All : MonoB bAll := fun ds Q Q' k h => by
  unfold bAll at h ⊢
  split at h <;> first | exact h.elim | skip
  split at h <;> first | exact h.elim | exact k _ h
theorem c_all (hc : X.calm = true) : CallD X c (.builtin "all") bAll := ⟨m_All, callr_weak (cr_all hc) fun xs H Q ⟨B, ds, w, ra, q⟩ => by
  unfold bAll at q
  split at q <;> first | exact q.elim | skip
  split at q <;> first | exact q.elim | skip
  rename_i e
  obtain ⟨v, e1, r⟩ := ra.one
  subst e1
  obtain ⟨a, rfl, h⟩ := bls_rd (X := X) w r e
  exact ⟨a, _, rfl, h, q _ B H (Gr.refl w) (.bl _)⟩⟩
theorem m_Any : MonoB bAny := fun ds Q Q' k h => by
  unfold bAny at h ⊢
  split at h <;> first | exact h.elim | skip
  split at h <;> first | exact h.elim | exact k _ h
theorem c_any (hc : X.calm = true) : CallD X c (.builtin "any") bAny := ⟨m_Any, callr_weak (cr_any hc) fun xs H Q ⟨B, ds, w, ra, q⟩ => by
  unfold bAny at q
  split at q <;> first | exact q.elim | skip
  split at q <;> first | exact q.elim | skip
  rename_i e
  obtain ⟨v, e1, r⟩ := ra.one
  subst e1
  obtain ⟨a, rfl, h⟩ := bls_rd (X := X) w r e
  exact ⟨a, _, rfl, h, q _ B H (Gr.refl w) (.bl _)⟩⟩
/-- a new list out of a list, a tuple -/
def seqOf : D → Option (List D) | .list ds => some ds | .tuple ds => some ds | _ => none
theorem seq_rd {B H : Hp} {v : V} {d : D} {ds : List D} (w : Wd c B H) (r : Bw c B H v d) (h : seqOf d = some ds) : ∃ a xs, v = .ref a ∧ (SqL X.K H a xs ∨ SqT X.K H a xs) ∧ RpA B xs ds := by
  cases d <;> simp only [seqOf] at h <;> first | cases h | skip
  · obtain ⟨a, xs, rfl, h1, h2⟩ := r.list w
    exact ⟨a, xs, rfl, .inl (SqL.of h1), h2⟩
  · obtain ⟨a, xs, rfl, h1, h2⟩ := r.tup w
    exact ⟨a, xs, rfl, .inr (SqT.of h1), h2⟩
def fSeq (fa : SE) : SL := fun ρ Q => fa ρ fun d => match seqOf d with | some ds => Q ds | none => False
theorem mono_Seq {fa : SE} (ha : Mono fa) : MonoL (fSeq fa) := fun ρ Q Q' k h => ha _ _ _ (fun d hd => by
  split at hd <;> first | exact hd.elim | exact k _ hd) h
theorem Gr.back {B H B' H' : Hp} (g : Gr c B H B' H') {p : Addr} (hp : H' p = none) : H p = none := by
  cases e : H p with
  | none => rfl
  | some o =>
    by_cases z : c.isBag p
    · exact absurd hp (g.w.there z)
    · rw [g.h p o z e] at hp; cases hp
theorem n_list {e : Expr} {fa : SE} {x : Str} {p pos : Pos} (hm : X.mg x = none) (ha : PB X c e fa) (hg : Gl X x := by rfl) (hv : bootBuiltins x = some (.type "list") := by decide +kernel)
    (hn : x ≠ "__name__" := by decide) (hdb : (x == ("__debug__" : Str)) = false := by decide)
    (he : starEach [e] X.env = (false, eval e X.env) :: starEach [] X.env := by rfl) (hpl : (backTo pos (starEach [] X.env)).any (·.1) = false := by rfl) : PN X c (.Call (.Name x p) [e] [] pos) (fSeq fa) := by
  refine ⟨mono_Seq ha.mono, pe_weak (pe_callTy call_list_of hg hm hv (pa_cons ha.pe pa_nil he) hn hdb he hpl) fun σ H Q ⟨B, ρ, ok, h⟩ => ⟨B, ρ, ok, ha.mono _ _ _ (fun d hd v B1 H1 g1 r1 => ?_) h⟩⟩
  split at hd <;> first | exact hd.elim | skip
  rename_i ds e1
  obtain ⟨a, xs, rfl, h1, h2⟩ := seq_rd (X := X) g1.w r1 e1
  refine ⟨a, xs, rfl, h1, fun l hl => ?_⟩
  have g2 := Gr.newO (o := .lst xs) g1.w hl
  exact hd l xs B1 _ (g1.trans ok.w g2) (g1.back hl) (Evl.fresh_back g1.w.sub hl) upd_same h2
/-! ### items and parts -/
def ixD (ds : List D) (i : Int) : Option D := atI ds i
def gIx : G2
  | .list ds, .int i, Q => (match atI ds i with | some d => Q d | none => False)
  | .tuple ds, .int i, Q => (match atI ds i with | some d => Q d | none => False)
  | .str x, .int i, Q => x.length ≤ sizeLine ∧ (match atI x.cps.toList i with | some k => Q (.str ⟨#[k]⟩) | none => False)
  | _, _, _ => False
theorem m_Ix : MonoG gIx := fun d e Q Q' k h => by
  unfold gIx at h ⊢
  split at h <;> first | exact h.elim | skip
  · split at h <;> first | exact h.elim | exact k _ h
  · split at h <;> first | exact h.elim | exact k _ h
  · refine ⟨h.1, ?_⟩
    have h2 := h.2
    split at h2 <;> first | exact h2.elim | exact k _ h2
theorem atI_rpa {B : Hp} {xs : List V} {ds : List D} {i : Int} {d : D} (r : RpA B xs ds) (h : atI ds i = some d) : ∃ v, atI xs i = some v ∧ Rp B v d := by
  unfold atI at h ⊢
  rw [rpa_len r]
  cases e : ixN ds.length i with
  | none => rw [e] at h; cases h
  | some j =>
    rw [e] at h
    obtain ⟨v, h1, h2⟩ := rpa_get r (show ds[j]? = some d from h)
    exact ⟨v, h1, h2⟩
theorem v_ix {a b : Expr} {fa fb : SE} {pos : Pos} (ha : PB X c a fa) (hb : PB X c b fb) (hs : PlainIx b := by exact fun _ _ => rfl) : PV X c (.Subscript a b pos) (fBin gIx fa fb) := by
  refine ⟨mono_Bin m_Ix ha.mono hb.mono, pe_weak (pe_ix ix_seq ha.pe hb.pe hs) fun σ H Q h => ?_⟩
  obtain ⟨B, ρ, ok, h⟩ := h
  refine ⟨B, ρ, ok, ha.mono _ _ _ (fun d hd v B1 H1 g1 r1 => ?_) h⟩
  refine ⟨B1, ρ, ok.mono g1, hb.mono _ _ _ (fun e he u B2 H2 g2 r2 => ?_) hd⟩
  have r1' := r1.mono g2
  have g3 := g1.trans ok.w g2
  unfold gIx at he
  split at he <;> first | exact he.elim | skip
  · split at he <;> first | exact he.elim | skip
    rename_i e1
    obtain ⟨p, xs, rfl, h1, h2⟩ := r1'.list g2.w
    obtain ⟨y, h3, h4⟩ := atI_rpa h2 e1
    rw [r2.int]
    exact .inl ⟨p, xs, _, y, rfl, rfl, SqL.of h1, h3, he _ B2 H2 g3 h4⟩
  · split at he <;> first | exact he.elim | skip
    rename_i e1
    obtain ⟨p, xs, rfl, h1, h2⟩ := r1'.tup g2.w
    obtain ⟨y, h3, h4⟩ := atI_rpa h2 e1
    rw [r2.int]
    exact .inr (.inl ⟨p, xs, _, y, rfl, rfl, SqT.of h1, h3, he _ B2 H2 g3 h4⟩)
  · obtain ⟨hz, he⟩ := he
    split at he <;> first | exact he.elim | skip
    rename_i e1
    rw [r1'.str, r2.int]
    exact .inr (.inr ⟨_, _, _, rfl, rfl, hz, e1, he _ B2 H2 g3 (.str _)⟩)
/-- the ends of a part -/
abbrev SO := Env → (Option Int → Prop) → Prop
def toO (c : C) (f : SO) : TO := fun σ H Q => ∃ B ρ, EOk c B H σ ρ ∧ f ρ fun o => ∀ B' H', Gr c B H B' H' → Q o H'
structure POd (X : Cx) (c : C) (e : Option Expr) (f : SO) : Prop where
  mono : ∀ ρ (Q Q' : Option Int → Prop), (∀ d, Q d → Q' d) → f ρ Q → f ρ Q'
  po : PO X e (toO c f)
theorem po_weak {e : Option Expr} {t t' : TO} (h : PO X e t) (w : ∀ σ H Q, t' σ H Q → t σ H Q) : PO X e t' := ⟨fun pins s σ H Q I q => h.run pins s σ H Q I (w σ H Q q)⟩
def fON : SO := fun _ Q => Q none
def fOS (fa : SE) : SO := fun ρ Q => fa ρ fun d => match d with | .int i => Q (some i) | _ => False
theorem po_n : POd X c none fON := ⟨fun _ _ _ k h => k _ h, po_weak po_none fun σ H Q ⟨B, ρ, ok, h⟩ => h B H (Gr.refl ok.w)⟩
theorem po_s {e : Expr} {fa : SE} (ha : PB X c e fa) : POd X c (some e) (fOS fa) := by
  refine ⟨fun ρ Q Q' k h => ha.mono _ _ _ (fun d hd => ?_) h, po_weak (po_some ha.pe) fun σ H Q ⟨B, ρ, ok, h⟩ => ⟨B, ρ, ok, ha.mono _ _ _ (fun d hd v B1 H1 g1 r1 => ?_) h⟩⟩
  · cases d <;> first | exact hd.elim | exact k _ hd
  · cases d <;> first | exact hd.elim | skip
    exact ⟨_, r1.int, hd B1 H1 g1⟩
def cutD (ds : List D) (lo hi : Option Int) : List D := (ds.drop (HT.sIx ds.length 0 lo)).take (HT.sIx ds.length ds.length hi - HT.sIx ds.length 0 lo)
theorem cut_rpa {B : Hp} {xs : List V} {ds : List D} (r : RpA B xs ds) (lo hi : Option Int) : RpA B (cutV xs lo hi) (cutD ds lo hi) := by
  unfold cutV cutD
  rw [rpa_len r]
  exact rpa_take _ (rpa_drop _ r)
/-- t[a:b] of a tuple, a text -/
def fSlT (fa : SE) (fl fh : SO) : SE := fun ρ Q => fa ρ fun d => fl ρ fun lo => fh ρ fun hi => match d with | .tuple ds => Q (.tuple (cutD ds lo hi)) | _ => False
/-- l[a:b] of a list -/
def fSlL (fa : SE) (fl fh : SO) : SL := fun ρ Q => fa ρ fun d => fl ρ fun lo => fh ρ fun hi => match d with | .list ds => Q (cutD ds lo hi) | _ => False
theorem cutV_whole {xs : List V} {lo hi : Option Int} (h : HT.sIx xs.length 0 lo = 0 ∧ HT.sIx xs.length xs.length hi = xs.length) : cutV xs lo hi = xs := by
  unfold cutV
  rw [h.1, h.2]
  simp
theorem v_slT {a : Expr} {lo hi : Option Expr} {fa : SE} {fl fh : SO} {p2 pos : Pos} (ha : PB X c a fa) (hl : POd X c lo fl) (hh : POd X c hi fh) : PV X c (.Subscript a (.Slice lo hi none p2) pos) (fSlT fa fl fh) := by
  refine ⟨fun ρ Q Q' k h => ha.mono _ _ _ (fun d hd => hl.mono _ _ _ (fun o1 h1 => hh.mono _ _ _ (fun o2 h2 => ?_) h1) hd) h, pe_weak (pe_slice sl_tupA ha.pe hl.po hh.po) fun σ H Q ⟨B, ρ, ok, h⟩ => ⟨B, ρ, ok, ha.mono _ _ _ (fun d hd v B1 H1 g1 r1 => ?_) h⟩⟩
  · cases d <;> first | exact h2.elim | exact k _ h2
  · refine ⟨B1, ρ, ok.mono g1, hl.mono _ _ _ (fun o1 h1 B2 H2 g2 => ?_) hd⟩
    refine ⟨B2, ρ, (ok.mono g1).mono g2, hh.mono _ _ _ (fun o2 h2 B3 H3 g3 => ?_) h1⟩
    have g := (g1.trans ok.w g2).trans ok.w g3
    cases d <;> first | exact h2.elim | skip
    have r := (r1.mono g2).mono g3
    obtain ⟨q, xs, rfl, h3, h4⟩ := r.tup g3.w
    refine ⟨q, xs, rfl, SqT.of h3, fun hw => ?_, fun _ t ht => ?_⟩
    · have e := cut_rpa h4 o1 o2
      rw [cutV_whole hw] at e
      rcases r with r | ⟨_, _, _, _, e, _⟩
      · obtain ⟨q', xs', e1, e2, e3⟩ := rp_tup r
        cases e1
        have e4 := g3.w.sub _ _ e2
        rw [h3] at e4
        cases e4
        exact h2 _ B3 H3 g (.tup e2 e)
      · cases e
    · have g4 := Gr.new (o := .tup (cutV xs o1 o2)) g3.w ht
      exact h2 _ _ _ (g.trans ok.w g4) (.tup upd_same (rpa_mono g4.b (cut_rpa h4 o1 o2)))
theorem n_slL {a : Expr} {lo hi : Option Expr} {fa : SE} {fl fh : SO} {p2 pos : Pos} (ha : PB X c a fa) (hl : POd X c lo fl) (hh : POd X c hi fh) : PN X c (.Subscript a (.Slice lo hi none p2) pos) (fSlL fa fl fh) := by
  refine ⟨fun ρ Q Q' k h => ha.mono _ _ _ (fun d hd => hl.mono _ _ _ (fun o1 h1 => hh.mono _ _ _ (fun o2 h2 => ?_) h1) hd) h, pe_weak (pe_slice sl_list ha.pe hl.po hh.po) fun σ H Q ⟨B, ρ, ok, h⟩ => ⟨B, ρ, ok, ha.mono _ _ _ (fun d hd v B1 H1 g1 r1 => ?_) h⟩⟩
  · cases d <;> first | exact h2.elim | exact k _ h2
  · refine ⟨B1, ρ, ok.mono g1, hl.mono _ _ _ (fun o1 h1 B2 H2 g2 => ?_) hd⟩
    refine ⟨B2, ρ, (ok.mono g1).mono g2, hh.mono _ _ _ (fun o2 h2 B3 H3 g3 => ?_) h1⟩
    have g := (g1.trans ok.w g2).trans ok.w g3
    cases d <;> first | exact h2.elim | skip
    have r := (r1.mono g2).mono g3
    obtain ⟨q, xs, rfl, h3, h4⟩ := r.list g3.w
    refine ⟨q, xs, rfl, SqL.of h3, fun t ht => ?_⟩
    have g4 := Gr.newO (o := .lst (cutV xs o1 o2)) g3.w ht
    exact h2 t _ B3 _ (g.trans ok.w g4) (g.back ht) (Evl.fresh_back g3.w.sub ht) upd_same (cut_rpa h4 o1 o2)
end
end DL
namespace DL
open PySem L2 PyProof.Rows
abbrev St := L2.St
/-! ### slots stored -/
section
variable {c : C} {B H : Hp} {σ : St} {ρ : Env}
theorem SlOk.congr {σ' : St} {i : Nat} {s : Sl} (e : σ'[i]? = σ[i]?) (h : SlOk c B H σ i s) : SlOk c B H σ' i s := by
  cases s with
  | un => trivial
  | sh d => obtain ⟨v, h1, h2⟩ := h; exact ⟨v, by rw [e]; exact h1, h2⟩
  | ow ds => obtain ⟨p, vs, h1, h2⟩ := h; exact ⟨p, vs, by rw [e]; exact h1, h2⟩
  | bg => show σ'[i]? = _; rw [e]; exact h
/-- a slot takes a new word -/
theorem EOk.put (ok : EOk c B H σ ρ) {i : Nat} {v : V} {s : Sl} (hs : i < σ.length → SlOk c B H (σ.set i (some v)) i s)
    (ha : ∀ ds p, s = Sl.ow ds → v = V.ref p → ∀ (j : Nat) (es : List D), j ≠ i → ρ[j]? = some (Sl.ow es) → ¬ σ[j]? = some (some (V.ref p))) : EOk c B H (σ.set i (some v)) (ρ.set i s) := by
  have len := ok.len
  refine ⟨ok.w0, ok.w, ok.g, by rw [List.length_set, List.length_set]; exact len, fun j u hj => ?_, fun j k p ds es hjk h1 h2 h3 h4 => ?_⟩
  · by_cases e : i = j
    · subst e
      have hl : i < ρ.length := by
        have := (List.getElem?_eq_some_iff.mp hj).1
        rw [List.length_set] at this; exact this
      rw [List.getElem?_set_self hl] at hj
      cases hj
      exact hs (by rw [← len]; exact hl)
    · rw [List.getElem?_set_ne e] at hj
      exact (ok.sl j u hj).congr (List.getElem?_set_ne e)
  · by_cases ej : i = j
    · subst ej
      have hl : i < ρ.length := by
        have := (List.getElem?_eq_some_iff.mp h1).1
        rw [List.length_set] at this; exact this
      rw [List.getElem?_set_self hl] at h1
      rw [List.getElem?_set_self (by rw [← len]; exact hl)] at h3
      rw [List.getElem?_set_ne hjk] at h2 h4
      cases h1
      cases h3
      exact ha ds p rfl rfl k es (Ne.symm hjk) h2 h4
    · rw [List.getElem?_set_ne ej] at h1 h3
      by_cases ek : i = k
      · subst ek
        have hl : i < ρ.length := by
          have := (List.getElem?_eq_some_iff.mp h2).1
          rw [List.length_set] at this; exact this
        rw [List.getElem?_set_self hl] at h2
        rw [List.getElem?_set_self (by rw [← len]; exact hl)] at h4
        cases h2
        cases h4
        exact ha es p rfl rfl j ds hjk h1 h3
      · rw [List.getElem?_set_ne ek] at h2 h4
        exact ok.ap j k p ds es hjk h1 h2 h3 h4
theorem EOk.putSh (ok : EOk c B H σ ρ) {i : Nat} {v : V} {d : D} (r : Rp B v d) : EOk c B H (σ.set i (some v)) (ρ.set i (.sh d)) :=
  ok.put (fun hi => ⟨v, List.getElem?_set_self hi, r⟩) fun _ _ e => nomatch e
/-- .. by a new list of one's own -/
theorem EOk.putOw (ok : EOk c B H σ ρ) {B' H' : Hp} {i : Nat} {p : Addr} {vs : List V} {ds : List D} (g : Gr c B H B' H') (h0 : H p = none) (h1 : B' p = none) (h2 : H' p = some (.lst vs)) (r : RpA B' vs ds) :
    EOk c B' H' (σ.set i (some (.ref p))) (ρ.set i (.ow ds)) := by
  have nb : ¬ c.isBag p := fun z => ok.w.there z h0
  have hH0 : c.H0 p = none := by
    cases e : c.H0 p with
    | none => rfl
    | some o => rw [ok.g.h p o nb e] at h0; cases h0
  refine (ok.mono g).put (fun hi => ⟨p, vs, List.getElem?_set_self hi, hH0, nb, h1, h2, r⟩) fun es q e1 e2 j fs hj h3 h4 => ?_
  cases e2
  obtain ⟨p', vs', k1, k2, k3, k4, k5, _⟩ := ok.sl j _ h3
  rw [k1] at h4
  cases h4
  rw [h0] at k5
  cases k5
end
/-! ### targets -/
abbrev GT := D → Env → (Env → Prop) → Prop
abbrev GTs := List D → Env → (Env → Prop) → Prop
/-- slots outside ks stay -/
def Off (ks : List Nat) (σ σ' : St) : Prop := σ'.length = σ.length ∧ ∀ j, j ∉ ks → σ'[j]? = σ[j]?
theorem Off.refl (ks : List Nat) (σ : St) : Off ks σ σ := ⟨rfl, fun _ _ => rfl⟩
def toG (c : C) (g : GT) (ks : List Nat) : TG := fun v σ H Q => ∃ B ρ d, EOk c B H σ ρ ∧ Rp B v d ∧ g d ρ fun ρ' => ∀ σ', EOk c B H σ' ρ' → Off ks σ σ' → Q σ' H
def toGs (c : C) (g : GTs) (ks : List Nat) : TGs := fun v σ H Q => ∃ B ρ d, EOk c B H σ ρ ∧ RpA B v d ∧ g d ρ fun ρ' => ∀ σ', EOk c B H σ' ρ' → Off ks σ σ' → Q σ' H
structure PGd (X : Cx) (c : C) (tg : Expr) (g : GT) (ks : List Nat) : Prop where
  mono : ∀ d ρ (Q Q' : Env → Prop), (∀ ρ, Q ρ → Q' ρ) → g d ρ Q → g d ρ Q'
  pg : PG X tg (toG c g ks)
structure PGsd (X : Cx) (c : C) (tg : List Expr) (g : GTs) (ks : List Nat) : Prop where
  mono : ∀ d ρ (Q Q' : Env → Prop), (∀ ρ, Q ρ → Q' ρ) → g d ρ Q → g d ρ Q'
  pg : PGs X tg (toGs c g ks)
def gNm (i : Nat) : GT := fun d ρ Q => Q (ρ.set i (.sh d))
def gsNil : GTs := fun ds ρ Q => ds = [] ∧ Q ρ
def gsCons (g : GT) (gs : GTs) : GTs := fun ds ρ Q => match ds with | d :: r => g d ρ fun ρ' => gs r ρ' Q | [] => False
def gTpl (n : Nat) (gs : GTs) : GT := fun d ρ Q => match d with | .tuple ds => ds.length = n ∧ gs ds ρ Q | _ => False
section
variable {X : Cx} {c : C}
theorem pg_weak {tg : Expr} {t t' : TG} (h : PG X tg t) (w : ∀ v σ H Q, t' v σ H Q → t v σ H Q) : PG X tg t' := ⟨fun pins s σ H v u Q I r q => h.run pins s σ H v u Q I r (w v σ H Q q)⟩
theorem pgs_weak {tg : List Expr} {t t' : TGs} (h : PGs X tg t) (w : ∀ v σ H Q, t' v σ H Q → t v σ H Q) : PGs X tg t' := ⟨fun pins s σ H v u Q I r q => h.run pins s σ H v u Q I r (w v σ H Q q)⟩
theorem g_nm (i : Nat) {x : Str} {pos : Pos} (hN : X.N.Nodup) (hi : X.N[i]? = some x := by rfl) (hx : Loc X.env.scope x := by first | exact Or.inl rfl | exact Or.inr rfl)
    (hf : X.fn x = true ∨ X.env.scope.names.lookup x = some .local := by first | exact .inl rfl | exact .inr rfl | assumption) : PGd X c (.Name x pos) (gNm i) [i] := by
  refine ⟨fun d ρ Q Q' k h => k _ h, pg_weak (pg_name hN hi hx hf) fun v σ H Q ⟨B, ρ, d, ok, r, h⟩ => h _ (ok.putSh r) ⟨by rw [List.length_set], fun j hj => List.getElem?_set_ne (fun e => hj (by simp [e]))⟩⟩
theorem gs_nil : PGsd X c [] gsNil [] := ⟨fun d ρ Q Q' k h => ⟨h.1, k _ h.2⟩, pgs_weak pgs_nil fun vs σ H Q ⟨B, ρ, ds, ok, r, h⟩ => by
  obtain ⟨e, h⟩ := h
  subst e
  cases r
  exact ⟨rfl, h σ ok (Off.refl _ _)⟩⟩
theorem gs_cons {e : Expr} {es : List Expr} {g : GT} {gs : GTs} {ks js : List Nat} (h1 : PGd X c e g ks) (h2 : PGsd X c es gs js)
    (hs : (assignEach (e :: es) X.env).map (·.2) = assign e X.env :: (assignEach es X.env).map (·.2) := by rfl) : PGsd X c (e :: es) (gsCons g gs) (ks ++ js) := by
  refine ⟨fun d ρ Q Q' k h => ?_, pgs_weak (pgs_cons h1.pg h2.pg hs) fun vs σ H Q ⟨B, ρ, ds, ok, r, h⟩ => ?_⟩
  · cases d with
    | nil => exact h
    | cons d r => exact h1.mono _ _ _ _ (fun ρ' h' => h2.mono _ _ _ _ k h') h
  · cases ds with
    | nil => exact h.elim
    | cons d ds =>
      cases r with
      | cons r rr =>
        refine ⟨_, _, rfl, B, ρ, d, ok, r, h1.mono _ _ _ _ (fun ρ1 h' σ1 ok1 o1 => ⟨B, ρ1, ds, ok1, rr, h2.mono _ _ _ _ (fun ρ2 h'' σ2 ok2 o2 => h'' σ2 ok2 ⟨o2.1.trans o1.1, fun j hj => ?_⟩) h'⟩) h⟩
        rw [o2.2 j (fun z => hj (List.mem_append_right _ z)), o1.2 j (fun z => hj (List.mem_append_left _ z))]
theorem g_tup {es : List Expr} {k : Nat} {gs : GTs} {ks : List Nat} {pos : Pos} (hc : X.calm = true) (h : PGsd X c es gs ks) {n : Nat} (hn : (assignEach es X.env).length = n := by rfl) (hst : (assignEach es X.env).findIdx? (·.1) = none := by rfl) :
    PGd X c (.Tuple es k pos) (gTpl n gs) ks := by
  refine ⟨fun d ρ Q Q' k h' => ?_, pg_weak (pg_tup hc h.pg hn hst) fun v σ H Q ⟨B, ρ, d, ok, r, h'⟩ => ?_⟩
  · cases d <;> first | exact h'.elim | exact ⟨h'.1, h.mono _ _ _ _ k h'.2⟩
  · cases d <;> first | exact h'.elim | skip
    obtain ⟨a, xs, rfl, h1, h2⟩ := rp_tup r
    exact ⟨a, xs, rfl, SqT.of (ok.w.sub _ _ h1), by rw [rpa_len h2]; exact h'.1, B, ρ, _, ok, h2, h'.2⟩
end
/-! ### statements -/
structure En where
  nx : Env → Prop
  rt : D → Prop
  bk : Env → Prop
  ct : Env → Prop
abbrev SS := En → Env → Prop
structure En.le (D D' : En) : Prop where
  nx : ∀ ρ, D.nx ρ → D'.nx ρ
  rt : ∀ d, D.rt d → D'.rt d
  bk : ∀ ρ, D.bk ρ → D'.bk ρ
  ct : ∀ ρ, D.ct ρ → D'.ct ρ
theorem En.le.refl (D : En) : En.le D D := ⟨fun _ h => h, fun _ h => h, fun _ h => h, fun _ h => h⟩
def MonoS (f : SS) : Prop := ∀ D D' ρ, En.le D D' → f D ρ → f D' ρ
def liftE (c : C) (B : Hp) (D : Ends) : En where
  nx := fun ρ => ∀ σ' B' H', EOk c B' H' σ' ρ → Ex B B' → D.nx σ' H'
  rt := fun d => ∀ v B' H', Gr c c.B0 c.H0 B' H' → Rp B' v d → D.rt v H'
  bk := fun ρ => ∀ σ' B' H', EOk c B' H' σ' ρ → Ex B B' → D.bk σ' H'
  ct := fun ρ => ∀ σ' B' H', EOk c B' H' σ' ρ → Ex B B' → D.ct σ' H'
theorem liftE_le {c : C} {B B1 : Hp} (e : Ex B B1) (D : Ends) : En.le (liftE c B D) (liftE c B1 D) :=
  ⟨fun _ h σ' B' H' ok x => h σ' B' H' ok (e.trans x), fun _ h => h, fun _ h σ' B' H' ok x => h σ' B' H' ok (e.trans x), fun _ h σ' B' H' ok x => h σ' B' H' ok (e.trans x)⟩
def toS (c : C) (f : SS) : TS := fun D σ H => ∃ B ρ, EOk c B H σ ρ ∧ f (liftE c B D) ρ
structure PSd (X : Cx) (c : C) (st : Stmt) (f : SS) : Prop where
  mono : MonoS f
  ps : PS X st (toS c f)
structure PSsd (X : Cx) (c : C) (st : List Stmt) (f : SS) : Prop where
  mono : MonoS f
  ps : PSs X st (toS c f)
def fNext : SS := fun D ρ => D.nx ρ
def fSeqS (f g : SS) : SS := fun D ρ => f { D with nx := g D } ρ
theorem mono_SeqS {f g : SS} (hf : MonoS f) (hg : MonoS g) : MonoS (fSeqS f g) := fun D D' ρ l h => hf { D with nx := g D } { D' with nx := g D' } ρ ⟨fun ρ h => hg _ _ _ l h, l.rt, l.bk, l.ct⟩ h
section
variable {X : Cx} {c : C}
theorem ss_nil : PSsd X c [] fNext := ⟨fun _ _ _ l h => l.nx _ h, pss_weak pss_nil fun D σ H ⟨B, ρ, ok, h⟩ => h σ B H ok (Evl.Ex.refl B)⟩
theorem ss_cons {st : Stmt} {rest : List Stmt} {f g : SS} (h1 : PSd X c st f) (h2 : PSsd X c rest g) : PSsd X c (st :: rest) (fSeqS f g) := by
  refine ⟨mono_SeqS h1.mono h2.mono, pss_weak (pss_cons h1.ps h2.ps) fun D σ H ⟨B, ρ, ok, h⟩ => ?_⟩
  exact ⟨B, ρ, ok, h1.mono { liftE c B D with nx := g (liftE c B D) } _ _ ⟨fun ρ' q σ' B' H' ok' e => ⟨B', ρ', ok', h2.mono _ _ _ (liftE_le e D) q⟩, fun _ q => q, fun _ q => q, fun _ q => q⟩ h⟩
theorem ss_one {st : Stmt} {f : SS} (h1 : PSd X c st f) : PSsd X c [st] f := ⟨h1.mono, pss_one h1.ps⟩
def fBreak : SS := fun D ρ => D.bk ρ
def fCont : SS := fun D ρ => D.ct ρ
def fNever : SS := fun _ _ => False
theorem s_break {pos : Pos} : PSd X c (.Break pos) fBreak := ⟨fun _ _ _ l h => l.bk _ h, ps_weak ps_break fun D σ H ⟨B, ρ, ok, h⟩ => h σ B H ok (Evl.Ex.refl B)⟩
theorem s_continue {pos : Pos} : PSd X c (.Continue pos) fCont := ⟨fun _ _ _ l h => l.ct _ h, ps_weak ps_continue fun D σ H ⟨B, ρ, ok, h⟩ => h σ B H ok (Evl.Ex.refl B)⟩
theorem s_pass {pos : Pos} : PSd X c (.Pass pos) fNext := ⟨fun _ _ _ l h => l.nx _ h, ps_weak ps_pass fun D σ H ⟨B, ρ, ok, h⟩ => h σ B H ok (Evl.Ex.refl B)⟩
theorem s_never {st : Stmt} : PSd X c st fNever := ⟨fun _ _ _ _ h => h, ps_weak ps_never fun D σ H ⟨B, ρ, ok, h⟩ => h⟩
def fRet (fa : SE) : SS := fun D ρ => fa ρ D.rt
theorem s_ret {e : Expr} {fa : SE} {pos : Pos} (ha : PV X c e fa) : PSd X c (.Return (some e) pos) (fRet fa) :=
  ⟨fun D D' ρ l h => ha.mono _ _ _ l.rt h, ps_weak (ps_ret ha.pe) fun D σ H ⟨B, ρ, ok, h⟩ => ⟨B, ρ, ok, ha.mono _ _ _ (fun d hd v B' H' g r => hd v B' H' (ok.g.trans ok.w0 g) r) h⟩⟩
def fIfS (t : ST) (f g : SS) : SS := fun D ρ => t ρ fun b => if b = true then f D ρ else g D ρ
theorem s_if {cc : Expr} {a b : List Stmt} {t : ST} {f g : SS} {pos : Pos} (ht : PTd X c cc t) (ha : PSsd X c a f) (hb : PSsd X c b g) : PSd X c (.If cc a b pos) (fIfS t f g) := by
  refine ⟨fun D D' ρ l h => ht.mono _ _ _ (fun b hb' => ?_) h, ps_weak (ps_if ht.pt ha.ps hb.ps) fun D σ H ⟨B, ρ, ok, h⟩ => ⟨B, ρ, ok, ht.mono _ _ _ (fun b hb' B' H' g' => ?_) h⟩⟩
  · cases b with
    | true => exact ha.mono _ _ _ l hb'
    | false => exact hb.mono _ _ _ l hb'
  · cases b with
    | true => exact ⟨B', ρ, ok.mono g', ha.mono _ _ _ (liftE_le g'.b D) hb'⟩
    | false => exact ⟨B', ρ, ok.mono g', hb.mono _ _ _ (liftE_le g'.b D) hb'⟩
def fSet (i : Nat) (fa : SE) : SS := fun D ρ => fa ρ fun d => D.nx (ρ.set i (.sh d))
theorem mono_Set {i : Nat} {fa : SE} (h : Mono fa) : MonoS (fSet i fa) := fun D D' ρ l q => h _ _ _ (fun d hd => l.nx _ hd) q
theorem set_go {i : Nat} {fa : SE} (h : Mono fa) (D : Ends) (σ : St) (H : Hp) (q : toS c (fSet i fa) D σ H) : tAsg (toV c fa) (gName i) D σ H := by
  obtain ⟨B, ρ, ok, q⟩ := q
  exact ⟨B, ρ, ok, h _ _ _ (fun d hd v B' H' g r => hd _ _ _ ((ok.mono g).putSh r) g.b) q⟩
theorem s_set (i : Nat) {x : Str} {e : Expr} {fa : SE} {pos pos' : Pos} (hN : X.N.Nodup) (he : PV X c e fa) (hi : X.N[i]? = some x := by rfl) (hx : Loc X.env.scope x := by first | exact Or.inl rfl | exact Or.inr rfl)
    (hs : swapsWith e (some (.Name x pos')) pos.line X.env = pure false := by rfl) (hf : X.fn x = true ∨ X.env.scope.names.lookup x = some .local := by first | exact .inl rfl | exact .inr rfl | assumption) :
    PSd X c (.Assign [.Name x pos'] e pos) (fSet i fa) := ⟨mono_Set he.mono, ps_weak (ps_set hN hi hx he.pe hs hf) (set_go he.mono)⟩
/-- a name that shall be changed: a new list of one's own -/
def fSetN (i : Nat) (fa : SL) : SS := fun D ρ => fa ρ fun ds => D.nx (ρ.set i (.ow ds))
theorem mono_SetN {i : Nat} {fa : SL} (h : MonoL fa) : MonoS (fSetN i fa) := fun D D' ρ l q => h _ _ _ (fun d hd => l.nx _ hd) q
theorem setN_go {i : Nat} {fa : SL} (h : MonoL fa) (D : Ends) (σ : St) (H : Hp) (q : toS c (fSetN i fa) D σ H) : tAsg (toN c fa) (gName i) D σ H := by
  obtain ⟨B, ρ, ok, q⟩ := q
  exact ⟨B, ρ, ok, h _ _ _ (fun ds hd p vs B' H' g h0 h1 h2 r => hd _ _ _ (ok.putOw g h0 h1 h2 r) g.b) q⟩
theorem s_setN (i : Nat) {x : Str} {e : Expr} {fa : SL} {pos pos' : Pos} (hN : X.N.Nodup) (he : PN X c e fa) (hi : X.N[i]? = some x := by rfl) (hx : Loc X.env.scope x := by first | exact Or.inl rfl | exact Or.inr rfl)
    (hs : swapsWith e (some (.Name x pos')) pos.line X.env = pure false := by rfl) (hf : X.fn x = true ∨ X.env.scope.names.lookup x = some .local := by first | exact .inl rfl | exact .inr rfl | assumption) :
    PSd X c (.Assign [.Name x pos'] e pos) (fSetN i fa) := ⟨mono_SetN he.mono, ps_weak (ps_set hN hi hx he.pe hs hf) (setN_go he.mono)⟩
/-- any target -/
def fAsg (fa : SE) (g : GT) : SS := fun D ρ => fa ρ fun d => g d ρ D.nx
theorem s_asg {tg e : Expr} {fa : SE} {g : GT} {ks : List Nat} {pos : Pos} (he : PV X c e fa) (hg : PGd X c tg g ks) (hs : swapsWithSole [tg] e pos.line X.env = pure false := by rfl) (hw : swappedStores [tg] e X.env = pure none := by rfl)
    (h1 : (assignEach [tg] X.env).map (·.2) = [assign tg X.env] := by rfl) : PSd X c (.Assign [tg] e pos) (fAsg fa g) :=
  ⟨fun D D' ρ l h => he.mono _ _ _ (fun d hd => hg.mono _ _ _ _ l.nx hd) h, ps_weak (ps_asg he.pe hg.pg hs hw h1) fun D σ H ⟨B, ρ, ok, h⟩ => ⟨B, ρ, ok, he.mono _ _ _ (fun d hd v B' H' g' r =>
    ⟨B', ρ, d, ok.mono g', r, hg.mono _ _ _ _ (fun ρ' h' σ' ok' _ => h' σ' B' H' ok' g'.b) hd⟩) h⟩⟩
/-! ### a, b = x, y: data and new lists -/
abbrev SM := Env → (List Sl → Prop) → Prop
def MOk (c : C) (H B' H' : Hp) : List V → List Sl → Prop
  | [], [] => True
  | v :: vs, .sh d :: ss => Rp B' v d ∧ MOk c H B' H' vs ss
  | v :: vs, .ow ds :: ss => (∃ p ws, v = .ref p ∧ H p = none ∧ B' p = none ∧ H' p = some (.lst ws) ∧ RpA B' ws ds ∧ v ∉ vs) ∧ MOk c H B' H' vs ss
  | _, _ => False
def toM (c : C) (f : SM) : TA := fun σ H Q => ∃ B ρ, EOk c B H σ ρ ∧ f ρ fun ss => ∀ vs B' H', Gr c B H B' H' → MOk c H B' H' vs ss → Q vs H'
structure PMd (X : Cx) (c : C) (es : List Expr) (f : SM) : Prop where
  mono : MonoA f
  pa : PA X es (toM c f)
def fMV (fa : SE) (fr : SM) : SM := fun ρ Q => fa ρ fun d => fr ρ fun ss => Q (.sh d :: ss)
def fMN (fa : SL) (fr : SM) : SM := fun ρ Q => fa ρ fun ds => fr ρ fun ss => Q (.ow ds :: ss)
theorem MOk.back {B H B1 H1 B' H' : Hp} (g : Gr c B H B1 H1) (g2 : Gr c B1 H1 B' H') : ∀ {vs : List V} {ss : List Sl}, MOk c H1 B' H' vs ss → MOk c H B' H' vs ss
  | [], [], _ => trivial
  | _ :: _, .sh _ :: _, h => ⟨h.1, MOk.back g g2 h.2⟩
  | _ :: _, .ow _ :: _, h => by
    obtain ⟨⟨p, ws, e, h0, r⟩, h2⟩ := h
    exact ⟨⟨p, ws, e, g.back h0, r⟩, MOk.back g g2 h2⟩
  | _ :: _, .un :: _, h => h
  | _ :: _, .bg :: _, h => h
  | [], _ :: _, h => h
  | _ :: _, [], h => h
/-- an address that stands at H1 and is not shared is none of the later values -/
theorem MOk.notin {H1 B' H' : Hp} {p : Addr} {o : HO} (h1 : H1 p = some o) (h2 : B' p = none) : ∀ {vs : List V} {ss : List Sl}, MOk c H1 B' H' vs ss → V.ref p ∉ vs
  | [], [], _ => by simp
  | v :: vs, .sh d :: ss, h => by
    intro z
    rcases List.mem_cons.mp z with z | z
    · subst z
      obtain ⟨r, _⟩ := h
      cases r with
      | lst e _ => rw [h2] at e; cases e
      | tup e _ => rw [h2] at e; cases e
      | dct e _ => rw [h2] at e; cases e
    · exact MOk.notin h1 h2 h.2 z
  | v :: vs, .ow ds :: ss, h => by
    intro z
    obtain ⟨⟨q, ws, e, h0, _⟩, h3⟩ := h
    rcases List.mem_cons.mp z with z | z
    · rw [e] at z
      cases z
      rw [h1] at h0; cases h0
    · exact MOk.notin h1 h2 h3 z
  | _ :: _, .un :: _, h => h.elim
  | _ :: _, .bg :: _, h => h.elim
  | [], _ :: _, h => h.elim
  | _ :: _, [], h => h.elim
theorem m_nil : PMd X c [] fAN := ⟨fun _ _ _ k h => k _ h, pa_weak pa_nil fun σ H Q ⟨B, ρ, ok, h⟩ => h [] B H (Gr.refl ok.w) trivial⟩
theorem m_v {e : Expr} {es : List Expr} {fa : SE} {fr : SM} (ha : PV X c e fa) (hr : PMd X c es fr) (hs : starEach (e :: es) X.env = (false, eval e X.env) :: starEach es X.env := by rfl) : PMd X c (e :: es) (fMV fa fr) := by
  refine ⟨fun ρ Q Q' k h => ha.mono _ _ _ (fun d hd => hr.mono _ _ _ (fun ds he => k _ he) hd) h, pa_weak (pa_cons ha.pe hr.pa hs) fun σ H Q ⟨B, ρ, ok, h⟩ => ?_⟩
  refine ⟨B, ρ, ok, ha.mono _ _ _ (fun d hd v B1 H1 g1 r1 => ?_) h⟩
  exact ⟨B1, ρ, ok.mono g1, hr.mono _ _ _ (fun ds he vs B2 H2 g2 r2 => he _ B2 H2 (g1.trans ok.w g2) ⟨rp_mono g2.b r1, MOk.back g1 g2 r2⟩) hd⟩
theorem m_n {e : Expr} {es : List Expr} {fa : SL} {fr : SM} (ha : PN X c e fa) (hr : PMd X c es fr) (hs : starEach (e :: es) X.env = (false, eval e X.env) :: starEach es X.env := by rfl) : PMd X c (e :: es) (fMN fa fr) := by
  refine ⟨fun ρ Q Q' k h => ha.mono _ _ _ (fun d hd => hr.mono _ _ _ (fun ds he => k _ he) hd) h, pa_weak (pa_cons ha.pe hr.pa hs) fun σ H Q ⟨B, ρ, ok, h⟩ => ?_⟩
  refine ⟨B, ρ, ok, ha.mono _ _ _ (fun ds hd p ws B1 H1 g1 h0 h1 h2 r1 => ?_) h⟩
  refine ⟨B1, ρ, ok.mono g1, hr.mono _ _ _ (fun ss he vs B2 H2 g2 r2 => he _ B2 H2 (g1.trans ok.w g2) ⟨⟨p, ws, rfl, h0, ?_, ?_, rpa_mono g2.b r1, ?_⟩, MOk.back g1 g2 r2⟩) hd⟩
  · rw [g2.n p (by rw [h2]; exact fun q => nomatch q)]; exact h1
  · exact g2.h p _ (fun z => ok.w.there z h0) h2
  · exact MOk.notin h2 (by rw [g2.n p (by rw [h2]; exact fun q => nomatch q)]; exact h1) r2
/-- the slots at js take the words ss -/
def setAll : Env → List Nat → List Sl → Env
  | ρ, j :: js, s :: ss => setAll (ρ.set j s) js ss
  | ρ, _, _ => ρ
def setV : St → List Nat → List V → St
  | σ, j :: js, v :: vs => setV (σ.set j (some v)) js vs
  | σ, _, _ => σ
/-- σ0, H: the state ahead of the right side; the slots at done have taken values -/
theorem putAll {B H B' H' : Hp} (w : Wd c B H) (g : Gr c B H B' H') : ∀ {js : List Nat} {vs : List V} {ss : List Sl} {σ : St} {ρ : Env}, EOk c B' H' σ ρ → js.length = ss.length → MOk c H B' H' vs ss →
    (∀ (j : Nat) (es : List D) (p : Addr), V.ref p ∈ vs → H p = none → ρ[j]? = some (Sl.ow es) → ¬ σ[j]? = some (some (V.ref p))) → (c.H0 = c.H0) → (∀ a o, ¬ c.isBag a → c.H0 a = some o → H a = some o) → EOk c B' H' (setV σ js vs) (setAll ρ js ss)
  | [], [], [], _, _, ok, _, _, _, _, _ => ok
  | j :: js, v :: vs, .sh d :: ss, σ, ρ, ok, hl, h, hn, _, h0 => by
    show EOk c B' H' (setV (σ.set j (some v)) js vs) (setAll (ρ.set j (.sh d)) js ss)
    refine putAll w g (ok.putSh h.1) (by simpa using hl) h.2 (fun k es p hp hH h1 h2 => ?_) rfl h0
    by_cases e : j = k
    · subst e
      have hlen : j < ρ.length := by
        have := (List.getElem?_eq_some_iff.mp h1).1
        rw [List.length_set] at this; exact this
      rw [List.getElem?_set_self hlen] at h1
      cases h1
    · rw [List.getElem?_set_ne e] at h1 h2
      exact hn k es p (List.mem_cons_of_mem _ hp) hH h1 h2
  | j :: js, v :: vs, .ow ds :: ss, σ, ρ, ok, hl, h, hn, _, h0 => by
    obtain ⟨⟨p, ws, e, k0, k1, k2, k3, k4⟩, h2⟩ := h
    subst e
    have nb : ¬ c.isBag p := fun z => w.there z k0
    have hH0 : c.H0 p = none := by
      cases e : c.H0 p with
      | none => rfl
      | some o => rw [h0 p o nb e] at k0; cases k0
    show EOk c B' H' (setV (σ.set j (some (.ref p))) js vs) (setAll (ρ.set j (.ow ds)) js ss)
    refine putAll w g (ok.put (fun hi => ⟨p, ws, List.getElem?_set_self hi, hH0, nb, k1, k2, k3⟩) fun es q e1 e2 i fs hi h3 h4 => ?_) (by simpa using hl) h2 (fun k es q hq hH h1 h3 => ?_) rfl h0
    · cases e2
      exact hn i fs p List.mem_cons_self k0 h3 h4
    · by_cases e : j = k
      · subst e
        have hlen : j < ρ.length := by
          have := (List.getElem?_eq_some_iff.mp h1).1
          rw [List.length_set] at this; exact this
        rw [List.getElem?_set_self (by rw [← ok.len]; exact hlen)] at h3
        have e3 : V.ref p = V.ref q := Option.some.inj (Option.some.inj h3)
        rw [← e3] at hq
        exact k4 hq
      · rw [List.getElem?_set_ne e] at h1 h3
        exact hn k es q (List.mem_cons_of_mem _ hq) hH h1 h3
  | [], [], _ :: _, _, _, _, hl, _, _, _, _ => by simp at hl
  | [], _ :: _, [], _, _, _, _, h, _, _, _ => h.elim
  | _ :: _, _, [], _, _, _, hl, _, _, _, _ => by simp at hl
  | [], _ :: _, _ :: _, _, _, _, hl, _, _, _, _ => by simp at hl
  | _ :: _, [], _ :: _, _, _, _, _, h, _, _, _ => h.elim
  | _ :: _, _ :: _, .un :: _, _, _, _, _, h, _, _, _ => h.elim
  | _ :: _, _ :: _, .bg :: _, _, _, _, _, h, _, _, _ => h.elim
theorem putAll' {B H B' H' : Hp} {js : List Nat} {vs : List V} {ss : List Sl} {σ : St} {ρ : Env} (ok : EOk c B H σ ρ) (g : Gr c B H B' H') (hl : js.length = ss.length) (h : MOk c H B' H' vs ss) : EOk c B' H' (setV σ js vs) (setAll ρ js ss) :=
  putAll ok.w g (ok.mono g) hl h (fun j es p _ hp h1 h2 => by
    obtain ⟨q, ws, k1, _, _, _, k5, _⟩ := ok.sl j _ h1
    rw [k1] at h2
    cases h2
    rw [hp] at k5
    cases k5) rfl ok.g.h
theorem MOk.len {H B' H' : Hp} : ∀ {vs : List V} {ss : List Sl}, MOk c H B' H' vs ss → vs.length = ss.length
  | [], [], _ => rfl
  | _ :: _, .sh _ :: _, h => by rw [List.length_cons, List.length_cons, MOk.len h.2]
  | _ :: _, .ow _ :: _, h => by rw [List.length_cons, List.length_cons, MOk.len h.2]
  | _ :: _, .un :: _, h => h.elim
  | _ :: _, .bg :: _, h => h.elim
  | [], _ :: _, h => h.elim
  | _ :: _, [], h => h.elim
def fPar (js : List Nat) (f : SM) : SS := fun D ρ => f ρ fun ss => js.length = ss.length ∧ D.nx (setAll ρ js ss)
theorem mono_Par {js : List Nat} {f : SM} (h : MonoA f) : MonoS (fPar js f) := fun D D' ρ l q => h _ _ _ (fun ss hs => ⟨hs.1, l.nx _ hs.2⟩) q
theorem s_par (i j : Nat) {x y : Str} {a b : Expr} {f : SM} {px py pt pos : Pos} {kt k2 : Nat} {pt2 : Pos} (hc : X.calm = true) (hN : X.N.Nodup) (ha : PMd X c [a, b] f) (hi : X.N[i]? = some x := by rfl) (hj : X.N[j]? = some y := by rfl) (hij : i ≠ j := by decide)
    (hx : X.env.scope.names.lookup x = some .local := by rfl) (hy : X.env.scope.names.lookup y = some .local := by rfl)
    (hw : swappedStores [.Tuple [.Name x px, .Name y py] kt pt] (.Tuple [a, b] k2 pt2) X.env = pure (some [x, y]) := by rfl)
    (hs : swapsWithSole [.Tuple [.Name x px, .Name y py] kt pt] (.Tuple [a, b] k2 pt2) pos.line X.env = pure false := by rfl) :
    PSd X c (.Assign [.Tuple [.Name x px, .Name y py] kt pt] (.Tuple [a, b] k2 pt2) pos) (fPar [i, j] f) := by
  refine ⟨mono_Par ha.mono, ps_weak (ps_par hc hN hi hj hij hx hy ha.pa hw hs) fun D σ H ⟨B, ρ, ok, h⟩ => ⟨B, ρ, ok, ha.mono _ _ _ (fun ss hd vs B' H' g r => ?_) h⟩⟩
  have hv := r.len
  have hq := hd.2 _ B' H' (putAll' ok g hd.1 r) g.b
  rw [← hd.1] at hv
  match vs, hv with
  | [v, w], _ => exact ⟨v, w, rfl, hq⟩
theorem s_par3 (i j l : Nat) {x y z : Str} {a b d : Expr} {f : SM} {px py pz pt pos : Pos} {kt k2 : Nat} {pt2 : Pos} (hc : X.calm = true) (hN : X.N.Nodup) (ha : PMd X c [a, b, d] f) (hi : X.N[i]? = some x := by rfl) (hj : X.N[j]? = some y := by rfl) (hl : X.N[l]? = some z := by rfl)
    (hij : i ≠ j := by decide) (hil : i ≠ l := by decide) (hjl : j ≠ l := by decide) (hx : X.env.scope.names.lookup x = some .local := by rfl) (hy : X.env.scope.names.lookup y = some .local := by rfl) (hz : X.env.scope.names.lookup z = some .local := by rfl)
    (hw : swappedStores [.Tuple [.Name x px, .Name y py, .Name z pz] kt pt] (.Tuple [a, b, d] k2 pt2) X.env = pure (some [x, y, z]) := by rfl)
    (hs : swapsWithSole [.Tuple [.Name x px, .Name y py, .Name z pz] kt pt] (.Tuple [a, b, d] k2 pt2) pos.line X.env = pure false := by rfl) :
    PSd X c (.Assign [.Tuple [.Name x px, .Name y py, .Name z pz] kt pt] (.Tuple [a, b, d] k2 pt2) pos) (fPar [i, j, l] f) := by
  refine ⟨mono_Par ha.mono, ps_weak (ps_par3 hc hN hi hj hl hij hil hjl hx hy hz ha.pa hw hs) fun D σ H ⟨B, ρ, ok, h⟩ => ⟨B, ρ, ok, ha.mono _ _ _ (fun ss hd vs B' H' g r => ?_) h⟩⟩
  have hv := r.len
  have hq := hd.2 _ B' H' (putAll' ok g hd.1 r) g.b
  rw [← hd.1] at hv
  match vs, hv with
  | [u, v, w], _ => exact ⟨u, v, w, rfl, hq⟩
end
end DL
namespace DL
open PySem L2 PyProof.Rows
/-! ### a list of one's own is changed -/
section
variable {c : C} {B H : Hp} {σ : St} {ρ : Env}
theorem EOk.chg (ok : EOk c B H σ ρ) {i : Nat} {p : Addr} {ds ds' : List D} {vs' : List V} (hl : lk ρ i = .ow ds) (hp : σ[i]? = some (some (.ref p))) (r : RpA B vs' ds') : EOk c B (upd H p (.lst vs')) σ (ρ.set i (.ow ds')) := by
  have hi := lk_get hl (fun z => nomatch z)
  obtain ⟨p', vs, k1, k2, k3, k4, k5, k6⟩ := ok.sl i _ hi
  rw [hp] at k1
  cases k1
  have w' : Wd c B (upd H p (.lst vs')) := by
    refine ⟨fun a o e => ?_, ok.w.bag.keep fun a ha => ⟨rfl, upd_ne fun z => k3 (z ▸ ha)⟩⟩
    rw [upd_ne (ne_of_none e k4)]; exact ok.w.sub a o e
  have hil : i < ρ.length := (List.getElem?_eq_some_iff.mp hi).1
  refine ⟨ok.w0, w', ⟨ok.g.b, fun a o nb e => ?_, ok.g.n, w'⟩, by rw [List.length_set]; exact ok.len, fun j s hj => ?_, fun j k q es fs hjk h1 h2 h3 h4 => ?_⟩
  · rw [upd_ne (ne_of_none e k2)]; exact ok.g.h a o nb e
  · by_cases e : i = j
    · subst e
      rw [List.getElem?_set_self hil] at hj
      cases hj
      exact ⟨p, vs', hp, k2, k3, k4, upd_same, r⟩
    · rw [List.getElem?_set_ne e] at hj
      have o := ok.sl j s hj
      cases s with
      | un => trivial
      | sh d => exact o
      | bg => exact o
      | ow es =>
        obtain ⟨q, ws, m1, m2, m3, m4, m5, m6⟩ := o
        have ne : q ≠ p := fun z => by
          subst z
          exact ok.ap i j q _ _ e hi hj hp m1
        exact ⟨q, ws, m1, m2, m3, m4, by rw [upd_ne ne]; exact m5, m6⟩
  · have old : ∀ {x : Nat} {fs : List D}, (ρ.set i (Sl.ow ds'))[x]? = some (Sl.ow fs) → ∃ gs, ρ[x]? = some (Sl.ow gs) := fun {x fs} hx => by
      by_cases e : i = x
      · subst e; exact ⟨_, hi⟩
      · rw [List.getElem?_set_ne e] at hx; exact ⟨_, hx⟩
    obtain ⟨g1, e1⟩ := old h1
    obtain ⟨g2, e2⟩ := old h2
    exact ok.ap j k q g1 g2 hjk e1 e2 h3 h4
theorem EOk.own (ok : EOk c B H σ ρ) {i : Nat} {ds : List D} (hl : lk ρ i = .ow ds) : ∃ p vs, σ[i]? = some (some (.ref p)) ∧ H p = some (.lst vs) ∧ RpA B vs ds := by
  obtain ⟨p, vs, k1, k2, k3, k4, k5, k6⟩ := ok.sl i _ (lk_get hl (fun z => nomatch z))
  exact ⟨p, vs, k1, k5, k6⟩
/-- a list of one's own is shared from here on -/
theorem EOk.freeze (ok : EOk c B H σ ρ) {i : Nat} {ds : List D} (hl : lk ρ i = .ow ds) : ∃ p vs, EOk c (upd B p (.lst vs)) H σ (ρ.set i (.sh (.list ds))) ∧ B p = none := by
  have hi := lk_get hl (fun z => nomatch z)
  obtain ⟨p, vs, k1, k2, k3, k4, k5, k6⟩ := ok.sl i _ hi
  have x : Ex B (upd B p (.lst vs)) := Evl.Ex.new k4
  have w' : Wd c (upd B p (.lst vs)) H := by
    refine ⟨fun a o e => ?_, ok.w.bag.keep fun a ha => ⟨upd_ne fun z => k3 (z ▸ ha), rfl⟩⟩
    by_cases z : a = p
    · subst z
      rw [upd_same] at e
      rw [k5]; exact e
    · rw [upd_ne z] at e; exact ok.w.sub a o e
  have hil : i < ρ.length := (List.getElem?_eq_some_iff.mp hi).1
  refine ⟨p, vs, ⟨ok.w0, w', ⟨ok.g.b.trans x, ok.g.h, fun a ha => ?_, w'⟩, by rw [List.length_set]; exact ok.len, fun j s hj => ?_, fun j k q es fs hjk h1 h2 h3 h4 => ?_⟩, k4⟩
  · rw [upd_ne (fun z => ha (by rw [z]; exact k2))]; exact ok.g.n a ha
  · by_cases e : i = j
    · subst e
      rw [List.getElem?_set_self hil] at hj
      cases hj
      exact ⟨_, k1, .lst upd_same (rpa_mono x k6)⟩
    · rw [List.getElem?_set_ne e] at hj
      have o := ok.sl j s hj
      cases s with
      | un => trivial
      | sh d =>
        obtain ⟨v, m1, m2⟩ := o
        exact ⟨v, m1, rp_mono x m2⟩
      | bg => exact o
      | ow es =>
        obtain ⟨q, ws, m1, m2, m3, m4, m5, m6⟩ := o
        have ne : q ≠ p := fun z => by
          subst z
          exact ok.ap i j q _ _ e hi hj k1 m1
        exact ⟨q, ws, m1, m2, m3, by rw [upd_ne ne]; exact m4, m5, rpa_mono x m6⟩
  · have old : ∀ {y : Nat} {fs : List D}, (ρ.set i (Sl.sh (.list ds)))[y]? = some (Sl.ow fs) → ρ[y]? = some (Sl.ow fs) := fun {y fs} hx => by
      by_cases e : i = y
      · subst e; rw [List.getElem?_set_self hil] at hx; cases hx
      · rw [List.getElem?_set_ne e] at hx; exact hx
    exact ok.ap j k q _ _ hjk (old h1) (old h2) h3 h4
end
/-- the most items -/
def most : Nat := 4000000
theorem most_lt {n : Nat} (h : n < most) : n < sizeLine := by rw [sizeLine_eq]; unfold most at h; omega
theorem most_le {n : Nat} (h : n ≤ most) : n ≤ sizeLine := by rw [sizeLine_eq]; unfold most at h; omega
def fApp (i : Nat) (fa : SE) : SS := fun D ρ => match lk ρ i with | .ow ds => fa ρ fun d => ds.length < most ∧ D.nx (ρ.set i (.ow (ds ++ [d]))) | _ => False
def fExt (i : Nat) (fa : SE) : SS := fun D ρ => match lk ρ i with | .ow ds => fa ρ fun d => (match d with | .list es => ds.length + es.length ≤ most ∧ D.nx (ρ.set i (.ow (ds ++ es))) | _ => False) | _ => False
def fPop (i : Nat) (g : GT) : SS := fun D ρ => match lk ρ i with | .ow ds => (match ds.getLast? with | some d => g d (ρ.set i (.ow ds.dropLast)) D.nx | none => False) | _ => False
def fSetIx (i : Nat) (fa fk : SE) : SS := fun D ρ => match lk ρ i with
  | .ow ds => fa ρ fun d => fk ρ fun k => (match k with | .int k => (match ixN ds.length k with | some j => D.nx (ρ.set i (.ow (ds.set j d))) | none => False) | _ => False)
  | _ => False
def fFreeze (i : Nat) (f : SS) : SS := fun D ρ => match lk ρ i with | .ow ds => f D (ρ.set i (.sh (.list ds))) | _ => False
section
variable {X : Cx} {c : C}
theorem s_freeze (i : Nat) {st : Stmt} {f : SS} (h : PSd X c st f) : PSd X c st (fFreeze i f) := by
  refine ⟨fun D D' ρ l q => ?_, ps_weak h.ps fun D σ H ⟨B, ρ, ok, q⟩ => ?_⟩
  · unfold fFreeze at q ⊢
    split at q <;> first | exact q.elim | exact h.mono _ _ _ l q
  · unfold fFreeze at q
    split at q <;> first | exact q.elim | skip
    rename_i e
    obtain ⟨p, vs, ok', hb⟩ := ok.freeze e
    exact ⟨_, _, ok', h.mono _ _ _ (liftE_le (Evl.Ex.new hb) D) q⟩
theorem s_app (i : Nat) {x : Str} {e : Expr} {fa : SE} {p1 p2 pos pos' : Pos} (ha : PV X c e fa) (hN : X.N[i]? = some x := by rfl) (hv : Vis X.env.scope x := by first | exact Or.inl rfl | exact Or.inr (Or.inl rfl) | exact Or.inr (Or.inr rfl))
    (hd : (x == ("__debug__" : Str)) = false := by decide) (hcd : (x == ("__classdict__" : Str)) = false := by decide)
    (hbase : attributeBase (.Name x p1) "append" X.env (eval (.Name x p1) X.env) = eval (.Name x p1) X.env := by rfl)
    (hfew : ((backTo pos (starEach [e] X.env)).all (fun x => !x.1) && (backToKw pos (keywordEach [] X.env)).all (fun x => x.1.isSome) && decide ([e].length + ([] : List Keyword).length + (if ([] : List Keyword).isEmpty then 0 else 1) < 30)) = true := by rfl)
    (hline : (p2.endLine == pos.line) = true := by rfl) (hst : starEach [e] X.env = (false, eval e X.env) :: starEach [] X.env := by rfl) (hplain : (backTo pos (starEach [] X.env)).any (·.1) = false := by rfl)
    (hs : swapsWith (.Call (.Attribute (.Name x p1) "append" p2) [e] [] pos) none pos'.line X.env = pure false := by rfl) :
    PSd X c (.Expr (.Call (.Attribute (.Name x p1) "append" p2) [e] [] pos) pos') (fApp i fa) := by
  have hpe : PE X (.Call (.Attribute (.Name x p1) "append" p2) [e] [] pos) (tBM X.K "list" rAppend (tVar i) (tCons (toV c fa) tNil)) := pe_bm PySem.F.plainAttrs_list PySem.F.slot_list_append PySem.F.type_list_append mt_append (pe_var hN hv hd hcd) (pa_cons ha.pe pa_nil hst) hbase hfew hline hst hplain
  refine ⟨fun D D' ρ l q => ?_, ps_weak (ps_expr hpe hs) fun D σ H ⟨B, ρ, ok, q⟩ => ?_⟩
  · unfold fApp at q ⊢
    split at q <;> first | exact q.elim | exact ha.mono _ _ _ (fun d hd => ⟨hd.1, l.nx _ hd.2⟩) q
  · unfold fApp at q
    split at q <;> first | exact q.elim | skip
    rename_i ds e1
    obtain ⟨p, vs, k1, k2, k3⟩ := ok.own e1
    refine ⟨_, k1, .inl ⟨rfl, vs, SqL.of k2⟩, B, ρ, ok, ha.mono _ _ _ (fun d hd v B1 H1 g1 r1 => ?_) q⟩
    obtain ⟨p', vs1, m1, m2, m3⟩ := (ok.mono g1).own e1
    rw [k1] at m1
    cases m1
    refine ⟨p, vs1, v, rfl, rfl, m2, ?_, ?_⟩
    · rw [rpa_len m3]; exact most_lt hd.1
    · exact hd.2 σ B1 _ ((ok.mono g1).chg e1 k1 (rpa_app m3 (.cons r1 .nil))) g1.b
theorem s_ext (i : Nat) {x : Str} {e : Expr} {fa : SE} {p1 p2 pos pos' : Pos} (ha : PB X c e fa) (hN : X.N[i]? = some x := by rfl) (hv : Vis X.env.scope x := by first | exact Or.inl rfl | exact Or.inr (Or.inl rfl) | exact Or.inr (Or.inr rfl))
    (hd : (x == ("__debug__" : Str)) = false := by decide) (hcd : (x == ("__classdict__" : Str)) = false := by decide)
    (hbase : attributeBase (.Name x p1) "extend" X.env (eval (.Name x p1) X.env) = eval (.Name x p1) X.env := by rfl)
    (hfew : ((backTo pos (starEach [e] X.env)).all (fun x => !x.1) && (backToKw pos (keywordEach [] X.env)).all (fun x => x.1.isSome) && decide ([e].length + ([] : List Keyword).length + (if ([] : List Keyword).isEmpty then 0 else 1) < 30)) = true := by rfl)
    (hline : (p2.endLine == pos.line) = true := by rfl) (hst : starEach [e] X.env = (false, eval e X.env) :: starEach [] X.env := by rfl) (hplain : (backTo pos (starEach [] X.env)).any (·.1) = false := by rfl)
    (hs : swapsWith (.Call (.Attribute (.Name x p1) "extend" p2) [e] [] pos) none pos'.line X.env = pure false := by rfl) :
    PSd X c (.Expr (.Call (.Attribute (.Name x p1) "extend" p2) [e] [] pos) pos') (fExt i fa) := by
  have hpe : PE X (.Call (.Attribute (.Name x p1) "extend" p2) [e] [] pos) (tBM X.K "list" rExtend (tVar i) (tCons (toB c fa) tNil)) := pe_bm PySem.F.plainAttrs_list PySem.F.slot_list_extend PySem.F.type_list_extend mt_extend (pe_var hN hv hd hcd) (pa_cons ha.pe pa_nil hst) hbase hfew hline hst hplain
  refine ⟨fun D D' ρ l q => ?_, ps_weak (ps_expr hpe hs) fun D σ H ⟨B, ρ, ok, q⟩ => ?_⟩
  · unfold fExt at q ⊢
    split at q <;> first | exact q.elim | skip
    refine ha.mono _ _ _ (fun d hd => ?_) q
    cases d <;> first | exact hd.elim | exact ⟨hd.1, l.nx _ hd.2⟩
  · unfold fExt at q
    split at q <;> first | exact q.elim | skip
    rename_i ds e1
    obtain ⟨p, vs, k1, k2, k3⟩ := ok.own e1
    refine ⟨_, k1, .inl ⟨rfl, vs, SqL.of k2⟩, B, ρ, ok, ha.mono _ _ _ (fun d hd v B1 H1 g1 r1 => ?_) q⟩
    cases d <;> first | exact hd.elim | skip
    obtain ⟨p', vs1, m1, m2, m3⟩ := (ok.mono g1).own e1
    rw [k1] at m1
    cases m1
    obtain ⟨b, zs, rfl, h1, h2⟩ := r1.list g1.w
    refine ⟨p, b, vs1, zs, rfl, rfl, m2, h1, ?_, ?_⟩
    · rw [rpa_len m3, rpa_len h2]; exact most_le hd.1
    · exact hd.2 σ B1 _ ((ok.mono g1).chg e1 k1 (rpa_app m3 h2)) g1.b
theorem rpa_dropLast {B : Hp} {vs : List V} {ds : List D} (h : RpA B vs ds) : RpA B vs.dropLast ds.dropLast := by
  rw [List.dropLast_eq_take, List.dropLast_eq_take, rpa_len h]
  exact rpa_take _ h
theorem s_pop (i : Nat) {x : Str} {tg : Expr} {g : GT} {ks : List Nat} {p1 p2 pos pos' : Pos} (hg : PGd X c tg g ks) (hN : X.N[i]? = some x := by rfl) (hv : Vis X.env.scope x := by first | exact Or.inl rfl | exact Or.inr (Or.inl rfl) | exact Or.inr (Or.inr rfl))
    (hd : (x == ("__debug__" : Str)) = false := by decide) (hcd : (x == ("__classdict__" : Str)) = false := by decide)
    (hbase : attributeBase (.Name x p1) "pop" X.env (eval (.Name x p1) X.env) = eval (.Name x p1) X.env := by rfl) (hline : (p2.endLine == pos.line) = true := by rfl)
    (hs : swapsWithSole [tg] (.Call (.Attribute (.Name x p1) "pop" p2) [] [] pos) pos'.line X.env = pure false := by rfl) (hw : swappedStores [tg] (.Call (.Attribute (.Name x p1) "pop" p2) [] [] pos) X.env = pure none := by rfl)
    (h1 : (assignEach [tg] X.env).map (·.2) = [assign tg X.env] := by rfl) :
    PSd X c (.Assign [tg] (.Call (.Attribute (.Name x p1) "pop" p2) [] [] pos) pos') (fPop i g) := by
  have hpe : PE X (.Call (.Attribute (.Name x p1) "pop" p2) [] [] pos) (tBM0 X.K "list" rPop (tVar i)) := pe_bm0 PySem.F.plainAttrs_list PySem.F.slot_list_pop PySem.F.type_list_pop mt_pop (pe_var hN hv hd hcd) hbase hline
  refine ⟨fun D D' ρ l q => ?_, ps_weak (ps_asg hpe hg.pg hs hw h1) fun D σ H ⟨B, ρ, ok, q⟩ => ?_⟩
  · unfold fPop at q ⊢
    split at q <;> first | exact q.elim | skip
    split at q <;> first | exact q.elim | exact hg.mono _ _ _ _ l.nx q
  · unfold fPop at q
    split at q <;> first | exact q.elim | skip
    split at q <;> first | exact q.elim | skip
    rename_i ds e1 _ d e2
    obtain ⟨p, vs, k1, k2, k3⟩ := ok.own e1
    rw [List.getLast?_eq_getElem?] at e2
    obtain ⟨y, h3, h4⟩ := rpa_get k3 e2
    refine ⟨_, k1, .inl ⟨rfl, vs, SqL.of k2⟩, p, vs, y, rfl, rfl, k2, by rw [rpa_len k3]; exact h3, ?_⟩
    exact ⟨B, _, d, ok.chg e1 k1 (rpa_dropLast k3), h4, hg.mono _ _ _ _ (fun ρ' h' σ' ok' _ => h' σ' B _ ok' (Evl.Ex.refl B)) q⟩
theorem s_setIx (i : Nat) {x : Str} {e idx : Expr} {fa fk : SE} {p1 p2 pos : Pos} (he : PV X c e fa) (hk : PB X c idx fk) (hN : X.N[i]? = some x := by rfl) (hv : Vis X.env.scope x := by first | exact Or.inl rfl | exact Or.inr (Or.inl rfl) | exact Or.inr (Or.inr rfl))
    (hd : (x == ("__debug__" : Str)) = false := by decide) (hcd : (x == ("__classdict__" : Str)) = false := by decide)
    (ha : ∀ v, assign (.Subscript (.Name x p1) idx p2) X.env v = (do
      let ov ← holding [v] (eval (.Name x p1) X.env)
      let iv ← holding [v, ov] (eval idx X.env)
      standAt p2
      holding [v, ov, iv] (setItem ov iv v)
      release [v, ov, iv] []) := by intro _; rfl)
    (hs : swapsWithSole [.Subscript (.Name x p1) idx p2] e pos.line X.env = pure false := by rfl) (hw : swappedStores [.Subscript (.Name x p1) idx p2] e X.env = pure none := by rfl)
    (h1 : (assignEach [.Subscript (.Name x p1) idx p2] X.env).map (·.2) = [assign (.Subscript (.Name x p1) idx p2) X.env] := by rfl) :
    PSd X c (.Assign [.Subscript (.Name x p1) idx p2] e pos) (fSetIx i fa fk) := by
  refine ⟨fun D D' ρ l q => ?_, ps_weak (ps_asg he.pe (pg_sub (pe_var hN hv hd hcd) hk.pe set_list ha) hs hw h1) fun D σ H ⟨B, ρ, ok, q⟩ => ?_⟩
  · unfold fSetIx at q ⊢
    split at q <;> first | exact q.elim | skip
    refine he.mono _ _ _ (fun d hd => hk.mono _ _ _ (fun k hk' => ?_) hd) q
    cases k <;> first | exact hk'.elim | skip
    dsimp only at hk' ⊢
    split at hk' <;> first | exact hk'.elim | exact l.nx _ hk'
  · unfold fSetIx at q
    split at q <;> first | exact q.elim | skip
    rename_i ds e1
    refine ⟨B, ρ, ok, he.mono _ _ _ (fun d hd v B1 H1 g1 r1 => ?_) q⟩
    obtain ⟨p, vs, k1, k2, k3⟩ := (ok.mono g1).own e1
    refine ⟨_, k1, B1, ρ, ok.mono g1, hk.mono _ _ _ (fun k hk' u B2 H2 g2 r2 => ?_) hd⟩
    cases k <;> first | exact hk'.elim | skip
    rename_i k
    dsimp only at hk'
    split at hk' <;> first | exact hk'.elim | skip
    rename_i j e3
    have ok2 := (ok.mono g1).mono g2
    obtain ⟨p', vs1, m1, m2, m3⟩ := ok2.own e1
    rw [k1] at m1
    cases m1
    exact ⟨p, vs1, k, j, rfl, r2.int, m2, by rw [rpa_len m3]; exact e3, hk' σ B2 _ (ok2.chg e1 k1 (rpa_set (rp_mono g2.b r1) j m3)) (g1.b.trans g2.b)⟩
end
/-! ### what is walked -/
abbrev SI := Env → (List D → Prop) → Prop
/-- J yields ds, whatever more may come to stand -/
def ItOk (c : C) (J : It) (B : Hp) (ds : List D) : Prop := ∀ (i : Nat) (B1 H1 : Hp), Ex B B1 → Wd c B1 H1 →
  (ds.length ≤ i → J.stop i H1) ∧ ∀ d, ds[i]? = some d → J.go i H1 ∧ ∀ x H2, J.yld i H1 x H2 → ∃ B2, Gr c B1 H1 B2 H2 ∧ Rp B2 x d
def toI (c : C) (f : SI) : TI := fun σ H R => ∃ B ρ, EOk c B H σ ρ ∧ f ρ fun ds => ∀ J B' H', Gr c B H B' H' → ItOk c J B' ds → R J H'
structure PItd (X : Cx) (c : C) (tg iter : Expr) (f : SI) : Prop where
  mono : MonoL f
  pi : PI X tg iter (toI c f)
theorem pi_weak {X : Cx} {tg iter : Expr} {t t' : TI} (h : PI X tg iter t) (w : ∀ σ H R, t' σ H R → t σ H R) : PI X tg iter t' := ⟨fun pins s σ H R I q => h.run pins s σ H R I (w σ H R q)⟩
section
variable {X : Cx} {c : C} {tg : Expr}
theorem itok_list {B : Hp} {a : Addr} {xs : List V} {ds : List D} (h : B a = some (.lst xs)) (r : RpA B xs ds) : ItOk c (Itl X.K a) B ds := fun i B1 H1 e w => by
  have h1 : H1 a = some (.lst xs) := w.sub _ _ (e _ _ h)
  refine ⟨fun hi => ⟨xs, SqL.of h1, by rw [rpa_len r]; exact hi⟩, fun d hd => ?_⟩
  obtain ⟨v, h2, h3⟩ := rpa_get r hd
  refine ⟨⟨xs, v, SqL.of h1, h2⟩, fun x H2 ⟨e1, y⟩ => ?_⟩
  subst e1
  have := y xs (SqL.of h1)
  rw [h2] at this
  cases this
  exact ⟨B1, Gr.refl w, rp_mono e h3⟩
theorem itok_tup {B : Hp} {a : Addr} {xs : List V} {ds : List D} (h : B a = some (.tup xs)) (r : RpA B xs ds) : ItOk c (Itt X.K a) B ds := fun i B1 H1 e w => by
  have h1 : H1 a = some (.tup xs) := w.sub _ _ (e _ _ h)
  refine ⟨fun hi => ⟨xs, SqT.of h1, by rw [rpa_len r]; exact hi⟩, fun d hd => ?_⟩
  obtain ⟨v, h2, h3⟩ := rpa_get r hd
  refine ⟨⟨xs, v, SqT.of h1, h2⟩, fun x H2 ⟨e1, y⟩ => ?_⟩
  subst e1
  have := y xs (SqT.of h1)
  rw [h2] at this
  cases this
  exact ⟨B1, Gr.refl w, rp_mono e h3⟩
/-- a list or a tuple -/
def iSeqD (K : PySem.W.Frag) (tl : TE) : TI := fun σ H R => tl σ H fun x H1 => ∃ a xs, x = .ref a ∧ ((SqL K H1 a xs ∧ R (Itl K a) H1) ∨ (SqT K H1 a xs ∧ R (Itt K a) H1))
theorem pi_seqD {l : Expr} {tl : TE} (hl : PE X l tl) : PI X tg l (iSeqD X.K tl) := by
  refine ⟨fun pins s σ H R I h => thn (hl.run pins s σ H _ I h) fun v s1 hv => ?_⟩
  obtain ⟨x, H1, I1, r1, a, xs, ex, hq⟩ := hv
  subst ex
  cases r1
  have fr : FpOk X pins H1 s1.heap.objs.size := I1.fpOk (Nat.le_refl _) (I1.hok.fresh (Nat.le_refl _))
  have all : ∀ b ∈ [s1.heap.objs.size], FpOk X pins H1 b := fun b hb => by
    rw [List.mem_singleton] at hb
    rw [hb]; exact fr
  rcases hq with ⟨hq, q⟩ | ⟨hq, q⟩
  · obtain ⟨its, _, p, _⟩ := I1.list hq
    exact wpAny_pyIter_list p.isList ⟨_, _, _, _, H1, rfl, I1.kept (t' := s1.toks) fun _ _ e => Heap.get?_push_of_some _ e, turn_list a _, ⟨_, Heap.get?_push_size _ rfl, rfl, rfl⟩, all, q⟩
  · obtain ⟨its, _, p, _⟩ := I1.tuple hq
    exact wpAny_pyIter_tuple (show s1.heap.IsTuple a its.toArray from p) ⟨_, _, _, _, H1, rfl, I1.kept (t' := s1.toks) fun _ _ e => Heap.get?_push_of_some _ e, turn_tuple a _, ⟨_, Heap.get?_push_size _ rfl, rfl, rfl⟩, all, q⟩
theorem i_seq {e : Expr} {fa : SE} (ha : PV X c e fa) : PItd X c tg e (fSeq fa) := by
  refine ⟨mono_Seq ha.mono, pi_weak (pi_seqD ha.pe) fun σ H R ⟨B, ρ, ok, h⟩ => ⟨B, ρ, ok, ha.mono _ _ _ (fun d hd v B' H' g r => ?_) h⟩⟩
  cases d <;> simp only [seqOf] at hd <;> first | exact hd.elim | skip
  · obtain ⟨a, xs, rfl, h1, h2⟩ := rp_lst r
    exact ⟨a, xs, rfl, .inl ⟨SqL.of (g.w.sub _ _ h1), hd _ B' H' g (itok_list h1 h2)⟩⟩
  · obtain ⟨a, xs, rfl, h1, h2⟩ := rp_tup r
    exact ⟨a, xs, rfl, .inr ⟨SqT.of (g.w.sub _ _ h1), hd _ B' H' g (itok_tup h1 h2)⟩⟩
/-- lo, lo + 1, .. -/
def rng (lo : Int) (n : Nat) : List D := (List.range n).map fun i => .int (lo + (i : Nat))
theorem rng_len (lo : Int) (n : Nat) : (rng lo n).length = n := by unfold rng; rw [List.length_map, List.length_range]
theorem rng_get {lo : Int} {n i : Nat} {d : D} (h : (rng lo n)[i]? = some d) : i < n ∧ d = .int (lo + (i : Nat)) := by
  have hi : i < n := by
    have := (List.getElem?_eq_some_iff.mp h).1
    rw [rng_len] at this; exact this
  refine ⟨hi, ?_⟩
  unfold rng at h
  rw [List.getElem?_map, List.getElem?_range hi] at h
  cases h; rfl
theorem itok_rng {B : Hp} {lo : Int} {n : Nat} : ItOk c (Itr lo n) B (rng lo n) := fun i B1 H1 e w => by
  refine ⟨fun hi => by rw [rng_len] at hi; exact hi, fun d hd => ?_⟩
  obtain ⟨h1, h2⟩ := rng_get hd
  refine ⟨h1, fun x H2 ⟨e1, y⟩ => ?_⟩
  subst e1 y h2
  exact ⟨B1, Gr.refl w, .int _⟩
def fRng1 (fa : SE) : SI := fun ρ Q => fa ρ fun d => match d with | .int j => -(2 ^ 62) ≤ j ∧ j < 2 ^ 62 ∧ Q (rng 0 j.toNat) | _ => False
def fRng2 (fa fb : SE) : SI := fun ρ Q => fa ρ fun d => fb ρ fun e => match d, e with | .int i, .int j => (-(2 ^ 62) ≤ i ∧ i < 2 ^ 62 ∧ -(2 ^ 62) ≤ j ∧ j < 2 ^ 62) ∧ Q (rng i (j - i).toNat) | _, _ => False
theorem i_rng1 {a : Expr} {fa : SE} {p pos : Pos} (hm : X.mg "range" = none) (ha : PB X c a fa) (hg : Gl X "range" := by rfl) (hs : starEach [a] X.env = [(false, eval a X.env)] := by rfl) : PItd X c tg (.Call (.Name "range" p) [a] [] pos) (fRng1 fa) := by
  refine ⟨fun ρ Q Q' k h => ha.mono _ _ _ (fun d hd => ?_) h, pi_weak (pi_range1 hg hm (pa_cons ha.pe pa_nil (by rw [hs]; rfl)) hs) fun σ H R ⟨B, ρ, ok, h⟩ => ⟨B, ρ, ok, ha.mono _ _ _ (fun d hd v B' H' g r => ?_) h⟩⟩
  · cases d <;> first | exact hd.elim | exact ⟨hd.1, hd.2.1, k _ hd.2.2⟩
  · cases d <;> first | exact hd.elim | skip
    rw [r.int]
    exact ⟨_, rfl, hd.1, hd.2.1, hd.2.2 _ B' H' g itok_rng⟩
theorem i_rng2 {a b : Expr} {fa fb : SE} {p pos : Pos} (hm : X.mg "range" = none) (ha : PB X c a fa) (hb : PB X c b fb) (hg : Gl X "range" := by rfl) (hs : starEach [a, b] X.env = [(false, eval a X.env), (false, eval b X.env)] := by rfl) (hs2 : starEach [b] X.env = [(false, eval b X.env)] := by rfl) :
    PItd X c tg (.Call (.Name "range" p) [a, b] [] pos) (fRng2 fa fb) := by
  refine ⟨fun ρ Q Q' k h => ha.mono _ _ _ (fun d hd => hb.mono _ _ _ (fun e he => ?_) hd) h, pi_weak (pi_range2 hg hm (pa_cons ha.pe (pa_cons hb.pe pa_nil (by rw [hs2]; rfl)) (by rw [hs, hs2])) hs hs2) fun σ H R ⟨B, ρ, ok, h⟩ =>
    ⟨B, ρ, ok, ha.mono _ _ _ (fun d hd v B' H' g r => ⟨B', ρ, ok.mono g, hb.mono _ _ _ (fun e he u B2 H2 g2 r2 => ?_) hd⟩) h⟩⟩
  · cases d <;> cases e <;> first | exact he.elim | exact ⟨he.1, k _ he.2⟩
  · cases d <;> cases e <;> first | exact he.elim | skip
    rw [r.int, r2.int]
    exact ⟨_, _, rfl, he.1, he.2 _ B2 H2 (g.trans ok.w g2) itok_rng⟩
/-! ### for, while -/
/-- what a turn is to reach: k, the next turn -/
def loopE (k : Env → Prop) (D : En) : En := { nx := k, rt := D.rt, bk := D.nx, ct := k }
theorem loopE_le {k k' : Env → Prop} {D D' : En} (h : ∀ ρ, k ρ → k' ρ) (l : En.le D D') : En.le (loopE k D) (loopE k' D') := ⟨h, l.rt, l.nx, h⟩
def fFor (g : GT) (body : SS) : List D → SS
  | [] => fun D ρ => D.nx ρ
  | d :: ds => fun D ρ => g d ρ fun ρ' => body (loopE (fFor g body ds D) D) ρ'
theorem mono_For {g : GT} {body : SS} (hg : ∀ d ρ (Q Q' : Env → Prop), (∀ ρ, Q ρ → Q' ρ) → g d ρ Q → g d ρ Q') (hb : MonoS body) : ∀ ds, MonoS (fFor g body ds)
  | [] => fun _ _ _ l h => l.nx _ h
  | _ :: ds => fun D D' ρ l h => hg _ _ _ _ (fun ρ' h' => hb _ _ _ (loopE_le (fun ρ q => mono_For hg hb ds _ _ _ l q) l) h') h
theorem s_for {iter : Expr} {body : List Stmt} {fi : SI} {g : GT} {ks : List Nat} {f : SS} {pos : Pos} (hp : PassesOwn (model X.prog X.w) X.A X.env X.xe) (hc : X.calm = true) (hi : PItd X c tg iter fi) (hg : PGd X c tg g ks) (hb : PSsd X c body f)
    (hs : ∀ x, foldedSetIterable iter X.env x = pure x := by intro _; rfl) : PSd X c (.For tg iter body [] pos) (fun D ρ => fi ρ fun ds => fFor g f ds D ρ) := by
  refine ⟨fun D D' ρ l h => hi.mono _ _ _ (fun ds q => mono_For hg.mono hb.mono ds _ _ _ l q) h, ps_weak (ps_for hp hc hi.pi hg.pg hb.ps hs) fun D σ H ⟨B, ρ, ok, h⟩ => ?_⟩
  refine ⟨B, ρ, ok, hi.mono _ _ _ (fun ds hd J B' H' g' it => ?_) h⟩
  refine ⟨fun i m σ1 H1 => m = ds.length - i ∧ i ≤ ds.length ∧ ∃ B1 ρ1, EOk c B1 H1 σ1 ρ1 ∧ Ex B' B1 ∧ fFor g f (ds.drop i) (liftE c B1 D) ρ1, ⟨ds.length, by simp, Nat.zero_le _, B', ρ, ok.mono g', Evl.Ex.refl _, ?_⟩, ?_⟩
  · rw [List.drop_zero]
    exact mono_For hg.mono hb.mono ds _ _ _ (liftE_le g'.b D) hd
  · rintro i m σ1 H1 ⟨rfl, hi', B1, ρ1, ok1, e1, q⟩
    obtain ⟨i1, i2⟩ := it i B1 H1 e1 ok1.w
    by_cases hlt : i < ds.length
    · refine .inr ?_
      obtain ⟨d, hd⟩ : ∃ d, ds[i]? = some d := ⟨ds[i], by simp [hlt]⟩
      obtain ⟨go, yl⟩ := i2 d hd
      refine ⟨go, fun σ' H' => ∃ B2 ρ2, EOk c B2 H' σ' ρ2 ∧ Ex B' B2 ∧ fFor g f (ds.drop (i + 1)) (liftE c B2 D) ρ2, fun σ' H' ⟨B2, ρ2, k1, k2, k3⟩ => ⟨ds.length - (i + 1), by omega, rfl, hlt, B2, ρ2, k1, k2, k3⟩, fun x H2 hy => ?_⟩
      obtain ⟨B2, g2, r2⟩ := yl x H2 hy
      have ed : ds.drop i = d :: ds.drop (i + 1) := by
        rw [List.drop_eq_getElem_cons hlt]
        congr 1
        have := List.getElem?_eq_getElem hlt
        rw [this] at hd
        exact Option.some.inj hd
      rw [ed] at q
      refine ⟨B2, ρ1, d, ok1.mono g2, r2, hg.mono _ _ _ _ (fun ρ' h' σ' ok' _ => ?_) q⟩
      refine ⟨B2, ρ', ok', hb.mono (loopE (fFor g f (ds.drop (i + 1)) (liftE c B1 D)) (liftE c B1 D)) _ _ ⟨fun ρ3 h3 σ3 B3 H3 ok3 e3 => ?_, fun _ h3 => h3, fun ρ3 h3 σ3 B3 H3 ok3 e3 => ?_, fun ρ3 h3 σ3 B3 H3 ok3 e3 => ?_⟩ h'⟩
      · exact ⟨B3, ρ3, ok3, (e1.trans g2.b).trans e3, mono_For hg.mono hb.mono _ _ _ _ (liftE_le (g2.b.trans e3) D) h3⟩
      · exact h3 σ3 B3 H3 ok3 (g2.b.trans e3)
      · exact ⟨B3, ρ3, ok3, (e1.trans g2.b).trans e3, mono_For hg.mono hb.mono _ _ _ _ (liftE_le (g2.b.trans e3) D) h3⟩
    · refine .inl ⟨i1 (by omega), ?_⟩
      rw [List.drop_eq_nil_of_le (by omega)] at q
      exact q σ1 B1 H1 ok1 (Evl.Ex.refl _)
def fWhN (t : ST) (body : SS) : Nat → SS
  | 0 => fun _ _ => False
  | n + 1 => fun D ρ => t ρ fun b => if b = true then body (loopE (fWhN t body n D) D) ρ else D.nx ρ
theorem mono_WhN {t : ST} {body : SS} (ht : MonoT t) (hb : MonoS body) : ∀ n, MonoS (fWhN t body n)
  | 0 => fun _ _ _ _ h => h
  | n + 1 => fun D D' ρ l h => ht _ _ _ (fun b hb' => by
    cases b with
    | true => exact hb _ _ _ (loopE_le (fun ρ q => mono_WhN ht hb n _ _ _ l q) l) hb'
    | false => exact l.nx _ hb') h
def fWhile (t : ST) (body : SS) : SS := fun D ρ => ∃ n, fWhN t body n D ρ
theorem s_while {cc : Expr} {body : List Stmt} {t : ST} {f : SS} {pos : Pos} (hp : PassesOwn (model X.prog X.w) X.A X.env X.xe) (ht : PTd X c cc t) (hb : PSsd X c body f) : PSd X c (.While cc body [] pos) (fWhile t f) := by
  refine ⟨fun D D' ρ l ⟨n, h⟩ => ⟨n, mono_WhN ht.mono hb.mono n _ _ _ l h⟩, ps_weak (ps_while hp ht.pt hb.ps) fun D σ H ⟨B, ρ, ok, n, h⟩ => ?_⟩
  refine ⟨fun m σ1 H1 => ∃ B1 ρ1, EOk c B1 H1 σ1 ρ1 ∧ fWhN t f m (liftE c B1 D) ρ1, ⟨n, B, ρ, ok, h⟩, ?_⟩
  rintro m σ1 H1 ⟨B1, ρ1, ok1, q⟩
  cases m with
  | zero => exact q.elim
  | succ m =>
    refine ⟨B1, ρ1, ok1, ht.mono _ _ _ (fun b hb' B2 H2 g2 => ?_) q⟩
    cases b with
    | false => exact hb' σ1 B2 H2 (ok1.mono g2) g2.b
    | true =>
      rw [if_pos rfl] at hb' ⊢
      refine ⟨fun σ' H' => ∃ B3 ρ3, EOk c B3 H' σ' ρ3 ∧ fWhN t f m (liftE c B3 D) ρ3, fun σ' H' k => ⟨m, Nat.lt_succ_self _, k⟩, ?_⟩
      refine ⟨B2, ρ1, ok1.mono g2, hb.mono (loopE (fWhN t f m (liftE c B1 D)) (liftE c B1 D)) _ _ ⟨fun ρ3 h3 σ3 B3 H3 ok3 e3 => ?_, fun _ h3 => h3, fun ρ3 h3 σ3 B3 H3 ok3 e3 => ?_, fun ρ3 h3 σ3 B3 H3 ok3 e3 => ?_⟩ hb'⟩
      · exact ⟨B3, ρ3, ok3, mono_WhN ht.mono hb.mono _ _ _ _ (liftE_le (g2.b.trans e3) D) h3⟩
      · exact h3 σ3 B3 H3 ok3 (g2.b.trans e3)
      · exact ⟨B3, ρ3, ok3, mono_WhN ht.mono hb.mono _ _ _ _ (liftE_le (g2.b.trans e3) D) h3⟩
end
/-! ### list comprehensions -/
def wipeE (ρ : Env) : List Nat → Env
  | [] => ρ
  | v :: vs => (wipeE ρ vs).set v .un
theorem EOk.wiped {c : C} {B H : Hp} {σ : St} {ρ : Env} (ok : EOk c B H σ ρ) : ∀ vs : List Nat, EOk c B H (wipe σ vs) (wipeE ρ vs)
  | [] => ok
  | v :: vs => by
    have h := EOk.wiped ok vs
    show EOk c B H ((wipe σ vs).set v none) ((wipeE ρ vs).set v .un)
    have len := h.len
    refine ⟨h.w0, h.w, h.g, by rw [List.length_set, List.length_set]; exact len, fun j s hj => ?_, fun j k p ds es hjk h1 h2 h3 h4 => ?_⟩
    · by_cases e : v = j
      · subst e
        have hl : v < (wipeE ρ vs).length := by
          have := (List.getElem?_eq_some_iff.mp hj).1
          rw [List.length_set] at this; exact this
        rw [List.getElem?_set_self hl] at hj
        cases hj
        trivial
      · rw [List.getElem?_set_ne e] at hj
        exact (h.sl j s hj).congr (List.getElem?_set_ne e)
    · have old : ∀ {y : Nat} {fs : List D}, ((wipeE ρ vs).set v Sl.un)[y]? = some (Sl.ow fs) → v ≠ y ∧ (wipeE ρ vs)[y]? = some (Sl.ow fs) := fun {y fs} hx => by
        by_cases e : v = y
        · subst e
          have hl : v < (wipeE ρ vs).length := by
            have := (List.getElem?_eq_some_iff.mp hx).1
            rw [List.length_set] at this; exact this
          rw [List.getElem?_set_self hl] at hx; cases hx
        · rw [List.getElem?_set_ne e] at hx; exact ⟨e, hx⟩
      obtain ⟨n1, o1⟩ := old h1
      obtain ⟨n2, o2⟩ := old h2
      rw [List.getElem?_set_ne n1] at h3
      rw [List.getElem?_set_ne n2] at h4
      exact h.ap j k p ds es hjk o1 o2 h3 h4
theorem wipe_get {σ : St} : ∀ {vs : List Nat} {j : Nat}, (wipe σ vs)[j]? = if j ∈ vs then (if j < σ.length then some none else none) else σ[j]?
  | [], j => by simp [wipe]
  | v :: vs, j => by
    show ((wipe σ vs).set v none)[j]? = _
    by_cases e : v = j
    · subst e
      by_cases h : v < σ.length
      · rw [List.getElem?_set_self (by rw [wipe_length]; exact h)]
        simp [h]
      · rw [List.getElem?_eq_none (by rw [List.length_set, wipe_length]; omega)]
        simp [h]
    · rw [List.getElem?_set_ne e, wipe_get]
      by_cases h : j ∈ vs
      · simp [h]
      · have : j ∉ v :: vs := by simp only [List.mem_cons, not_or]; exact ⟨fun z => e z.symm, h⟩
        rw [if_neg h, if_neg this]
theorem wipe_off {σ σ' : St} {ks vs : List Nat} (hk : ∀ k ∈ ks, k ∈ vs) (h : Off ks (wipe σ vs) σ') : wipe σ' vs = wipe σ vs := by
  apply List.ext_getElem?
  intro j
  have hl : σ'.length = σ.length := by rw [h.1, wipe_length]
  rw [wipe_get, wipe_get, hl]
  by_cases hj : j ∈ vs
  · rw [if_pos hj, if_pos hj]
  · rw [if_neg hj, if_neg hj, h.2 j (fun z => hj (hk j z)), wipe_get, if_neg hj]
structure PTsd (X : Cx) (c : C) (ifs : List Expr) (t : ST) : Prop where
  mono : MonoT t
  pts : PTs X ifs (toT c t)
def fYes : ST := fun _ Q => Q true
theorem ts_nil {X : Cx} {c : C} : PTsd X c [] fYes := ⟨fun _ _ _ k h => k _ h, ⟨fun pins s σ H Q I h => pts_nil.run pins s σ H Q I (by
  obtain ⟨B, ρ, ok, h⟩ := h
  exact h B H (Gr.refl ok.w))⟩⟩
theorem ts_one {X : Cx} {c : C} {e : Expr} {t : ST} (h : PTd X c e t) : PTsd X c [e] t := ⟨h.mono, pts_one h.pt⟩
def lcRun (g : GT) (t : ST) (e : SE) (ρ : Env) : List D → (List D → Prop) → Prop
  | [], Q => Q []
  | d :: ds, Q => g d ρ fun ρ1 => t ρ1 fun b => if b = true then e ρ1 fun y => lcRun g t e ρ ds fun ys => Q (y :: ys) else lcRun g t e ρ ds Q
theorem mono_lcRun {g : GT} {t : ST} {e : SE} {ρ : Env} (hg : ∀ d ρ (Q Q' : Env → Prop), (∀ ρ, Q ρ → Q' ρ) → g d ρ Q → g d ρ Q') (ht : MonoT t) (he : Mono e) : ∀ (ds : List D) (Q Q' : List D → Prop), (∀ ys, Q ys → Q' ys) → lcRun g t e ρ ds Q → lcRun g t e ρ ds Q'
  | [], _, _, k, h => k _ h
  | _ :: ds, Q, Q', k, h => hg _ _ _ _ (fun ρ1 h1 => ht _ _ _ (fun b hb => by
    cases b with
    | true => exact he _ _ _ (fun y hy => mono_lcRun hg ht he ds _ _ (fun ys h => k _ h) hy) hb
    | false => exact mono_lcRun hg ht he ds _ _ k hb) h1) h
def fLc (vs : List Nat) (fi : SI) (g : GT) (t : ST) (e : SE) : SL := fun ρ Q => fi ρ fun ds => ds.length ≤ most ∧ lcRun g t e (wipeE ρ vs) ds Q
theorem Gr.upN {c : C} {B H B' H' : Hp} (w : Wd c B H) (g : Gr c B H B' H') {p : Addr} {o : HO} (h0 : H p = none) (h1 : B' p = none) : Gr c B H B' (upd H' p o) := by
  have nb : ¬ c.isBag p := fun z => w.there z h0
  refine ⟨g.b, fun a u na e => ?_, g.n, fun a u e => ?_, g.w.bag.keep fun a ha => ⟨rfl, upd_ne fun z => nb (z ▸ ha)⟩⟩
  · rw [upd_ne (ne_of_none e h0)]; exact g.h a u na e
  · rw [upd_ne (ne_of_none e h1)]; exact g.w.sub a u e
section
variable {X : Cx} {c : C}
theorem lc_go {vs ks : List Nat} {fi : SI} {g : GT} {t : ST} {e : SE} (hk : ∀ k ∈ ks, k ∈ vs) (hi : MonoL fi) (hg : ∀ d ρ (Q Q' : Env → Prop), (∀ ρ, Q ρ → Q' ρ) → g d ρ Q → g d ρ Q') (ht : MonoT t) (he : Mono e)
    (σ : St) (H : Hp) (Q : VK) (h : toN c (fLc vs fi g t e) σ H Q) : tLc (toI c fi) (toG c g ks) (toT c t) (toV c e) vs σ H Q := by
  obtain ⟨B, ρ, ok, h⟩ := h
  refine ⟨B, ρ, ok, hi _ _ _ (fun ds hd J B1 H1 g1 it Dl hD => ?_) h⟩
  obtain ⟨hm, hd⟩ := hd
  have ok1 := ok.mono g1
  refine ⟨fun i m H2 => m = ds.length - i ∧ i ≤ ds.length ∧ ∃ B2 acc ad, Gr c B1 H1 B2 H2 ∧ B2 Dl = none ∧ H2 Dl = some (.lst acc) ∧ RpA B2 acc ad ∧ ad.length ≤ i ∧
    lcRun g t e (wipeE ρ vs) (ds.drop i) fun ys => ∀ p ws B' H', Gr c B H B' H' → H p = none → B' p = none → H' p = some (.lst ws) → RpA B' ws (ad ++ ys) → Q (.ref p) H', ⟨ds.length, by simp, Nat.zero_le _, B1, [], [], ?_, ?_, upd_same, .nil, Nat.le_refl _, ?_⟩, ?_⟩
  · exact Gr.newO g1.w hD
  · exact Evl.fresh_back g1.w.sub hD
  · rw [List.drop_zero]; exact hd
  · rintro i m H2 ⟨rfl, hi', B2, acc, ad, g2, k1, k2, k3, k4, q⟩
    obtain ⟨i1, i2⟩ := it i B2 H2 g2.b g2.w
    by_cases hlt : i < ds.length
    · refine .inr ?_
      obtain ⟨d, hd'⟩ : ∃ d, ds[i]? = some d := ⟨ds[i], by simp [hlt]⟩
      obtain ⟨go, yl⟩ := i2 d hd'
      refine ⟨go, fun H' => ∃ B2 acc ad, Gr c B1 H1 B2 H' ∧ B2 Dl = none ∧ H' Dl = some (.lst acc) ∧ RpA B2 acc ad ∧ ad.length ≤ i + 1 ∧
        lcRun g t e (wipeE ρ vs) (ds.drop (i + 1)) fun ys => ∀ p ws B' H', Gr c B H B' H' → H p = none → B' p = none → H' p = some (.lst ws) → RpA B' ws (ad ++ ys) → Q (.ref p) H', fun H' hn => ⟨ds.length - (i + 1), by omega, rfl, hlt, hn⟩, fun x H3 hy => ?_⟩
      obtain ⟨B3, g3, r3⟩ := yl x H3 hy
      have ed : ds.drop i = d :: ds.drop (i + 1) := by
        rw [List.drop_eq_getElem_cons hlt]
        congr 1
        have := List.getElem?_eq_getElem hlt
        rw [this] at hd'
        exact Option.some.inj hd'
      rw [ed] at q
      have stay : ∀ {B4 H4 : Hp}, Gr c B2 H2 B4 H4 → B4 Dl = none ∧ H4 Dl = some (.lst acc) := fun {B4 H4} g4 => by
        have hne : H2 Dl ≠ none := by rw [k2]; exact fun z => nomatch z
        refine ⟨by rw [g4.n Dl hne]; exact k1, g4.h Dl _ (fun z => g1.w.there z hD) k2⟩
      have okw := ((ok1.mono g2).mono g3).wiped vs
      refine ⟨B3, wipeE ρ vs, d, okw, r3, hg _ _ _ _ (fun ρ1 h1 σ1 okg off => ?_) q⟩
      refine ⟨wipe_off hk off, B3, ρ1, okg, ht _ _ _ (fun b hb B4 H4 g4 => ?_) h1⟩
      have g34 := g3.trans g2.w g4
      cases b with
      | true =>
        refine ⟨B4, ρ1, okg.mono g4, he _ _ _ (fun y hy v B5 H5 g5 r5 => ?_) hb⟩
        have g35 := g34.trans g2.w g5
        obtain ⟨s1, s2⟩ := stay g35
        refine ⟨acc, s2, ?_, B5, acc ++ [v], ad ++ [y], Gr.upN g1.w (g2.trans g1.w g35) hD s1, s1, upd_same, rpa_app (rpa_mono g35.b k3) (.cons r5 .nil), ?_, ?_⟩
        · rw [rpa_len k3]; exact most_lt (by omega)
        · rw [List.length_append, List.length_singleton]; omega
        · refine mono_lcRun hg ht he _ _ _ (fun ys hq p ws B' H' a1 a2 a3 a4 a5 => hq p ws B' H' a1 a2 a3 a4 ?_) hy
          rw [List.append_assoc] at a5
          exact a5
      | false =>
        obtain ⟨s1, s2⟩ := stay g34
        exact ⟨B4, acc, ad, g2.trans g1.w g34, s1, s2, rpa_mono g34.b k3, by omega, hb⟩
    · refine .inl ⟨i1 (by omega), ?_⟩
      rw [List.drop_eq_nil_of_le (by omega)] at q
      have hH : H Dl = none := g1.back hD
      refine q Dl acc B2 H2 (g1.trans ok.w g2) hH k1 k2 ?_
      rw [List.append_nil]; exact k3
theorem mono_Lc {vs : List Nat} {fi : SI} {g : GT} {t : ST} {e : SE} (hi : MonoL fi) (hg : ∀ d ρ (Q Q' : Env → Prop), (∀ ρ, Q ρ → Q' ρ) → g d ρ Q → g d ρ Q') (ht : MonoT t) (he : Mono e) : MonoL (fLc vs fi g t e) := fun ρ Q Q' k h => hi _ _ _ (fun ds q => ⟨q.1, mono_lcRun hg ht he _ _ _ k q.2⟩) h
/-- the block's derivations: for each entry -/
abbrev Blk (X : Cx) (scope : Scope) (P : Cx → Prop) : Prop := ∀ (s : Shared) (H : Hp) (Ca : Addr) (cl : List (Str × Addr)) (fp : List Addr), P (X.blk s H scope (compEnvC scope cl Ca X.env) fp)
theorem n_lc {elt tg iter : Expr} {ifs : List Expr} {scope : Scope} {own : List (Str × Nat)} {pos : Pos} {fi : SI} {g : GT} {ks : List Nat} {t : ST} {fe : SE} (hc : X.calm = true) (hN : X.N.Nodup) (ok : blkC X.N X.env.scope scope own = true) (hi : PItd X c tg iter fi)
    (hg : Blk X scope fun Y => PGd Y c tg g ks) (ht : Blk X scope fun Y => PTsd Y c ifs t) (he : Blk X scope fun Y => PV Y c elt fe) (hk : ∀ k ∈ ks, k ∈ own.map (·.2) := by decide) (hs : ∀ x, foldedSetIterable iter X.env x = pure x := by intro _; rfl) :
    PN X c (.ListComp elt [⟨tg, iter, ifs, 0⟩] scope pos) (fLc (own.map (·.2)) fi g t fe) := by
  have m1 := (hg ({} : Shared) (fun _ => none) 0 [] []).mono
  have m2 := (ht ({} : Shared) (fun _ => none) 0 [] []).mono
  have m3 := (he ({} : Shared) (fun _ => none) 0 [] []).mono
  exact ⟨mono_Lc hi.mono m1 m2 m3, pe_weak (pe_lc hc hN hi.pi (blkOk_by ok) (fun s H C cl fp => (hg s H C cl fp).pg) (fun s H C cl fp => (ht s H C cl fp).pts) (fun s H C cl fp => (he s H C cl fp).pe) hs) (lc_go hk hi.mono m1 m2 m3)⟩
/-- name = [..] on one line, the name a local -/
theorem s_lc (i : Nat) {y : Str} {py : Pos} {elt tg iter : Expr} {ifs : List Expr} {scope : Scope} {own : List (Str × Nat)} {pos spos : Pos} {fi : SI} {g : GT} {ks : List Nat} {t : ST} {fe : SE} (hc : X.calm = true) (hN : X.N.Nodup) (ok : blkC X.N X.env.scope scope own = true) (hi : PItd X c tg iter fi)
    (hg : Blk X scope fun Y => PGd Y c tg g ks) (ht : Blk X scope fun Y => PTsd Y c ifs t) (he : Blk X scope fun Y => PV Y c elt fe) (hk : ∀ k ∈ ks, k ∈ own.map (·.2) := by decide) (hy : X.N[i]? = some y := by rfl) (hyl : X.env.scope.names.lookup y = some .local := by rfl)
    (hsw : swapsWith (.ListComp elt [⟨tg, iter, ifs, 0⟩] scope pos) (some (.Name y py)) spos.line X.env = pure true := by exact sw_true rfl rfl rfl (by decide +kernel)) (hs : ∀ x, foldedSetIterable iter X.env x = pure x := by intro _; rfl) :
    PSd X c (.Assign [.Name y py] (.ListComp elt [⟨tg, iter, ifs, 0⟩] scope pos) spos) (fSetN i (fLc (own.map (·.2)) fi g t fe)) := by
  have m1 := (hg ({} : Shared) (fun _ => none) 0 [] []).mono
  have m2 := (ht ({} : Shared) (fun _ => none) 0 [] []).mono
  have m3 := (he ({} : Shared) (fun _ => none) 0 [] []).mono
  have m := mono_Lc (vs := own.map (·.2)) hi.mono m1 m2 m3
  refine ⟨mono_SetN m, ps_weak (ps_setLc hc hN hy hyl hsw hi.pi (blkOk_by ok) (fun s H C cl fp => (hg s H C cl fp).pg) (fun s H C cl fp => (ht s H C cl fp).pts) (fun s H C cl fp => (he s H C cl fp).pe) hs) fun D σ H q => ?_⟩
  exact lc_go hk hi.mono m1 m2 m3 σ H _ (setN_go m D σ H q)
end
end DL
namespace DL
open PySem L2 PyProof.Rows
/-! ### defs, with what guards stand around told -/
abbrev Spec := List Sl → (D → Prop) → Prop
def toSp (G : C → Prop) (S : Spec) : Sp := fun vs H Q _ => ∃ c : C, G c ∧ c.H0 = H ∧ Wd c c.B0 H ∧ ∃ ss, ArgsOk c c.B0 H vs ss ∧ S ss fun d => ∀ v B' H', Gr c c.B0 H B' H' → Rp B' v d → Q v H'
theorem ArgsOk.len {c : C} {B H : Hp} : ∀ {vs : List V} {ss : List Sl}, ArgsOk c B H vs ss → vs.length = ss.length
  | [], [], _ => rfl
  | _ :: _, _ :: _, h => by rw [List.length_cons, List.length_cons, ArgsOk.len h.2]
  | [], _ :: _, h => h.elim
  | _ :: _, [], h => h.elim
theorem ArgsOk.get {c : C} {B H : Hp} : ∀ {vs : List V} {ss : List Sl} {i : Nat} {s : Sl}, ArgsOk c B H vs ss → ss[i]? = some s → ∃ v, vs[i]? = some v ∧ ArgOk c B H v s
  | _ :: _, _ :: _, 0, _, h, e => by
    simp at e
    subst e
    exact ⟨_, rfl, h.1⟩
  | _ :: _, _ :: _, i + 1, s, h, e => by
    obtain ⟨v, h1, h2⟩ := ArgsOk.get (i := i) h.2 (by simpa using e)
    exact ⟨v, by simpa using h1, h2⟩
  | [], [], _, _, _, e => by simp at e
  | [], _ :: _, _, _, h, _ => h.elim
  | _ :: _, [], _, _, h, _ => h.elim
structure FnG (G : C → Prop) (P : Program) (w : World) (K : PySem.W.Frag) (mg : Str → Option Value) (base : Heap) (k : Nat) (f : Addr) (fd : FuncData) (ps : List Str) (S : Spec) : Prop where
  mono : ∀ ss (Q Q' : D → Prop), (∀ d, Q d → Q' d) → S ss Q → S ss Q'
  len : ∀ ss Q, S ss Q → ss.length = ps.length
  run : ∀ (A : Around) (outer : List PySem.Env) (s : Shared) (H : Hp) (args : Args) (us : List Value) (vs : List V) (Q : VK), A.guards = some [] → Room k A → Env0 P w K mg base A outer s H →
    BindsTo s fd args (ps.zip us) → Vals vs us → toSp G S vs H Q E0 → codeAny (model P w) A (.call (.ref f) args) (CR CX0 outer P w H s Q E0) s
theorem FnG.up {G : C → Prop} {P : Program} {w : World} {K : PySem.W.Frag} {mg : Str → Option Value} {base : Heap} {j k : Nat} {f : Addr} {fd : FuncData} {ps : List Str} {S : Spec} (F : FnG G P w K mg base j f fd ps S) (h : j ≤ k) : FnG G P w K mg base k f fd ps S :=
  ⟨F.mono, F.len, fun A outer s H args us vs Q hg hr => F.run A outer s H args us vs Q hg (hr.mono h)⟩
/-- the slots at the entry -/
def initE (N : List Str) (ss : List Sl) : Env := ss ++ List.replicate (N.length - ss.length) .un
theorem EOk.init {c : C} {N : List Str} {vs : List V} {ss : List Sl} (w : Wd c c.B0 c.H0) (h : ArgsOk c c.B0 c.H0 vs ss) : EOk c c.B0 c.H0 (L2.start N vs) (initE N ss) := by
  have hl := h.len
  have key : ∀ {i : Nat} {s : Sl}, (initE N ss)[i]? = some s → s ≠ .un → ∃ v, (L2.start N vs)[i]? = some (some v) ∧ ArgOk c c.B0 c.H0 v s := fun {i s} e n => by
    unfold initE at e
    unfold L2.start
    by_cases hi : i < ss.length
    · rw [List.getElem?_append_left hi] at e
      obtain ⟨v, h1, h2⟩ := h.get e
      refine ⟨v, ?_, h2⟩
      rw [List.getElem?_append_left (by rw [List.length_map]; omega), List.getElem?_map, h1]
      rfl
    · rw [List.getElem?_append_right (by omega), List.getElem?_replicate] at e
      split at e
      · cases e; exact absurd rfl n
      · cases e
  refine ⟨w, w, Gr.refl w, ?_, fun i s e => ?_, fun i j p ds es _ h1 _ _ _ => ?_⟩
  · unfold initE L2.start
    rw [List.length_append, List.length_append, List.length_replicate, List.length_replicate, List.length_map, hl]
  · cases s with
    | un => trivial
    | sh d => exact key e (fun z => nomatch z)
    | bg =>
      obtain ⟨v, h1, h2⟩ := key e (fun z => nomatch z)
      have h3 : v = .ref c.pb := h2
      rw [h3] at h1
      exact h1
    | ow ds =>
      obtain ⟨v, _, h2⟩ := key e (fun z => nomatch z)
      exact h2.elim
  · obtain ⟨v, _, h2⟩ := key h1 (fun z => nomatch z)
    exact h2.elim
/-- a def's end -/
def endsOf (Q : D → Prop) : En := ⟨fun _ => Q .none, Q, fun _ => False, fun _ => False⟩
section
variable {G : C → Prop} {P : Program} {w : World} {K : PySem.W.Frag} {mg : Str → Option Value} {base : Heap}
/-- THE RULE for a def -/
theorem fng_of {x qual : Str} {st : Stmt} {f : Addr} {fd : FuncData} {N ps : List Str} {k : Nat} {S : Spec} (F : Fun K x qual st f fd) (sc : FnScope N ps (defScope st)) (mono : ∀ ss (Q Q' : D → Prop), (∀ d, Q d → Q' d) → S ss Q → S ss Q') (len : ∀ ss Q, S ss Q → ss.length = ps.length)
    (body : ∀ (cdv : Value) (A : Around) (outer : List PySem.Env) (s : Shared) (c : C), G c → A.guards = some [] → Room k (A.deeper (envOfC qual (defScope st) s.heap.objs.size f cdv)) →
      ∃ g, PSsd (cxOf CX0 P w K mg base N qual (defScope st) f cdv A outer s c.H0 E0).nox c (defBody st) g ∧ ∀ ss Q, S ss Q → g (endsOf Q) (initE N ss)) : FnG G P w K mg base (k + 1) f fd ps S := by
  obtain ⟨oc, od, kV, doc, pm, an, cdv, ct, osl, rfl, lk', hcd⟩ := F.ex
  refine ⟨mono, len, ?_⟩
  intro A outer s H args us vs Q hg hr e0 hb r hsp
  obtain ⟨c, hG, hH, wd, ss, ha, hS⟩ := hsp
  subst hH
  have hvl : vs.length = ps.length := by rw [ha.len]; exact len _ _ hS
  have stands : ∀ b o, base.get? b = some o → s.heap.get? b = some o := fun b o z => (e0.bs b o z).1
  have KX : K.In s.heap := e0.mod.kin.keeps stands
  refine codeAny_call_function hr.depth (KX _ _ lk') rfl sc.co sc.gen rfl (PySem.W.codeRec_of KX hcd) (hb _ _ _ _ (wpAny_newFunctionEnv_cells sc.kind ?_ ?_))
  · rintro ⟨n, v⟩ hy
    rcases sc.par n (List.of_mem_zip hy).1 with q | q
    · exact Or.inl q
    · exact Or.inr ⟨q, PySem.W.cellsFrom_some _ _ _ (Or.inl q)⟩
  · intro env he s1 x
    subst he
    refine ⟨(e0.mod.nolimit.keeps stands).keeps x.toInCall.keep, codeAny_func ?_⟩
    obtain ⟨g, hg1, hg2⟩ := body cdv A outer s c hG hg (hr.deeper _)
    have I := inv_start (CX := CX0) (E := E0) (qual := qual) sc hr.hd e0 hvl r x
    have ok := EOk.init (N := N) wd ha
    have goal := hg1.ps.nox.run [] s1 (L2.start N vs) c.H0 { nx := fun _ H' => Q .non H', rt := Q } I ⟨c.B0, initE N ss, ok, hg1.mono (endsOf fun d => ∀ v B' H', Gr c c.B0 c.H0 B' H' → Rp B' v d → Q v H') _ _ ⟨fun ρ h σ' B' H' ok' _ => h .non B' H' ok'.g .non, fun _ h => h, fun _ h => h.elim, fun _ h => h.elim⟩ (hg2 ss _ hS)⟩
    refine wpAny_mono goal (fun fl s' hs => ?_) fun _ _ z => z
    cases fl with
    | ret u =>
      obtain ⟨v, σ', H', J, rv, q⟩ := hs
      exact ⟨v, H', J.os, J.bare, J.base, J.hok, rv, q⟩
    | next =>
      obtain ⟨σ', H', J, q⟩ := hs
      exact ⟨.non, H', J.os, J.bare, J.base, J.hok, rfl, q⟩
    | brk => exact hs.elim fun _ z => z.elim fun _ y => y.2.elim
    | cont => exact hs.elim fun _ z => z.elim fun _ y => y.2.elim
end
/-! ### calls of defs -/
def fCall (S : Spec) (fa : SA) : SE := fun ρ Q => fa ρ fun ss => S ss Q
section
variable {G : C → Prop} {X : Cx} {c : C} {k : Nat} {f : Addr} {fd : FuncData} {ps : List Str} {S : Spec}
theorem run_fng {pins : List (Addr × Obj)} {σ : St} {H : Hp} {s : Shared} {Q : VK} {args : Args} {us : List Value} {vs : List V} (F : FnG G X.prog X.w X.K X.mg X.base k f fd ps S) (hgd : X.A.guards = some []) (hr : Room k X.A) (I : Inv X pins σ H s)
    (hb : BindsTo s fd args (ps.zip us)) (r : Vals vs us) (h : toSp G S vs H Q E0) : codeAny (model X.prog X.w) X.A (.call (.ref f) args) (wants (EP X pins σ Q) X.xe) s := by
  refine codeAny_mono (F.run X.A X.stack s H args us vs Q hgd hr I.env0 hb r h) fun z s' hq => ?_
  cases z with
  | error e => exact False.elim hq
  | ok fl => cases fl <;> first | exact I.after hq | exact False.elim hq
theorem BagOk.again {c : C} {B0 H0 B H : Hp} (b : BagOk c B H) : BagOk { c with B0 := B0, H0 := H0 } B H := ⟨b.out, b.here, b.ok⟩
theorem toSp_of {B H B1 H1 : Hp} {Q : VK} {vs : List V} {ss : List Sl} (hG : ∀ B1 H1, G { c with B0 := B1, H0 := H1 }) (w0 : Wd c B H) (g : Gr c B H B1 H1) (F : FnG G X.prog X.w X.K X.mg X.base k f fd ps S) (r : ArgsOk c B1 H1 vs ss) (h : S ss fun d => ∀ v B' H', Gr c B H B' H' → Rp B' v d → Q v H') : toSp G S vs H1 Q E0 :=
  ⟨{ c with B0 := B1, H0 := H1 }, hG _ _, rfl, ⟨g.w.sub, g.w.bag.again⟩, ss, by
    have conv : ∀ {vs : List V} {ss : List Sl}, ArgsOk c B1 H1 vs ss → ArgsOk { c with B0 := B1, H0 := H1 } B1 H1 vs ss := by
      intro vs
      induction vs with
      | nil => intro ss h; cases ss with
        | nil => trivial
        | cons _ _ => exact h
      | cons v vs ih => intro ss h; cases ss with
        | nil => exact h
        | cons s ss => exact ⟨by cases s <;> exact h.1, ih h.2⟩
    exact conv r, F.mono _ _ _ (fun d hd v B' H' g2 r2 => hd v B' H' (g.trans w0 ⟨g2.b, g2.h, g2.n, ⟨g2.w.sub, ⟨g2.w.bag.out, g2.w.bag.here, g2.w.bag.ok⟩⟩⟩) r2) h⟩
theorem v_call {x : Str} {p pos : Pos} {e : Expr} {es : List Expr} {fa : SA} (F : FnG G X.prog X.w X.K X.mg X.base k f fd ps S) (hG : ∀ B1 H1, G { c with B0 := B1, H0 := H1 }) (hgd : X.A.guards = some []) (hr : Room k X.A) (hm : X.mg x = some (.ref f)) (hk : PySem.W.keepIn X.K (.ref f) = true) (hb : Binds X.K fd ps []) (ha : PAd X c (e :: es) fa)
    (hg : Gl X x := by rfl) (hdb : (x == ("__debug__" : Str)) = false := by decide) (he : starEach (e :: es) X.env = (false, eval e X.env) :: starEach es X.env := by rfl) (hpl : (backTo pos (starEach es X.env)).any (·.1) = false := by rfl) :
    PV X c (.Call (.Name x p) (e :: es) [] pos) (fCall S fa) := by
  refine ⟨fun ρ Q Q' k h => ha.mono _ _ _ (fun ss hs => F.mono _ _ _ k hs) h, ⟨fun pins s σ H Q I ⟨B, ρ, ok, h⟩ => wpAny_Call_Name_kw (ld_glob I hg hm (PySem.W.callWith_K (h₀ := X.base) I.ok.mod.kin hk (wpAny_mono (ha.pa.run pos pins s σ H
    (fun vs H1 => ∃ B1 ss, Gr c B H B1 H1 ∧ ArgsOk c B1 H1 vs ss ∧ S ss fun d => ∀ v B' H', Gr c B H B' H' → Rp B' v d → Q v H') I ⟨B, ρ, ok, ha.mono _ _ _ (fun ss hs vs B1 H1 g r => ⟨B1, ss, g, r, hs⟩) h⟩) (fun us s1 hv => ?_) fun _ _ z => z) he hpl) hdb)⟩⟩
  obtain ⟨vs, H1, I1, rv, B1, ss, g, ra, hS⟩ := hv
  have hl : us.length = ps.length := by rw [← rv.length, ra.len]; exact F.len _ _ hS
  refine ⟨I1.kIn, wpAny_call (run_fng F hgd hr I1 ?_ rv (toSp_of hG ok.w g F ra hS))⟩
  have := hb s1 us I1.kIn (by rw [List.append_nil]; exact hl)
  rw [List.append_nil] at this
  exact this
/-- keywords -/
structure PKd (X : Cx) (c : C) (kws : List Keyword) (f : SA) : Prop where
  mono : MonoA f
  pk : PK X kws (toA c f)
  len : ∀ ρ Q, f ρ Q → f ρ fun ss => Q ss ∧ ss.length = kws.length
theorem pk_weak {kws : List Keyword} {t t' : TA} (h : PK X kws t) (w : ∀ σ H Q, t' σ H Q → t σ H Q) : PK X kws t' := ⟨fun pos pins s σ H Q I q => h.run pos pins s σ H Q I (w σ H Q q)⟩
theorem k_nil : PKd X c [] fAN := ⟨fun _ _ _ k h => k _ h, pk_weak pk_nil fun σ H Q ⟨B, ρ, ok, h⟩ => h [] B H (Gr.refl ok.w) trivial, fun _ _ h => ⟨h, rfl⟩⟩
theorem k_cons {nm : Option Str} {kpos : Pos} {e : Expr} {kws : List Keyword} {fa : SE} {fr : SA} (ha : PV X c e fa) (hr : PKd X c kws fr) : PKd X c (⟨nm, e, kpos⟩ :: kws) (fAC fa fr) := by
  refine ⟨fun ρ Q Q' k h => ha.mono _ _ _ (fun d hd => hr.mono _ _ _ (fun ds he => k _ he) hd) h, pk_weak (pk_cons ha.pe hr.pk) fun σ H Q ⟨B, ρ, ok, h⟩ => ?_, fun ρ Q h => ha.mono _ _ _ (fun d hd => hr.mono _ _ _ (fun ss q => ⟨q.1, by rw [List.length_cons, List.length_cons, q.2]⟩) (hr.len _ _ hd)) h⟩
  refine ⟨B, ρ, ok, ha.mono _ _ _ (fun d hd v B1 H1 g1 r1 => ?_) h⟩
  exact ⟨B1, ρ, ok.mono g1, hr.mono _ _ _ (fun ds he vs B2 H2 g2 r2 => he _ B2 H2 (g1.trans ok.w g2) ⟨rp_mono g2.b r1, r2⟩) hd⟩
/-- how n keywords' values come to the parameters: is tells which of them each parameter takes -/
def perm {α : Type} (is : List Nat) (ws : List α) : List α := is.filterMap fun i => ws[i]?
structure KwB (K : PySem.W.Frag) (fd : FuncData) (ps ks : List Str) (is : List Nat) : Prop where
  to : ∀ (s : Shared) (ws : List Value), K.In s.heap → ws.length = ks.length → BindsTo s fd ⟨[], ks.zip ws⟩ (ps.zip (perm is ws))
theorem perm_vals {vs : List V} {us : List Value} (r : Vals vs us) : ∀ is : List Nat, Vals (perm is vs) (perm is us)
  | [] => .nil
  | i :: is => by
    unfold perm
    rw [List.filterMap_cons, List.filterMap_cons]
    cases e : vs[i]? with
    | none =>
      rw [r.none_of e]
      exact perm_vals r is
    | some v =>
      obtain ⟨u, h1, h2⟩ := r.get e
      rw [h1]
      exact .cons h2 (perm_vals r is)
theorem perm_args {B H : Hp} {vs : List V} {ss : List Sl} (r : ArgsOk c B H vs ss) : ∀ is : List Nat, ArgsOk c B H (perm is vs) (perm is ss)
  | [] => trivial
  | i :: is => by
    unfold perm
    rw [List.filterMap_cons, List.filterMap_cons]
    cases e : ss[i]? with
    | none =>
      have : vs[i]? = none := List.getElem?_eq_none_iff.mpr (by rw [r.len]; exact List.getElem?_eq_none_iff.mp e)
      rw [this]
      exact perm_args r is
    | some s =>
      obtain ⟨v, h1, h2⟩ := r.get e
      rw [h1]
      exact ⟨h2, perm_args r is⟩
def fCallK (S : Spec) (is : List Nat) (fa : SA) : SE := fun ρ Q => fa ρ fun ss => S (perm is ss) Q
theorem v_callK {x : Str} {p pos : Pos} {kws : List Keyword} {ks : List Str} {is : List Nat} {fa : SA} (F : FnG G X.prog X.w X.K X.mg X.base k f fd ps S) (hG : ∀ B1 H1, G { c with B0 := B1, H0 := H1 }) (hgd : X.A.guards = some []) (hr : Room k X.A) (hm : X.mg x = some (.ref f)) (hk : PySem.W.keepIn X.K (.ref f) = true) (hb : KwB X.K fd ps ks is) (ha : PKd X c kws fa)
    (hn : kws.length = ks.length := by rfl) (hg : Gl X x := by rfl) (hdb : (x == ("__debug__" : Str)) = false := by decide) (hall : (backToKw pos (keywordEach kws X.env)).all (·.1.isSome) = true := by rfl) (hks : (backToKw pos (keywordEach kws X.env)).filterMap (·.1) = ks := by rfl)
    (hpl : ((backTo pos (starEach [] X.env)).any (·.1) || (backToKw pos (keywordEach kws X.env)).any (·.1.isNone)) = false := by rfl) :
    PV X c (.Call (.Name x p) [] kws pos) (fCallK S is fa) := by
  refine ⟨fun ρ Q Q' k h => ha.mono _ _ _ (fun ss hs => F.mono _ _ _ k hs) h, ⟨fun pins s σ H Q I ⟨B, ρ, ok, h⟩ => wpAny_Call_Name_kw (ld_glob I hg hm (PySem.W.callWith_KW0 (h₀ := X.base) I.ok.mod.kin hk hall (wpAny_mono (ha.pk.run pos pins s σ H
    (fun vs H1 => ∃ B1 ss, Gr c B H B1 H1 ∧ ArgsOk c B1 H1 vs ss ∧ ss.length = kws.length ∧ S (perm is ss) fun d => ∀ v B' H', Gr c B H B' H' → Rp B' v d → Q v H') I ⟨B, ρ, ok, ha.mono _ _ _ (fun ss hs vs B1 H1 g r => ⟨B1, ss, g, r, hs.2, hs.1⟩) (ha.len _ _ h)⟩) (fun us s1 hv => ?_) fun _ _ z => z) hpl) hdb)⟩⟩
  obtain ⟨vs, H1, I1, rv, B1, ss, g, ra, hsl, hS⟩ := hv
  rw [hks]
  exact ⟨I1.kIn, wpAny_call (run_fng F hgd hr I1 (hb.to s1 us I1.kIn (by rw [← rv.length, ra.len, hsl, hn])) (perm_vals rv is) (toSp_of hG ok.w g F (perm_args ra is) hS))⟩
/-! ### repr -/
def bRepr : GB := fun ds Q => match ds with | [d] => PyData.showable d = true ∧ PyData.hasDict d = false ∧ (PyData.shown d).length ≤ sizeLine ∧ PyData.depth d ≤ 60 ∧ Q (.str (PyData.shown d)) | _ => False
theorem m_Repr : MonoB bRepr := fun ds Q Q' k h => by
  unfold bRepr at h ⊢
  split at h <;> first | exact h.elim | exact ⟨h.1, h.2.1, h.2.2.1, h.2.2.2.1, k _ h.2.2.2.2⟩
mutual
theorem rp_reads {pins : List (Addr × Obj)} {σ : St} {H : Hp} {s : Shared} (I : Inv X pins σ H s) : ∀ (d : D) (v : V) (u : Value), d.hasDict = false → Rp H v d → RelV v u → ∃ as, Reads s.heap u d as
  | .none, _, _, _, .non, r => by
    cases r
    exact ⟨_, Reads.none⟩
  | .bool b, _, _, _, .bl _, r => by
    cases r
    exact ⟨_, Reads.bool b⟩
  | .int i, _, _, _, .int _, r => by
    obtain ⟨t, rfl⟩ := r
    exact ⟨_, Reads.int i t⟩
  | .str x, _, _, _, .str _, r => by
    obtain ⟨t, rfl⟩ := r
    exact ⟨_, Reads.str x t⟩
  | .list ds, _, _, hd, .lst h1 h2, r => by
    cases r
    obtain ⟨its, rv, ⟨o, n, ho, hc, _, hdt⟩, _⟩ := I.list (SqL.of h1)
    obtain ⟨as, hr⟩ := rpa_reads I ds _ its (by simpa [PyData.hasDict] using hd) h2 rv
    exact ⟨_, Reads.list ho hc hdt hr⟩
  | .tuple ds, _, _, hd, .tup h1 h2, r => by
    cases r
    obtain ⟨its, rv, ⟨o, ho, hc, n, hdt⟩, _⟩ := I.tuple (SqT.of h1)
    obtain ⟨as, hr⟩ := rpa_reads I ds _ its (by simpa [PyData.hasDict] using hd) h2 rv
    exact ⟨_, Reads.tuple ho hc hdt hr⟩
  | .dict _, _, _, hd, _, _ => by simp [PyData.hasDict] at hd
theorem rpa_reads {pins : List (Addr × Obj)} {σ : St} {H : Hp} {s : Shared} (I : Inv X pins σ H s) : ∀ (ds : List D) (vs : List V) (us : List Value), PyData.hasDictAll ds = false → RpA H vs ds → Vals vs us → ∃ as, ReadsAll s.heap us ds as
  | [], _, _, _, .nil, r => by
    cases r
    exact ⟨_, ReadsAll.nil⟩
  | d :: ds, _, _, hd, .cons h1 h2, r => by
    have hd' := hd
    simp only [PyData.hasDictAll, Bool.or_eq_false_iff] at hd'
    cases r with
    | cons r1 r2 =>
      obtain ⟨as, q1⟩ := rp_reads I d _ _ hd'.1 h1 r1
      obtain ⟨bs, q2⟩ := rpa_reads I ds _ _ hd'.2 h2 r2
      exact ⟨_, ReadsAll.cons q1 q2⟩
end
theorem c_repr (hgd : X.A.guards = some []) (hu : X.A.units + 64 < cLine) : CallD X c (.builtin "repr") bRepr := by
  refine ⟨m_Repr, fun pins s σ H xs us Q I rv ⟨B, ds, w, ra, q⟩ => ?_⟩
  cases ds with
  | nil => exact q.elim
  | cons d r0 =>
  cases r0 with
  | cons _ _ => exact q.elim
  | nil =>
  obtain ⟨q1, q2, q3, q4, q⟩ : PyData.showable d = true ∧ PyData.hasDict d = false ∧ (PyData.shown d).length ≤ sizeLine ∧ PyData.depth d ≤ 60 ∧ ∀ v B' H', Gr c B H B' H' → Rp B' v (.str (PyData.shown d)) → Q v H' := q
  obtain ⟨v, e, r⟩ := ra.one
  subst e
  obtain ⟨u, rfl, ru⟩ := vals1 rv
  have fin : ∀ {h' : Heap} {tk : Tok} {t : Nat}, (∀ b o, s.heap.get? b = some o → h'.get? b = some o) → EP X pins σ Q (.str (PyData.shown d) tk) { s with heap := h', toks := t } := fun {h' tk t} hk => ⟨.str (PyData.shown d), H, I.kept hk, ⟨tk, rfl⟩, q _ B H (Gr.refl w) (.str _)⟩
  have here : ∀ {tk : Tok} {t : Nat}, EP X pins σ Q (.str (PyData.shown d) tk) { s with toks := t } := fun {tk t} => ⟨.str (PyData.shown d), H, I.tok _, ⟨tk, rfl⟩, q _ B H (Gr.refl w) (.str _)⟩
  cases d with
  | dict kvs => simp [PyData.hasDict] at q2
  | list ds =>
    obtain ⟨as, rd⟩ := rp_reads I _ v u q2 (r.rp w) ru
    obtain ⟨a, ys, rfl, _, _⟩ := r.list w
    cases ru
    exact repr_of_reads' rd q1 (PyData.noDict_hsm q2) hgd (by omega) (fun _ _ z => z) (fun h' tk t hk => fin hk) q3
  | tuple ds =>
    obtain ⟨as, rd⟩ := rp_reads I _ v u q2 (r.rp w) ru
    obtain ⟨a, ys, rfl, _, _⟩ := r.tup w
    cases ru
    exact repr_of_reads' rd q1 (PyData.noDict_hsm q2) hgd (by omega) (fun _ _ z => z) (fun h' tk t hk => fin hk) q3
  | int i =>
    have e := r.int
    subst e
    obtain ⟨t, rfl⟩ := ru
    simp only [PyData.shown] at here
    exact PySem.P.repr_of_int (by simpa [PyData.showable] using q1) here
  | none =>
    have e := r.non
    subst e
    cases ru
    simp only [PyData.shown] at here
    exact PySem.P.repr_of_none here
  | bool b =>
    have e := r.bl
    subst e
    cases ru
    simp only [PyData.shown] at here
    exact PySem.P.repr_of_bool here
  | str x =>
    have e := r.str
    subst e
    obtain ⟨t, rfl⟩ := ru
    simp only [PyData.shown] at here q3
    exact PySem.P.repr_of_str here q3
end
end DL
namespace DL
open PySem L2 PyProof.Rows
/-! ### list(reversed(a list)) -/
section
variable {prog : Program} {w : World} {A : Around} {E : Value → Shared → Prop} {s : Shared}
theorem list_rev_call {it l : Addr} {items : Array Value} {Q : Value → Shared → Prop} (hh : A.handled = none) (hit : s.heap.IsRevIter it l ((items.size : Int) - 1)) (hl : s.heap.IsList l items) (hne : l ≠ it) (hn : items.size ≤ sizeLine)
    (hQ : ∀ (h' : Heap) (tk : Nat) (acc : Array Value) (c' : Nat), (∀ b o, b ≠ it → s.heap.get? b = some o → h'.get? b = some o) → h'.get? s.heap.objs.size = some { cls := .type "list", data := .seq acc c' } →
      ItemsOf (fun i v => items[items.size - 1 - i]? = some v) acc items.size → Q (.ref s.heap.objs.size) { s with heap := h', toks := tk }) : wpAny (model prog w) A (call (.type "list") [.ref it]) Q E s := by
  have hil : it < s.heap.objs.size := by
    obtain ⟨oi, hoi, _⟩ := id hit
    exact Heap.lt_size hoi
  have hll : l < s.heap.objs.size := by
    obtain ⟨ol, hol, _⟩ := id hl
    exact Heap.lt_size hol
  have n1 : s.heap.objs.size ≠ it := Nat.ne_of_gt hil
  have n2 : s.heap.objs.size ≠ l := Nat.ne_of_gt hll
  refine callType_codes (Q₁ := fun obj s₁ => obj = .ref s.heap.objs.size ∧ s₁ = { s with heap := s.heap.push { cls := .type "list", data := .seq #[] } }) PySem.F.called_list (PySem.F.typeCall_list_1 _) PySem.F.entry_list_init
    (code_list_new _ ⟨rfl, rfl⟩) ?_
  rintro obj s₁ ⟨rfl, rfl⟩
  have new : (s.heap.push { cls := .type "list", data := .seq #[] }).get? s.heap.objs.size = some { cls := .type "list", data := .seq #[] } := Heap.get?_push_size _ rfl
  refine ⟨⟨_, new, rfl⟩, PySem.F.args_list_init_2 _ _, ?_⟩
  show wpAny _ _ (do let old ← Builtin.List.listItems (.ref s.heap.objs.size); Builtin.List.listUpdate (.ref s.heap.objs.size) (fun _ => #[]); letGo old.toList.reverse; Builtin.List.listExtendWith (.ref s.heap.objs.size) (.ref it) .none) _ _ _
  unfold Builtin.List.listItems
  refine wpAny_bind (wpAny_bind (wpAny_seqItems new rfl (wpAny_pure (wpAny_bind ?_))))
  show wpAny _ _ (updateSeq s.heap.objs.size (fun _ => #[])) _ _ _
  refine wpAny_updateSeq new rfl (wpAny_bind (wpAny_letGo ?_))
  generalize hgen : (s.heap.push { cls := .type "list", data := .seq #[] }).update s.heap.objs.size (Obj.mapSeq fun _ => (#[] : Array Value)) = h1
  have fresh : h1.get? s.heap.objs.size = some (Obj.mapSeq (fun _ => (#[] : Array Value)) { cls := .type "list", data := .seq #[] }) := by
    rw [← hgen]
    exact Heap.get?_update_self (Obj.mapSeq fun _ => (#[] : Array Value)) new rfl
  have stay : ∀ b o, b ≠ s.heap.objs.size → s.heap.get? b = some o → h1.get? b = some o := fun b o hb e => by
    rw [← hgen]
    exact (Heap.get?_update_other _ _ (Ne.symm hb)).trans (Heap.get?_push_of_some _ e)
  have hit1 : h1.IsRevIter it l ((items.size : Int) - 1) := hit.at fun o e => stay _ _ (Ne.symm n1) e
  have hl1 : h1.IsList l items := by
    obtain ⟨o, e, r⟩ := hl
    exact ⟨o, stay _ _ (Ne.symm n2) e, r⟩
  have ty : ({ s with heap := h1 } : Shared).TypeIs (.ref it) "list_reverseiterator" := Heap.IsRevIter.typeIs (s := { s with heap := h1 }) hit1
  have same : Builtin.List.listSameRef (.ref s.heap.objs.size) (.ref it) = false := by simp [Builtin.List.listSameRef, n1]
  unfold Builtin.List.listExtendWith
  refine wpAny_bind (wpAny_typeOf ty ?_)
  rw [if_neg (by rw [same]; decide)]
  refine wpAny_bind (wpAny_pyIter_revIter (s := { s with heap := h1 }) hit1 (wpAny_bind (wpAny_holding ?_)))
  unfold Builtin.List.listLengthHint
  refine wpAny_bind (wpAny_specialOf ty RT.nolen_lri ?_)
  show wpAny _ _ (specialOf (Value.ref it) (Str.ofString "__length_hint__") >>= _) _ _ _
  refine wpAny_bind (wpAny_specialOf ty RT.hint_lri ?_)
  generalize hid : ("list_reverseiterator.__length_hint__" : String) = id0
  wp_delta
  have sp : splitId id0 = some ("list_reverseiterator", "__length_hint__") := by
    subst hid
    decide +kernel
  rw [sp]
  subst hid
  refine wpAny_bind (wpAny_isInstance (b := true) ty (by rw [isSubtype_type]; kernel_rfl) (wpAny_pure ?_))
  rw [if_neg (by decide)]
  have W := (Walks.listRev (prog := prog) (w := w) (A := A.in1.in1) hh it l hne items).toS
  have out : s.heap.objs.size ∉ [it, l] := by
    intro z
    rcases List.mem_cons.mp z with z | z
    · exact n1 z
    · exact n2 (List.mem_singleton.mp z)
  refine wpAny_pure ⟨plainId_quiet F.plain_extend_loop _, codeAny_extend_loopS W hn _ out _ items.size 0 _ _ _ rfl (Nat.zero_le _) ⟨Nat.zero_le _, ?_, hl1⟩ fresh (ItemsOf.nil _) fun s' acc' c' hm hS' hacc => ?_⟩
  · have e0 : ((items.size : Nat) : Int) - 1 - ((0 : Nat) : Int) = (items.size : Int) - 1 := by omega
    rw [e0]
    exact hit1
  · rw [Moved.eq_with hm]
    refine ⟨rfl, hQ s'.heap s'.toks acc' c' (fun b o hb e => ?_) hS' hacc⟩
    have nb : b ≠ s.heap.objs.size := Nat.ne_of_lt (Heap.lt_size e)
    refine hm.heap b o (fun hmem => ?_) (stay b o nb e)
    rcases List.mem_cons.mp hmem with z | z
    · exact nb z
    · exact hb (List.mem_singleton.mp z)
end
end DL
namespace DL
open PySem L2 PyProof.Rows
section
variable {X : Cx} {c : C}
/-- list(reversed(x)), x a list -/
def tListRev (K : PySem.W.Frag) (te : TE) : TE := fun σ H Q => te σ H fun v H1 => ∃ (a : Addr) (xs : List V), v = .ref a ∧ SqL K H1 a xs ∧ ∀ q, H1 q = none → Q (.ref q) (upd H1 q (.lst xs.reverse))
theorem pe_listRev {e : Expr} {te : TE} {p p2 pos pos2 : Pos} (hc : X.calm = true) (hm : X.mg "list" = none) (hm2 : X.mg "reversed" = none) (he : PE X e te) (hg : Gl X "list") (hg2 : Gl X "reversed")
    (hs : starEach [e] X.env = (false, eval e X.env) :: starEach [] X.env) (hs2 : starEach [.Call (.Name "reversed" p2) [e] [] pos2] X.env = (false, eval (.Call (.Name "reversed" p2) [e] [] pos2) X.env) :: starEach [] X.env) :
    PE X (.Call (.Name "list" p) [.Call (.Name "reversed" p2) [e] [] pos2] [] pos) (tListRev X.K te) := by
  refine ⟨fun pins s σ H Q I h => ?_⟩
  have inner : ∀ {R : Value → Shared → Prop}, wpAny (model X.prog X.w) X.A (eval e X.env) (fun u s1 => wpAny (model X.prog X.w) X.A (call (.type "reversed") [u]) R X.xe s1) X.xe s → wpAny (model X.prog X.w) X.A (eval (.Call (.Name "reversed" p2) [e] [] pos2) X.env) R X.xe s := fun hh =>
    Call_ (ld_blt I hg2 hm2 PyProof.Rows.boot_reversed (PyProof.Rows.callWith_type1 (args_cons (thn hh fun u s1 q => args_nil q) hs) hs rfl))
  refine Call_ (ld_blt I hg hm boot_list (PyProof.Rows.callWith_type1 (args_cons (inner (thn (he.run pins s σ H _ I h) fun u s1 hv => ?_)) hs2) hs2 rfl))
  obtain ⟨v, H1, I1, r1, a, xs, ev, hq, q⟩ := hv
  subst ev
  obtain rfl : u = Value.ref a := r1
  obtain ⟨its, rv, p', hz⟩ := I1.list hq
  have hl := p'.isList
  refine call_reversed_list hl (args_nil ?_)
  have I2 : Inv X pins σ H1 { s1 with heap := s1.heap.push (revObj a ((its.toArray.size : Int) - 1)) } := I1.kept (t' := s1.toks) fun _ _ z => Heap.get?_push_of_some _ z
  obtain ⟨f0, f1, f2, f3, f4, f5⟩ := I1.fpOk (H' := H1) (b := s1.heap.objs.size) (Nat.le_refl _) (I1.hok.fresh (Nat.le_refl _))
  have hal : a ≠ s1.heap.objs.size := by
    obtain ⟨ol, hol, _⟩ := id hl
    exact Nat.ne_of_lt (Heap.lt_size hol)
  refine list_rev_call (s := { s1 with heap := s1.heap.push (revObj a ((its.toArray.size : Int) - 1)) }) (I1.ok.hd hc) ⟨_, Heap.get?_push_size _ rfl, rfl, rfl⟩ (hl.push _) hal (by rw [List.size_toArray, ← rv.length]; exact hz) fun h' tk acc c' hk hn hi => ?_
  have I3 : Inv X pins σ H1 { s1 with heap := h', toks := tk } := I2.turned (t' := tk) (fun b o hb z => hk b o hb z) f0 f1 f3 f4 f5
  have fr : H1 (s1.heap.push (revObj a ((its.toArray.size : Int) - 1))).objs.size = none := I2.hok.fresh (Nat.le_refl _)
  have obj : ObjOk X.prog X.w (upd H1 (s1.heap.push (revObj a ((its.toArray.size : Int) - 1))).objs.size (.lst xs.reverse)) h' (s1.heap.push (revObj a ((its.toArray.size : Int) - 1))).objs.size (.lst xs.reverse) :=
    ⟨by rw [List.length_reverse]; exact hz, acc.toList, c', RT.vals_rev rv hi, by rw [Array.toArray_toList]; exact hn⟩
  have I4 : Inv X pins σ (upd H1 (s1.heap.push (revObj a ((its.toArray.size : Int) - 1))).objs.size (.lst xs.reverse)) { s1 with heap := h', toks := tk } := by
    refine I2.turnedNew (ch := [s1.heap.objs.size]) (fun b ob hb z => hk b ob (fun y => hb (by simp [y])) z) (fun b hb => ?_) (Nat.le_refl _) obj
    rw [List.mem_singleton.mp hb]
    exact ⟨f0, f1, f2, f3, f4, f5⟩
  exact ⟨.ref (s1.heap.push (revObj a ((its.toArray.size : Int) - 1))).objs.size, _, I4, rfl, q _ fr⟩
def fLRev (fa : SE) : SL := fun ρ Q => fa ρ fun d => match d with | .list ds => Q ds.reverse | _ => False
def fTRev (fa : SE) : SE := fun ρ Q => fa ρ fun d => match d with | .list ds => Q (.tuple ds.reverse) | _ => False
theorem n_listRev {e : Expr} {fa : SE} {p p2 pos pos2 : Pos} (hc : X.calm = true) (hm : X.mg "list" = none) (hm2 : X.mg "reversed" = none) (ha : PB X c e fa) (hg : Gl X "list" := by rfl) (hg2 : Gl X "reversed" := by rfl)
    (hs : starEach [e] X.env = (false, eval e X.env) :: starEach [] X.env := by rfl) (hs2 : starEach [.Call (.Name "reversed" p2) [e] [] pos2] X.env = (false, eval (.Call (.Name "reversed" p2) [e] [] pos2) X.env) :: starEach [] X.env := by rfl) :
    PN X c (.Call (.Name "list" p) [.Call (.Name "reversed" p2) [e] [] pos2] [] pos) (fLRev fa) := by
  refine ⟨fun ρ Q Q' k h => ha.mono _ _ _ (fun d hd => ?_) h, pe_weak (pe_listRev hc hm hm2 ha.pe hg hg2 hs hs2) fun σ H Q ⟨B, ρ, ok, h⟩ => ⟨B, ρ, ok, ha.mono _ _ _ (fun d hd v B1 H1 g1 r1 => ?_) h⟩⟩
  · cases d <;> first | exact hd.elim | exact k _ hd
  · cases d <;> first | exact hd.elim | skip
    obtain ⟨a, xs, rfl, h1, h2⟩ := r1.list g1.w
    refine ⟨a, xs, rfl, SqL.of h1, fun l hl => ?_⟩
    have g2 := Gr.newO (o := .lst xs.reverse) g1.w hl
    exact hd l _ B1 _ (g1.trans ok.w g2) (g1.back hl) (Evl.fresh_back g1.w.sub hl) upd_same (rpa_rev h2)
theorem v_tupRev {e : Expr} {fa : SE} {p p2 pos pos2 : Pos} (hc : X.calm = true) (hm : X.mg "tuple" = none) (hm2 : X.mg "reversed" = none) (ha : PB X c e fa) (hg : Gl X "tuple" := by rfl) (hg2 : Gl X "reversed" := by rfl)
    (hs : starEach [e] X.env = (false, eval e X.env) :: starEach [] X.env := by rfl) (hs2 : starEach [.Call (.Name "reversed" p2) [e] [] pos2] X.env = (false, eval (.Call (.Name "reversed" p2) [e] [] pos2) X.env) :: starEach [] X.env := by rfl) :
    PV X c (.Call (.Name "tuple" p) [.Call (.Name "reversed" p2) [e] [] pos2] [] pos) (fTRev fa) := by
  refine ⟨fun ρ Q Q' k h => ha.mono _ _ _ (fun d hd => ?_) h, pe_weak (RT.pe_tupRev hc hg hm hg2 hm2 ha.pe hs hs2) fun σ H Q ⟨B, ρ, ok, h⟩ => ⟨B, ρ, ok, ha.mono _ _ _ (fun d hd v B1 H1 g1 r1 => ?_) h⟩⟩
  · cases d <;> first | exact hd.elim | exact k _ hd
  · cases d <;> first | exact hd.elim | skip
    obtain ⟨a, xs, rfl, h1, h2⟩ := r1.list g1.w
    refine ⟨a, xs, rfl, SqL.of h1, fun l hl => ?_⟩
    have g2 := Gr.new (o := .tup xs.reverse) g1.w hl
    exact hd _ _ _ (g1.trans ok.w g2) (.tup upd_same (rpa_mono g2.b (rpa_rev h2)))
/-- list(range(..)) -/
theorem rng_rgV {B : Hp} (a b : Int) : RpA B (rgV a b) (rng a (b - a).toNat) := by
  unfold rgV rng
  generalize List.range (b - a).toNat = l
  induction l with
  | nil => exact .nil
  | cons i l ih => exact .cons (.int _) ih
def fLRng1 (fa : SE) : SL := fun ρ Q => fa ρ fun d => match d with | .int j => RgOk 0 j ∧ Q (rng 0 (j - 0).toNat) | _ => False
def fLRng2 (fa fb : SE) : SL := fun ρ Q => fa ρ fun d => fb ρ fun e => match d, e with | .int i, .int j => RgOk i j ∧ Q (rng i (j - i).toNat) | _, _ => False
theorem n_lrng1 {a : Expr} {fa : SE} {p p2 pos pos2 : Pos} (hc : X.calm = true) (hm : X.mg "list" = none) (hm2 : X.mg "range" = none) (ha : PB X c a fa) (hg : Gl X "list" := by rfl) (hg2 : Gl X "range" := by rfl)
    (na : starEach [a] X.env = (false, eval a X.env) :: starEach [] X.env := by rfl) (na2 : starEach [.Call (.Name "range" p2) [a] [] pos2] X.env = (false, eval (.Call (.Name "range" p2) [a] [] pos2) X.env) :: starEach [] X.env := by rfl) :
    PN X c (.Call (.Name "list" p) [.Call (.Name "range" p2) [a] [] pos2] [] pos) (fLRng1 fa) := by
  refine ⟨fun ρ Q Q' k h => ha.mono _ _ _ (fun d hd => ?_) h, pe_weak (pe_listRg hc hg hm (prg_1 hg2 hm2 ha.pe na) na2) fun σ H Q ⟨B, ρ, ok, h⟩ => ⟨B, ρ, ok, ha.mono _ _ _ (fun d hd v B1 H1 g1 r1 => ?_) h⟩⟩
  · cases d <;> first | exact hd.elim | exact ⟨hd.1, k _ hd.2⟩
  · cases d <;> first | exact hd.elim | skip
    rename_i j
    rw [r1.int]
    refine ⟨j, rfl, hd.1, fun l hl => ?_⟩
    have g2 := Gr.newO (o := .lst (rgV 0 j)) g1.w hl
    exact hd.2 l _ B1 _ (g1.trans ok.w g2) (g1.back hl) (Evl.fresh_back g1.w.sub hl) upd_same (rng_rgV _ _)
theorem n_lrng2 {a b : Expr} {fa fb : SE} {p p2 pos pos2 : Pos} (hc : X.calm = true) (hm : X.mg "list" = none) (hm2 : X.mg "range" = none) (ha : PB X c a fa) (hb : PB X c b fb) (hg : Gl X "list" := by rfl) (hg2 : Gl X "range" := by rfl)
    (na : starEach [a, b] X.env = (false, eval a X.env) :: starEach [b] X.env := by rfl) (nb : starEach [b] X.env = (false, eval b X.env) :: starEach [] X.env := by rfl)
    (hp : (backTo pos2 (starEach [b] X.env)).any (·.1) = false := by rfl) (na2 : starEach [.Call (.Name "range" p2) [a, b] [] pos2] X.env = (false, eval (.Call (.Name "range" p2) [a, b] [] pos2) X.env) :: starEach [] X.env := by rfl) :
    PN X c (.Call (.Name "list" p) [.Call (.Name "range" p2) [a, b] [] pos2] [] pos) (fLRng2 fa fb) := by
  refine ⟨fun ρ Q Q' k h => ha.mono _ _ _ (fun d hd => hb.mono _ _ _ (fun e he => ?_) hd) h, pe_weak (pe_listRg hc hg hm (prg_2 hg2 hm2 ha.pe hb.pe na nb hp) na2) fun σ H Q ⟨B, ρ, ok, h⟩ =>
    ⟨B, ρ, ok, ha.mono _ _ _ (fun d hd v B1 H1 g1 r1 => ⟨B1, ρ, ok.mono g1, hb.mono _ _ _ (fun e he u B2 H2 g2 r2 => ?_) hd⟩) h⟩⟩
  · cases d <;> cases e <;> first | exact he.elim | exact ⟨he.1, k _ he.2⟩
  · cases d <;> cases e <;> first | exact he.elim | skip
    rename_i i j
    rw [r1.int, r2.int]
    refine ⟨i, j, rfl, rfl, he.1, fun l hl => ?_⟩
    have g3 := Gr.newO (o := .lst (rgV i j)) g2.w hl
    exact he.2 l _ B2 _ ((g1.trans ok.w g2).trans ok.w g3) ((g1.trans ok.w g2).back hl) (Evl.fresh_back g2.w.sub hl) upd_same (rng_rgV _ _)
/-- x.bit_length() -/
def fBits (fa : SE) : SE := fun ρ Q => fa ρ fun d => match d with | .int i => Q (.int (Builtin.Int.intBits i : Nat)) | _ => False
theorem v_bits {o : Expr} {fa : SE} {apos pos : Pos} (ha : PB X c o fa) (hbase : attributeBase o "bit_length" X.env (eval o X.env) = eval o X.env := by rfl) (hline : (apos.endLine == pos.line) = true := by rfl) : PV X c (.Call (.Attribute o "bit_length" apos) [] [] pos) (fBits fa) := by
  refine ⟨fun ρ Q Q' k h => ha.mono _ _ _ (fun d hd => ?_) h, pe_weak (pe_bits ha.pe hbase hline) fun σ H Q ⟨B, ρ, ok, h⟩ => ⟨B, ρ, ok, ha.mono _ _ _ (fun d hd v B1 H1 g1 r1 => ?_) h⟩⟩
  · cases d <;> first | exact hd.elim | exact k _ hd
  · cases d <;> first | exact hd.elim | skip
    exact ⟨_, r1.int, hd _ B1 H1 g1 (.int _)⟩
/-- 1 << k of any size -/
def gShlW : G2 | .int i, .int j, Q => CShl i j ∧ Q (.int (i * 2 ^ j.toNat)) | _, _, _ => False
theorem m_ShlW : MonoG gShlW := fun d e Q Q' k h => by cases d <;> cases e <;> first | exact ⟨h.1, k _ h.2⟩ | exact h.elim
theorem o_shlW : OpD X c (binaryOp .LShift) gShlW := opd_int op_shlW (fun d e Q h => by cases d <;> cases e <;> first | exact ⟨_, _, rfl, rfl, h.1, h.2⟩ | exact h.elim) m_ShlW
/-! ### a tuple or a list unpacked -/
theorem PG.or {tg : Expr} {t t' : TG} (h : PG X tg t) (h' : PG X tg t') : PG X tg fun v σ H Q => t v σ H Q ∨ t' v σ H Q := ⟨fun pins s σ H v u Q I r q => q.elim (h.run pins s σ H v u Q I r) (h'.run pins s σ H v u Q I r)⟩
def gSq (n : Nat) (gs : GTs) : GT := fun d ρ Q => match seqOf d with | some ds => ds.length = n ∧ gs ds ρ Q | none => False
theorem g_sq {es : List Expr} {k : Nat} {gs : GTs} {ks : List Nat} {pos : Pos} (hc : X.calm = true) (h : PGsd X c es gs ks) {n : Nat} (hn : (assignEach es X.env).length = n := by rfl) (hst : (assignEach es X.env).findIdx? (·.1) = none := by rfl) :
    PGd X c (.Tuple es k pos) (gSq n gs) ks := by
  refine ⟨fun d ρ Q Q' k h' => ?_, pg_weak (PG.or (pg_tup hc h.pg hn hst) (pg_unl hc h.pg hn hst)) fun v σ H Q ⟨B, ρ, d, ok, r, h'⟩ => ?_⟩
  · unfold gSq at h' ⊢
    split at h' <;> first | exact h'.elim | exact ⟨h'.1, h.mono _ _ _ _ k h'.2⟩
  · unfold gSq at h'
    cases d <;> simp only [seqOf] at h' <;> first | exact h'.elim | skip
    · obtain ⟨a, xs, rfl, h1, h2⟩ := rp_lst r
      exact .inr ⟨a, xs, rfl, SqL.of (ok.w.sub _ _ h1), by rw [rpa_len h2]; exact h'.1, B, ρ, _, ok, h2, h'.2⟩
    · obtain ⟨a, xs, rfl, h1, h2⟩ := rp_tup r
      exact .inl ⟨a, xs, rfl, SqT.of (ok.w.sub _ _ h1), by rw [rpa_len h2]; exact h'.1, B, ρ, _, ok, h2, h'.2⟩
/-! ### enumerate(list), zip -/
variable {elts : List Expr} {kk : Nat} {tpos : Pos}
def enumD : Nat → List D → List D
  | _, [] => []
  | k, d :: ds => .tuple [.int (k : Nat), d] :: enumD (k + 1) ds
theorem enumD_len : ∀ (k : Nat) (ds : List D), (enumD k ds).length = ds.length
  | _, [] => rfl
  | k, _ :: ds => by simp only [enumD, List.length_cons, enumD_len (k + 1) ds]
theorem enumD_get : ∀ {k : Nat} {ds : List D} {i : Nat} {d : D}, (enumD k ds)[i]? = some d → ∃ e, ds[i]? = some e ∧ d = .tuple [.int ((k + i : Nat) : Int), e]
  | _, [], _, _, h => by simp [enumD] at h
  | k, e :: ds, 0, d, h => by
    simp [enumD] at h
    exact ⟨e, rfl, h.symm⟩
  | k, e :: ds, i + 1, d, h => by
    simp only [enumD, List.getElem?_cons_succ] at h
    obtain ⟨x, h1, h2⟩ := enumD_get h
    refine ⟨x, by simpa using h1, ?_⟩
    rw [h2]
    have e : k + 1 + i = k + (i + 1) := by omega
    rw [e]
def fEnum (fa : SE) : SI := fun ρ Q => fa ρ fun d => match d with | .list ds => Q (enumD 0 ds) | _ => False
theorem i_enum {e : Expr} {fa : SE} {p pos : Pos} (hm : X.mg "enumerate" = none) (ha : PV X c e fa) (hg : Gl X "enumerate" := by rfl) (hs : starEach [e] X.env = [(false, eval e X.env)] := by rfl) : PItd X c (.Tuple elts kk tpos) (.Call (.Name "enumerate" p) [e] [] pos) (fEnum fa) := by
  refine ⟨fun ρ Q Q' k h => ha.mono _ _ _ (fun d hd => ?_) h, pi_weak (pi_enum hg hm (pa_cons ha.pe pa_nil (by rw [hs]; rfl)) hs) fun σ H R ⟨B, ρ, ok, h⟩ => ⟨B, ρ, ok, ha.mono _ _ _ (fun d hd v B' H' g r => ?_) h⟩⟩
  · cases d <;> first | exact hd.elim | exact k _ hd
  · cases d <;> first | exact hd.elim | skip
    rename_i ds
    obtain ⟨a, xs, rfl, h1, h2⟩ := rp_lst r
    refine ⟨a, xs, rfl, SqL.of (g.w.sub _ _ h1), hd _ B' H' g fun i B1 H1 e1 w => ?_⟩
    have h3 : H1 a = some (.lst xs) := w.sub _ _ (e1 _ _ h1)
    refine ⟨fun hi => ⟨xs, SqL.of h3, by rw [rpa_len h2]; rw [enumD_len] at hi; exact hi⟩, fun d hd' => ?_⟩
    obtain ⟨x, h4, h5⟩ := enumD_get hd'
    obtain ⟨y, h6, h7⟩ := rpa_get h2 h4
    refine ⟨⟨xs, y, SqL.of h3, h6⟩, fun z H2 ⟨T, u, e2, hT, e3, hy⟩ => ?_⟩
    subst e2 e3 h5
    have hu := hy xs (SqL.of h3)
    rw [h6] at hu
    cases hu
    have g4 := Gr.new (o := .tup [.int (i : Nat), y]) w hT
    refine ⟨_, g4, .tup upd_same (.cons ?_ (.cons (rp_mono g4.b (rp_mono e1 h7)) .nil))⟩
    rw [Nat.zero_add]
    exact .int _
def zipD : List D → List D → List D
  | a :: as, b :: bs => .tuple [a, b] :: zipD as bs
  | _, _ => []
theorem zipD_get : ∀ {as bs : List D} {i : Nat} {d : D}, (zipD as bs)[i]? = some d → ∃ a b, as[i]? = some a ∧ bs[i]? = some b ∧ d = .tuple [a, b]
  | a :: as, b :: bs, 0, d, h => by
    simp [zipD] at h
    exact ⟨a, b, rfl, rfl, h.symm⟩
  | a :: as, b :: bs, i + 1, d, h => by
    simp only [zipD, List.getElem?_cons_succ] at h
    obtain ⟨x, y, h1, h2, h3⟩ := zipD_get h
    exact ⟨x, y, by simpa using h1, by simpa using h2, h3⟩
  | [], _, _, _, h => by simp [zipD] at h
  | _ :: _, [], _, _, h => by simp [zipD] at h
theorem zipD_len : ∀ (as bs : List D), (zipD as bs).length = min as.length bs.length
  | a :: as, b :: bs => by simp only [zipD, List.length_cons, zipD_len as bs]; omega
  | [], bs => by simp [zipD]
  | _ :: _, [] => by simp [zipD]
def fZip (fa fb : SE) : SI := fun ρ Q => fa ρ fun d => fb ρ fun e => match d, e with | .list as, .list bs => Q (zipD as bs) | .tuple as, .tuple bs => Q (zipD as bs) | _, _ => False
theorem i_zip {e e2 : Expr} {fa fb : SE} {p pos : Pos} (hm : X.mg "zip" = none) (ha : PV X c e fa) (hb : PV X c e2 fb) (hg : Gl X "zip" := by rfl) (hs : starEach [e, e2] X.env = (false, eval e X.env) :: starEach [e2] X.env := by rfl) (hs2 : starEach [e2] X.env = (false, eval e2 X.env) :: starEach [] X.env := by rfl)
    (hpl : (backTo pos (starEach [e2] X.env)).any (·.1) = false := by rfl) : PItd X c (.Tuple elts kk tpos) (.Call (.Name "zip" p) [e, e2] [] pos) (fZip fa fb) := by
  refine ⟨fun ρ Q Q' k h => ha.mono _ _ _ (fun d hd => hb.mono _ _ _ (fun e he => ?_) hd) h, pi_weak (RZ.pi_zipA hg hm (pa_cons ha.pe (pa_cons hb.pe pa_nil hs2) hs) hs hpl) fun σ H R ⟨B, ρ, ok, h⟩ =>
    ⟨B, ρ, ok, ha.mono _ _ _ (fun d hd v B' H' g r => ⟨B', ρ, ok.mono g, hb.mono _ _ _ (fun e he u B2 H2 g2 r2 => ?_) hd⟩) h⟩⟩
  · cases d <;> cases e <;> first | exact he.elim | exact k _ he
  · have r' := rp_mono g2.b r
    have gg := g.trans ok.w g2
    cases d <;> cases e <;> first | exact he.elim | skip
    · obtain ⟨a, xs, rfl, h1, h2⟩ := rp_lst r'
      obtain ⟨b, ys, rfl, h3, h4⟩ := rp_lst r2
      refine ⟨a, b, xs, ys, rfl, .inl ⟨SqL.of (g2.w.sub _ _ h1), SqL.of (g2.w.sub _ _ h3), he _ B2 H2 gg fun i B1 H1 e1 w => ?_⟩⟩
      have k1 : H1 a = some (.lst xs) := w.sub _ _ (e1 _ _ h1)
      have k2 : H1 b = some (.lst ys) := w.sub _ _ (e1 _ _ h3)
      refine ⟨fun hi => ⟨xs, ys, SqL.of k1, SqL.of k2, by rw [rpa_len h2, rpa_len h4]; rw [zipD_len] at hi; omega⟩, fun d hd' => ?_⟩
      obtain ⟨p, q, m1, m2, m3⟩ := zipD_get hd'
      obtain ⟨x, n1, n2⟩ := rpa_get h2 m1
      obtain ⟨y, n3, n4⟩ := rpa_get h4 m2
      refine ⟨⟨xs, ys, x, y, SqL.of k1, SqL.of k2, n1, n3⟩, fun z H3 ⟨T, x', y', e2, hT, e3, hx, hy⟩ => ?_⟩
      subst e2 e3 m3
      have hx := hx xs (SqL.of k1)
      have hy := hy ys (SqL.of k2)
      rw [n1] at hx
      rw [n3] at hy
      cases hx
      cases hy
      have g4 := Gr.new (o := .tup [x, y]) w hT
      exact ⟨_, g4, .tup upd_same (.cons (rp_mono g4.b (rp_mono e1 n2)) (.cons (rp_mono g4.b (rp_mono e1 n4)) .nil))⟩
    · obtain ⟨a, xs, rfl, h1, h2⟩ := rp_tup r'
      obtain ⟨b, ys, rfl, h3, h4⟩ := rp_tup r2
      refine ⟨a, b, xs, ys, rfl, .inr ⟨SqT.of (g2.w.sub _ _ h1), SqT.of (g2.w.sub _ _ h3), he _ B2 H2 gg fun i B1 H1 e1 w => ?_⟩⟩
      have k1 : H1 a = some (.tup xs) := w.sub _ _ (e1 _ _ h1)
      have k2 : H1 b = some (.tup ys) := w.sub _ _ (e1 _ _ h3)
      refine ⟨fun hi => ⟨xs, ys, SqT.of k1, SqT.of k2, by rw [rpa_len h2, rpa_len h4]; rw [zipD_len] at hi; omega⟩, fun d hd' => ?_⟩
      obtain ⟨p, q, m1, m2, m3⟩ := zipD_get hd'
      obtain ⟨x, n1, n2⟩ := rpa_get h2 m1
      obtain ⟨y, n3, n4⟩ := rpa_get h4 m2
      refine ⟨⟨xs, ys, x, y, SqT.of k1, SqT.of k2, n1, n3⟩, fun z H3 ⟨T, x', y', e2, hT, e3, hx, hy⟩ => ?_⟩
      subst e2 e3 m3
      have hx := hx xs (SqT.of k1)
      have hy := hy ys (SqT.of k2)
      rw [n1] at hx
      rw [n3] at hy
      cases hx
      cases hy
      have g4 := Gr.new (o := .tup [x, y]) w hT
      exact ⟨_, g4, .tup upd_same (.cons (rp_mono g4.b (rp_mono e1 n2)) (.cons (rp_mono g4.b (rp_mono e1 n4)) .nil))⟩
end
end DL
namespace DL
open PySem L2 PyProof.Rows
/-! ### bags: none; a list of a list of ints and two ints -/
def noBag (a : Addr) : Bg := ⟨a, fun _ => False, fun _ => True, fun _ _ _ _ => trivial⟩
/-- the bag's words -/
structure BagW (pb pc : Addr) (H : Hp) (cs : List Int) (d m : Int) : Prop where
  ne : pb ≠ pc
  b : H pb = some (.lst [.ref pc, .int d, .int m])
  c : H pc = some (.lst (cs.map V.int))
  cs0 : ∀ x ∈ cs, 0 ≤ x
  d0 : 0 ≤ d
  m0 : 0 ≤ m
  m1 : m < 2147483647
def lstBag (pb pc : Addr) : Bg where
  pb := pb
  mem := fun a => a = pb ∨ a = pc
  ok := fun H => ∃ cs d m, BagW pb pc H cs d m
  loc := fun H H' k ⟨cs, d, m, w⟩ => ⟨cs, d, m, w.ne, by rw [k pb (.inl rfl)]; exact w.b, by rw [k pc (.inr rfl)]; exact w.c, w.cs0, w.d0, w.m0, w.m1⟩
def IsLst (c : C) : Prop := ∃ pb pc, c.toBg = lstBag pb pc
theorem IsLst.up {c : C} (h : IsLst c) : ∀ B1 H1, IsLst { c with B0 := B1, H0 := H1 } := fun _ _ => h
/-- the bag's own objects changed -/
theorem Gr.bag {c : C} {B H H' : Hp} (w : Wd c B H) (k : ∀ a, ¬ c.isBag a → H' a = H a) (h : ∀ a, c.isBag a → H' a ≠ none) (ok : c.ok H') : Gr c B H B H' := by
  refine ⟨Evl.Ex.refl B, fun a o n e => by rw [k a n]; exact e, fun _ _ => rfl, fun a o e => ?_, w.bag.out, h, ok⟩
  rw [k a (w.nb e)]; exact w.sub a o e
/-! ### ints read without a change -/
abbrev RI := St → Hp → Int → Prop
structure PI (X : Cx) (e : Expr) (f : RI) : Prop where
  pe : PE X e (fun σ H Q => ∃ i, f σ H i ∧ Q (.int i) H)
section
variable {X : Cx}
theorem PI.of {e : Expr} {f : RI} {t : TE} (h : PE X e t) (w : ∀ σ H Q i, f σ H i → Q (.int i) H → t σ H Q) : PI X e f := ⟨pe_weak h fun σ H Q ⟨i, h1, h2⟩ => w σ H Q i h1 h2⟩
theorem pi_nm (i : Nat) {x : Str} {pos : Pos} (hN : X.N[i]? = some x := by rfl) (hv : Vis X.env.scope x := by first | exact Or.inl rfl | exact Or.inr (Or.inl rfl) | exact Or.inr (Or.inr rfl))
    (hd : (x == ("__debug__" : Str)) = false := by decide) (hcd : (x == ("__classdict__" : Str)) = false := by decide) : PI X (.Name x pos) (fun σ _ j => σ[i]? = some (some (.int j))) :=
  .of (pe_var hN hv hd hcd) fun σ H Q j h q => ⟨_, h, q⟩
theorem pi_c {i : Int} {j : Nat} {pos : Pos} : PI X (.Constant (.int i) j pos) (fun _ _ k => k = i) := .of pe_int fun σ H Q k h q => by
  subst h; exact q
theorem pi_bin {op : Operator} {C : Int → Int → Prop} {g : Int → Int → Int} {a b : Expr} {fa fb : RI} {pos : Pos} (ho : OpR X (binaryOp op) (rI C fun i j => .int (g i j))) (ha : PI X a fa) (hb : PI X b fb) :
    PI X (.BinOp a op b pos) (fun σ H k => ∃ i j, fa σ H i ∧ fb σ H j ∧ C i j ∧ k = g i j) :=
  .of (pe_op ho ha.pe hb.pe) fun σ H Q k ⟨i, j, h1, h2, h3, h4⟩ q => ⟨i, h1, j, h2, i, j, rfl, rfl, h3, by rw [h4] at q; exact q⟩
theorem iop_add : OpR X (binaryOp .Add) (rI (fun _ _ => True) fun i j => .int (i + j)) := rI0_I op_add
theorem pi_int {e : Expr} {f : RI} {p pos : Pos} (hm : X.mg "int" = none) (he : PI X e f) (hg : Gl X "int" := by rfl) (hs : starEach [e] X.env = (false, eval e X.env) :: starEach [] X.env := by rfl) (hpl : (backTo pos (starEach [] X.env)).any (·.1) = false := by rfl) :
    PI X (.Call (.Name "int" p) [e] [] pos) f :=
  .of (pe_callTy call_int1 hg hm (by decide +kernel) (pa_cons he.pe pa_nil hs) (by decide) (by decide) hs hpl) fun σ H Q k h q => ⟨k, h, .inl ⟨k, rfl, q⟩⟩
/-- bag[k], k ≥ 1 -/
theorem pi_bag (i : Nat) {x : Str} {k : Int} {jj : Nat} {p1 p2 pos : Pos} (hN : X.N[i]? = some x := by rfl) (hv : Vis X.env.scope x := by first | exact Or.inl rfl | exact Or.inr (Or.inl rfl) | exact Or.inr (Or.inr rfl))
    (hd : (x == ("__debug__" : Str)) = false := by decide) (hcd : (x == ("__classdict__" : Str)) = false := by decide) :
    PI X (.Subscript (.Name x p1) (.Constant (.int k) jj p2) pos) (fun σ H j => ∃ p xs, σ[i]? = some (some (.ref p)) ∧ H p = some (.lst xs) ∧ atI xs k = some (.int j)) :=
  .of (pe_ix ix_seq (pe_var hN hv hd hcd) pe_int (fun _ _ => rfl)) fun σ H Q j ⟨p, xs, h1, h2, h3⟩ q => ⟨_, h1, .inl ⟨p, xs, k, .int j, rfl, rfl, SqL.of h2, h3, q⟩⟩
/-- a test of two ints -/
theorem pt_i {op : CmpOp} {g : Int → Int → Bool} {a b : Expr} {fa fb : RI} {pos : Pos} (ho : OpR X (compareOp op) (rI0 fun i j => .bl (g i j))) (ha : PI X a fa) (hb : PI X b fb) (hm : behindInMarks op b = false := by first | exact nomark _ | rfl) :
    PT X (.Compare a [op] [b] pos) (fun σ H Q => ∃ i j, fa σ H i ∧ fb σ H j ∧ Q (g i j) H) := by
  refine pt_weak (pt_cmpR ho ha.pe hb.pe hm) fun σ H Q ⟨i, j, h1, h2, h3⟩ => ?_
  exact ⟨i, h1, j, h2, i, j, rfl, rfl, _, rfl, h3⟩
theorem iop_eq : OpR X (compareOp .Eq) (rI0 fun i j => .bl (decide (i = j))) := opr_weak op_eq fun x y H Q ⟨i, j, e1, e2, q⟩ => by
  subst e1 e2
  refine ⟨rfl, ?_⟩
  have e : decide (V.int i = V.int j) = decide (i = j) := by simp
  rw [e]; exact q
/-- bag[0], a list of ints, is not [] -/
theorem shaped_ints : ∀ cs : List Int, SeqAt.shaped (.list (cs.map PyData.int)) = true := by
  intro cs
  have h1 : ∀ cs : List Int, PyData.canLayAll0 (cs.map PyData.int) = true := fun cs => by
    induction cs with
    | nil => rfl
    | cons c cs ih => simp [PyData.canLayAll0, PyData.canLay0, ih]
  have h2 : ∀ cs : List Int, PyData.depthAll (cs.map PyData.int) ≤ 1 := fun cs => by
    induction cs with
    | nil => simp [PyData.depthAll]
    | cons c cs ih => simp [PyData.depthAll, PyData.depth, ih]
  have := h2 cs
  have e : (PyData.list (cs.map PyData.int)).depth ≤ 64 := by
    simp only [PyData.depth]
    omega
  unfold SeqAt.shaped
  rw [decide_eq_true e]
  simp only [PyData.canLay0, h1, Bool.and_self]
theorem dp_ints {K : PySem.W.Frag} {H : Hp} {p : Addr} {cs : List Int} (h : H p = some (.lst (cs.map V.int))) : Dp K H (.ref p) (.list (cs.map PyData.int)) :=
  rp_dp (B := H) (.lst h (rpa_of_ints cs)) (SeqAt.canLay_of_shaped (shaped_ints cs))
theorem eqv_nil (cs : List Int) : (!PyData.eqv (.list (cs.map PyData.int)) (.list [])) = !cs.isEmpty := by
  cases cs <;> simp [PyData.eqv, PyData.eqvAll]
theorem pt_full (i : Nat) {x : Str} {j0 : Nat} {p1 p2 p3 p4 pos : Pos} (hu : X.A.units + 64 < cLine) (hN : X.N[i]? = some x := by rfl) (hv : Vis X.env.scope x := by first | exact Or.inl rfl | exact Or.inr (Or.inl rfl) | exact Or.inr (Or.inr rfl))
    (hd : (x == ("__debug__" : Str)) = false := by decide) (hcd : (x == ("__classdict__" : Str)) = false := by decide) :
    PT X (.Compare (.Subscript (.Name x p1) (.Constant (.int 0) j0 p2) p3) [.NotEq] [.List [] p4] pos)
      (fun σ H Q => ∃ p xs q, ∃ cs : List Int, σ[i]? = some (some (.ref p)) ∧ H p = some (.lst xs) ∧ atI xs 0 = some (.ref q) ∧ H q = some (.lst (cs.map V.int)) ∧ ∀ H', (∀ a, H a ≠ none → H' a = H a) → Q (!cs.isEmpty) H') := by
  refine pt_weak (pt_cmpR (op_neD hu) (pe_ix ix_seq (pe_var hN hv hd hcd) pe_int (fun _ _ => rfl)) (pe_lst pa_nil) (by rfl)) fun σ H Q ⟨p, xs, q, cs, h1, h2, h3, h4, k⟩ => ?_
  refine ⟨_, h1, .inl ⟨p, xs, 0, .ref q, rfl, rfl, SqL.of h2, h3, ?_⟩⟩
  refine ⟨by decide, fun l hl => ?_⟩
  have nq : q ≠ l := ne_of_none h4 hl
  refine ⟨_, _, dp_ints (cs := cs) (by rw [upd_ne nq]; exact h4), dp_ints (cs := []) upd_same, shaped_ints cs, shaped_ints [], _, rfl, ?_⟩
  rw [show (List.map PyData.int ([] : List Int)) = [] from rfl, eqv_nil]
  exact k _ fun a ha => upd_ne fun z => ha (by rw [z]; exact hl)
/-- bag[k] = e -/
theorem ps_bag (i : Nat) {x : Str} {e : Expr} {f : RI} {k : Int} {j0 : Nat} {p1 p2 p3 pos : Pos} (he : PI X e f) (hN : X.N[i]? = some x := by rfl) (hv : Vis X.env.scope x := by first | exact Or.inl rfl | exact Or.inr (Or.inl rfl) | exact Or.inr (Or.inr rfl))
    (hd : (x == ("__debug__" : Str)) = false := by decide) (hcd : (x == ("__classdict__" : Str)) = false := by decide)
    (ha : ∀ v, assign (.Subscript (.Name x p1) (.Constant (.int k) j0 p2) p3) X.env v = (do
      let ov ← holding [v] (eval (.Name x p1) X.env)
      let iv ← holding [v, ov] (eval (.Constant (.int k) j0 p2) X.env)
      standAt p3
      holding [v, ov, iv] (setItem ov iv v)
      release [v, ov, iv] []) := by intro _; rfl)
    (hs : swapsWithSole [.Subscript (.Name x p1) (.Constant (.int k) j0 p2) p3] e pos.line X.env = pure false := by rfl) (hw : swappedStores [.Subscript (.Name x p1) (.Constant (.int k) j0 p2) p3] e X.env = pure none := by rfl)
    (h1 : (assignEach [.Subscript (.Name x p1) (.Constant (.int k) j0 p2) p3] X.env).map (·.2) = [assign (.Subscript (.Name x p1) (.Constant (.int k) j0 p2) p3) X.env] := by rfl) :
    PS X (.Assign [.Subscript (.Name x p1) (.Constant (.int k) j0 p2) p3] e pos) (fun D σ H => ∃ v p xs j, f σ H v ∧ σ[i]? = some (some (.ref p)) ∧ H p = some (.lst xs) ∧ ixN xs.length k = some j ∧ D.nx σ (upd H p (.lst (xs.set j (.int v))))) :=
  ps_weak (ps_asg he.pe (pg_sub (pe_var hN hv hd hcd) pe_int set_list ha) hs hw h1) fun D σ H ⟨v, p, xs, j, q1, q2, q3, q4, q⟩ => ⟨v, q1, _, q2, p, xs, k, j, rfl, rfl, q3, q4, q⟩
/-- cell = bag[0].pop() -/
theorem ps_bagPop (i j : Nat) {x y : Str} {j0 : Nat} {p0 p1 p2 p3 p4 p5 pos : Pos} (hNd : X.N.Nodup) (hN : X.N[i]? = some x := by rfl) (hv : Vis X.env.scope x := by first | exact Or.inl rfl | exact Or.inr (Or.inl rfl) | exact Or.inr (Or.inr rfl))
    (hd : (x == ("__debug__" : Str)) = false := by decide) (hcd : (x == ("__classdict__" : Str)) = false := by decide) (hj : X.N[j]? = some y := by rfl) (hy : Loc X.env.scope y := by first | exact Or.inl rfl | exact Or.inr rfl)
    (hf : X.fn y = true ∨ X.env.scope.names.lookup y = some .local := by first | exact .inl rfl | exact .inr rfl | assumption)
    (hbase : attributeBase (.Subscript (.Name x p1) (.Constant (.int 0) j0 p2) p3) "pop" X.env (eval (.Subscript (.Name x p1) (.Constant (.int 0) j0 p2) p3) X.env) = eval (.Subscript (.Name x p1) (.Constant (.int 0) j0 p2) p3) X.env := by rfl) (hline : (p4.endLine == p5.line) = true := by rfl)
    (hs : swapsWith (.Call (.Attribute (.Subscript (.Name x p1) (.Constant (.int 0) j0 p2) p3) "pop" p4) [] [] p5) (some (.Name y p0)) pos.line X.env = pure false := by rfl) :
    PS X (.Assign [.Name y p0] (.Call (.Attribute (.Subscript (.Name x p1) (.Constant (.int 0) j0 p2) p3) "pop" p4) [] [] p5) pos)
      (fun D σ H => ∃ p xs q ys v, σ[i]? = some (some (.ref p)) ∧ H p = some (.lst xs) ∧ atI xs 0 = some (.ref q) ∧ H q = some (.lst ys) ∧ ys[ys.length - 1]? = some v ∧ D.nx (σ.set j (some v)) (upd H q (.lst ys.dropLast))) :=
  ps_weak (ps_set hNd hj hy (pe_bm0 PySem.F.plainAttrs_list PySem.F.slot_list_pop PySem.F.type_list_pop mt_pop (pe_ix ix_seq (pe_var hN hv hd hcd) pe_int (fun _ _ => rfl)) hbase hline) hs hf) fun D σ H ⟨p, xs, q, ys, v, q1, q2, q3, q4, q5, k⟩ =>
    ⟨_, q1, .inl ⟨p, xs, 0, .ref q, rfl, rfl, SqL.of q2, q3, .inl ⟨rfl, ys, SqL.of q4⟩, q, ys, v, rfl, rfl, q4, q5, k⟩⟩
theorem pi_if {cc a b : Expr} {t : TT} {fa fb : RI} {pos : Pos} {r : St → Hp → Bool → Prop} (hc : PT X cc t) (w : ∀ σ H b Q, r σ H b → Q b H → t σ H Q) (ha : PI X a fa) (hb : PI X b fb) :
    PI X (.IfExp cc a b pos) (fun σ H i => ∃ k, r σ H k ∧ (if k = true then fa σ H i else fb σ H i)) :=
  .of (pe_ifExp hc ha.pe hb.pe) fun σ H Q i ⟨k, h1, h2⟩ q => w _ _ _ _ h1 (by
    cases k with
    | true => exact ⟨i, h2, q⟩
    | false => exact ⟨i, h2, q⟩)
theorem ps_retI {e : Expr} {f : RI} {pos : Pos} (he : PI X e f) : PS X (.Return (some e) pos) (fun D σ H => ∃ i, f σ H i ∧ D.rt (.int i) H) := ps_weak (ps_ret he.pe) fun D σ H h => h
theorem ps_setI (i : Nat) {x : Str} {e : Expr} {f : RI} {pos pos' : Pos} (hN : X.N.Nodup) (he : PI X e f) (hi : X.N[i]? = some x := by rfl) (hx : Loc X.env.scope x := by first | exact Or.inl rfl | exact Or.inr rfl)
    (hs : swapsWith e (some (.Name x pos')) pos.line X.env = pure false := by rfl) (hf : X.fn x = true ∨ X.env.scope.names.lookup x = some .local := by first | exact .inl rfl | exact .inr rfl | assumption) :
    PS X (.Assign [.Name x pos'] e pos) (fun D σ H => ∃ v, f σ H v ∧ D.nx (σ.set i (some (.int v))) H) := ps_weak (ps_set hN hi hx he.pe hs hf) fun D σ H ⟨v, h1, h2⟩ => ⟨v, h1, h2⟩
end
/-! ### the draw -/
abbrev rBg (k : Int) : RI := fun σ H j => ∃ p xs, σ[0]? = some (some (.ref p)) ∧ H p = some (.lst xs) ∧ atI xs k = some (.int j)
abbrev rNm (i : Nat) : RI := fun σ _ j => σ[i]? = some (some (.int j))
abbrev rK (i : Int) : RI := fun _ _ k => k = i
abbrev rBin (C : Int → Int → Prop) (g : Int → Int → Int) (fa fb : RI) : RI := fun σ H k => ∃ i j, fa σ H i ∧ fb σ H j ∧ C i j ∧ k = g i j
abbrev rMul := rBin CMulW fun i j => i * j
abbrev rAdd := rBin (fun _ _ => True) fun i j => i + j
abbrev rMod := rBin (fun _ j => 0 < j) fun i j => i % j
def CDv (i j : Int) : Prop := 0 < j ∧ j.natAbs.log2 < 9000
theorem iop_div {X : Cx} : OpR X (binaryOp .FloorDiv) (rI CDv fun i j => .int (i / j)) := opr_weak op_fdivA fun x y H Q ⟨i, j, e1, e2, h, q⟩ => by
  refine ⟨i, j, e1, e2, ⟨by have := h.1; omega, h.2⟩, ?_⟩
  show Q (V.int (i.fdiv j)) H
  rw [Int.fdiv_eq_ediv_of_nonneg _ (Int.le_of_lt h.1)]
  exact q
abbrev rDiv := rBin CDv fun i j => i / j
abbrev rPow := rBin CPow fun i j => i ^ j.toNat
abbrev tIt (g : Int → Int → Bool) (fa fb : RI) : TT := fun σ H Q => ∃ i j, fa σ H i ∧ fb σ H j ∧ Q (g i j) H
abbrev tFull : TT := fun σ H Q => ∃ p xs q, ∃ cs : List Int, σ[0]? = some (some (.ref p)) ∧ H p = some (.lst xs) ∧ atI xs 0 = some (.ref q) ∧ H q = some (.lst (cs.map V.int)) ∧ ∀ H', (∀ a, H a ≠ none → H' a = H a) → Q (!cs.isEmpty) H'
abbrev tPut (k : Int) (f : RI) : TS := fun D σ H => ∃ v p xs j, f σ H v ∧ σ[0]? = some (some (.ref p)) ∧ H p = some (.lst xs) ∧ ixN xs.length k = some j ∧ D.nx σ (upd H p (.lst (xs.set j (.int v))))
abbrev tPopB : TS := fun D σ H => ∃ p xs q ys v, σ[0]? = some (some (.ref p)) ∧ H p = some (.lst xs) ∧ atI xs 0 = some (.ref q) ∧ H q = some (.lst ys) ∧ ys[ys.length - 1]? = some v ∧ D.nx (σ.set 2 (some v)) (upd H q (.lst ys.dropLast))
abbrev rIfI (g : Int → Int → Bool) (c1 c2 fa fb : RI) : RI := fun σ H i => ∃ k, (∃ x y, c1 σ H x ∧ c2 σ H y ∧ k = g x y) ∧ (if k = true then fa σ H i else fb σ H i)
abbrev tSetI (i : Nat) (f : RI) : TS := fun D σ H => ∃ v, f σ H v ∧ D.nx (σ.set i (some (.int v))) H
abbrev tRetI (f : RI) : TS := fun D σ H => ∃ i, f σ H i ∧ D.rt (.int i) H
abbrev gEqI (i j : Int) : Bool := decide (i = j)
abbrev gGtI (i j : Int) : Bool := decide (j < i)
def tDraw (a b q : Int) : TS :=
  tSeq (tWhile (tAnd (tIt gEqI (rBg 1) (rK 0)) tFull) (tSeq tPopB (tPut 1 (rIfI gGtI (rNm 2) (rPow (rK 10) (rK 9)) (rNm 2) (rK 0)))))
    (tSeq (tIfS (tIt gGtI (rBg 1) (rK 0)) (tSeq (tSetI 3 (rMod (rBg 1) (rNm 1))) (tSeq (tPut 1 (rDiv (rBg 1) (rNm 1))) (tRetI (rNm 3)))) tNext)
      (tSeq (tPut 2 (rMod (rAdd (rMul (rBg 2) (rK a)) (rK b)) (rK 2147483647))) (tRetI (rMod (rDiv (rMod (rMul (rBg 2) (rBg 2)) (rK 2147483629)) (rK q)) (rNm 1)))))
def spDraw : Spec := fun ss Q => ∃ n : Int, ss = [.bg, .sh (.int n)] ∧ 0 < n ∧ n.natAbs.log2 < 9000 ∧ ∀ r : Int, 0 ≤ r → r < n → Q (.int r)
/-! what the draw does -/
theorem BagW.keep {pb pc : Addr} {H H' : Hp} {cs : List Int} {d m : Int} (w : BagW pb pc H cs d m) (k : ∀ a, H a ≠ none → H' a = H a) : BagW pb pc H' cs d m :=
  ⟨w.ne, by rw [k _ (by rw [w.b]; exact fun z => nomatch z)]; exact w.b, by rw [k _ (by rw [w.c]; exact fun z => nomatch z)]; exact w.c, w.cs0, w.d0, w.m0, w.m1⟩
theorem BagW.put1 {pb pc : Addr} {H : Hp} {cs : List Int} {d m : Int} (w : BagW pb pc H cs d m) {e : Int} (he : 0 ≤ e) : BagW pb pc (upd H pb (.lst ([V.ref pc, .int d, .int m].set 1 (.int e)))) cs e m :=
  ⟨w.ne, upd_same, by rw [upd_ne (Ne.symm w.ne)]; exact w.c, w.cs0, he, w.m0, w.m1⟩
theorem BagW.put2 {pb pc : Addr} {H : Hp} {cs : List Int} {d m : Int} (w : BagW pb pc H cs d m) {e : Int} (he : 0 ≤ e) (h1 : e < 2147483647) : BagW pb pc (upd H pb (.lst ([V.ref pc, .int d, .int m].set 2 (.int e)))) cs d e :=
  ⟨w.ne, upd_same, by rw [upd_ne (Ne.symm w.ne)]; exact w.c, w.cs0, w.d0, he, h1⟩
theorem BagW.pop {pb pc : Addr} {H : Hp} {cs : List Int} {d m : Int} (w : BagW pb pc H cs d m) : BagW pb pc (upd H pc (.lst (cs.map V.int).dropLast)) cs.dropLast d m :=
  ⟨w.ne, by rw [upd_ne w.ne]; exact w.b, by rw [upd_same, List.map_dropLast], fun x hx => w.cs0 x (List.dropLast_subset _ hx), w.d0, w.m0, w.m1⟩
theorem getLast_at {cs : List Int} (h : cs ≠ []) : ∃ x ∈ cs, (cs.map V.int)[(cs.map V.int).length - 1]? = some (.int x) := by
  refine ⟨cs.getLast h, List.getLast_mem h, ?_⟩
  rw [List.length_map, List.getElem?_map, ← List.getLast?_eq_getElem?, List.getLast?_eq_getLast h]
  rfl
/-- between two states: only the bag's objects have changed, and new ones came -/
def BagTo (pb pc : Addr) (H H' : Hp) : Prop := ∀ a, a ≠ pb → a ≠ pc → H a ≠ none → H' a = H a
theorem BagTo.refl {pb pc : Addr} {H : Hp} : BagTo pb pc H H := fun _ _ _ _ => rfl
theorem BagTo.keep {pb pc : Addr} {H H1 H2 : Hp} (t : BagTo pb pc H H1) (k : ∀ a, H1 a ≠ none → H2 a = H1 a) : BagTo pb pc H H2 := fun a h1 h2 h3 => by
  have e := t a h1 h2 h3
  rw [k a (by rw [e]; exact h3), e]
theorem BagTo.pb {pb pc : Addr} {H H1 : Hp} {o : HO} (t : BagTo pb pc H H1) : BagTo pb pc H (upd H1 pb o) := fun a h1 h2 h3 => by rw [upd_ne h1]; exact t a h1 h2 h3
theorem BagTo.pc {pb pc : Addr} {H H1 : Hp} {o : HO} (t : BagTo pb pc H H1) : BagTo pb pc H (upd H1 pc o) := fun a h1 h2 h3 => by rw [upd_ne h2]; exact t a h1 h2 h3
theorem draw_run {a b q n : Int} {pb pc : Addr} {D : Ends} {σ : L2.St} {H : Hp} {cs : List Int} {d m : Int} (hq : 0 < q ∧ q < 1000) (ha : 0 ≤ a ∧ a < 4294967296) (hb : 0 ≤ b) (hn : 0 < n) (hn2 : n.natAbs.log2 < 9000)
    (w : BagW pb pc H cs d m) (h0 : σ[0]? = some (some (.ref pb))) (h1 : σ[1]? = some (some (.int n))) (hl : σ.length = 4)
    (h : ∀ r : Int, 0 ≤ r → r < n → ∀ H', BagTo pb pc H H' → (∃ cs d m, BagW pb pc H' cs d m) → D.rt (.int r) H') : tDraw a b q D σ H := by
  have ml : ∀ {x y : Int}, 0 ≤ x → x < 4294967296 → 0 ≤ y → y < 4294967296 → CMulW x y := fun {x y} g1 g2 g3 g4 =>
    wide_mul (a := 32) (b := 32) (by omega) (by omega) (by decide) (by decide) (by decide)
  refine ⟨fun k σ' H' => σ'[0]? = some (some (.ref pb)) ∧ σ'[1]? = some (some (.int n)) ∧ σ'.length = 4 ∧ BagTo pb pc H H' ∧ ∃ cs d m, BagW pb pc H' cs d m ∧ cs.length = k, ⟨cs.length, h0, h1, hl, BagTo.refl, cs, d, m, w, rfl⟩, ?_⟩
  rintro k σ1 H1 ⟨g0, g1, gl, gt, cs, d, m, w, rfl⟩
  -- what comes behind the loop
  have rest : ∀ {H2 : Hp} {cs : List Int} {d m : Int} {σ1 : L2.St}, σ1[0]? = some (some (.ref pb)) → σ1[1]? = some (some (.int n)) → σ1.length = 4 → BagTo pb pc H H2 → BagW pb pc H2 cs d m →
      (tSeq (tIfS (tIt gGtI (rBg 1) (rK 0)) (tSeq (tSetI 3 (rMod (rBg 1) (rNm 1))) (tSeq (tPut 1 (rDiv (rBg 1) (rNm 1))) (tRetI (rNm 3)))) tNext)
      (tSeq (tPut 2 (rMod (rAdd (rMul (rBg 2) (rK a)) (rK b)) (rK 2147483647))) (tRetI (rMod (rDiv (rMod (rMul (rBg 2) (rBg 2)) (rK 2147483629)) (rK q)) (rNm 1))))) D σ1 H2 := by
    intro H2 cs d m σ1 g0 g1 gl gt w
    have b1 : rBg 1 σ1 H2 d := ⟨pb, _, g0, w.b, rfl⟩
    have b2 : rBg 2 σ1 H2 m := ⟨pb, _, g0, w.b, rfl⟩
    refine ⟨d, 0, b1, rfl, ?_⟩
    by_cases hd : 0 < d
    · rw [show gGtI d 0 = true from decide_eq_true hd]; dsimp only; rw [if_pos rfl]
      have r0 := Int.emod_nonneg d (Int.ne_of_gt hn)
      have r1 := Int.emod_lt_of_pos d hn
      refine ⟨d % n, ⟨d, n, b1, g1, hn, rfl⟩, ?_⟩
      have s0 : (σ1.set 3 (some (.int (d % n))))[0]? = some (some (.ref pb)) := by rw [List.getElem?_set_ne (by decide)]; exact g0
      have s1 : (σ1.set 3 (some (.int (d % n))))[1]? = some (some (.int n)) := by rw [List.getElem?_set_ne (by decide)]; exact g1
      refine ⟨d / n, pb, _, 1, ⟨d, n, ⟨pb, _, s0, w.b, rfl⟩, s1, ⟨hn, hn2⟩, rfl⟩, s0, w.b, rfl, ?_⟩
      refine ⟨d % n, ?_, h _ r0 r1 _ gt.pb ⟨cs, _, _, w.put1 (Int.ediv_nonneg w.d0 (Int.le_of_lt hn))⟩⟩
      show (σ1.set 3 (some (.int (d % n))))[3]? = _
      rw [List.getElem?_set_self (by omega)]
    · rw [show gGtI d 0 = false from decide_eq_false hd]; dsimp only; rw [if_neg (by decide)]
      have m0 := w.m0
      have m1 := w.m1
      have n0 := Int.emod_nonneg (m * a + b) (b := 2147483647) (by decide)
      have n1 := Int.emod_lt_of_pos (m * a + b) (b := 2147483647) (by decide)
      refine ⟨(m * a + b) % 2147483647, pb, _, 2, ⟨_, _, ⟨m * a, b, ⟨m, a, b2, rfl, ml m0 (by omega) ha.1 ha.2, rfl⟩, rfl, trivial, rfl⟩, rfl, show (0 : Int) < 2147483647 by decide, rfl⟩, g0, w.b, rfl, ?_⟩
      have w2 := w.put2 n0 n1
      generalize (m * a + b) % 2147483647 = z at n0 n1 w2
      have b3 : rBg 2 σ1 (upd H2 pb (.lst ([V.ref pc, .int d, .int m].set 2 (.int z)))) z := ⟨pb, _, g0, w2.b, rfl⟩
      have q0 : (0 : Int) < q := hq.1
      refine ⟨z * z % 2147483629 / q % n, ⟨_, n, ⟨_, q, ⟨_, _, ⟨z, z, b3, b3, ml n0 (by omega) n0 (by omega), rfl⟩, rfl, show (0 : Int) < 2147483629 by decide, rfl⟩, rfl, ⟨q0, ?_⟩, rfl⟩, g1, hn, rfl⟩, ?_⟩
      · have : q.natAbs < 2 ^ 10 := by omega
        by_cases z0 : q.natAbs = 0
        · rw [z0]; decide
        · exact Nat.lt_trans ((Nat.log2_lt z0).mpr this) (by decide)
      · exact h _ (Int.emod_nonneg _ (Int.ne_of_gt hn)) (Int.emod_lt_of_pos _ hn) _ gt.pb ⟨_, _, _, w2⟩
  refine ⟨d, 0, ⟨pb, _, g0, w.b, rfl⟩, rfl, ?_⟩
  by_cases hd : d = 0
  · rw [show gEqI d 0 = true from decide_eq_true hd]; dsimp only; rw [if_pos rfl]
    refine ⟨pb, _, pc, cs, g0, w.b, rfl, w.c, fun H2 k2 => ?_⟩
    have w2 := w.keep k2
    by_cases hc : cs = []
    · subst hc
      exact rest g0 g1 gl (gt.keep k2) w2
    · rw [show (!cs.isEmpty) = true by cases cs <;> first | exact absurd rfl hc | rfl]; dsimp only; rw [if_pos rfl]
      refine ⟨fun σ' H' => σ'[0]? = some (some (.ref pb)) ∧ σ'[1]? = some (some (.int n)) ∧ σ'.length = 4 ∧ BagTo pb pc H H' ∧ ∃ cs' d m, BagW pb pc H' cs' d m ∧ cs'.length < cs.length, fun σ' H' ⟨a0, a1, a2, a3, cs', d', m', a4, a5⟩ => ⟨_, a5, a0, a1, a2, a3, cs', d', m', a4, rfl⟩, ?_⟩
      obtain ⟨x, hx, hx2⟩ := getLast_at hc
      refine ⟨pb, _, pc, _, .int x, g0, w2.b, rfl, w2.c, hx2, ?_⟩
      have s0 : (σ1.set 2 (some (.int x)))[0]? = some (some (.ref pb)) := by rw [List.getElem?_set_ne (by decide)]; exact g0
      have s1 : (σ1.set 2 (some (.int x)))[1]? = some (some (.int n)) := by rw [List.getElem?_set_ne (by decide)]; exact g1
      have s2 : (σ1.set 2 (some (.int x)))[2]? = some (some (.int x)) := List.getElem?_set_self (by omega)
      have w3 := w2.pop
      have x0 := w2.cs0 x hx
      have len : cs.dropLast.length < cs.length := by
        rw [List.length_dropLast]
        have : 0 < cs.length := List.length_pos_iff.mpr hc
        omega
      refine ⟨if 10 ^ (9 : Int).toNat < x then x else 0, pb, _, 1, ⟨gGtI x (10 ^ (9 : Int).toNat), ⟨x, _, s2, ⟨10, 9, rfl, rfl, ⟨by decide, by decide, by decide⟩, rfl⟩, rfl⟩, ?_⟩, s0, w3.b, rfl, s0, s1, by rw [List.length_set]; exact gl, (gt.keep k2).pc.pb, _, _, _, w3.put1 ?_, len⟩
      · unfold gGtI
        by_cases e : (10 : Int) ^ (9 : Int).toNat < x
        · rw [decide_eq_true e, if_pos rfl, if_pos e]; exact s2
        · rw [decide_eq_false e, if_neg (by decide), if_neg e]
      · split
        · exact x0
        · exact Int.le_refl 0
  · rw [show gEqI d 0 = false from decide_eq_false hd]; dsimp only; rw [if_neg (by decide)]
    exact rest g0 g1 gl gt w
theorem BagTo.gr {c : C} {B H H' : Hp} {pb pc : Addr} (w : Wd c B H) (hc : c.toBg = lstBag pb pc) (t : BagTo pb pc H H') (k : ∃ cs d m, BagW pb pc H' cs d m) : Gr c B H B H' := by
  have hm : ∀ a, c.isBag a ↔ (a = pb ∨ a = pc) := fun a => by
    unfold C.isBag
    rw [hc]; exact Iff.rfl
  have hok : c.ok H' := by rw [hc]; exact k
  refine ⟨Evl.Ex.refl B, fun a o n e => ?_, fun _ _ => rfl, fun a o e => ?_, w.bag.out, fun a ha => ?_, hok⟩
  · rw [t a (fun z => n ((hm a).mpr (.inl z))) (fun z => n ((hm a).mpr (.inr z))) (by rw [e]; exact fun z => nomatch z)]; exact e
  · have n := w.nb e
    have e' := w.sub a o e
    rw [t a (fun z => n ((hm a).mpr (.inl z))) (fun z => n ((hm a).mpr (.inr z))) (by rw [e']; exact fun z => nomatch z)]; exact e'
  · obtain ⟨cs, d, m, v⟩ := k
    rcases (hm a).mp ha with z | z
    · rw [z, v.b]; exact fun q => nomatch q
    · rw [z, v.c]; exact fun q => nomatch q
def gDraw : SS := fun D ρ => ∃ n : Int, ρ = [.bg, .sh (.int n), .un, .un] ∧ 0 < n ∧ n.natAbs.log2 < 9000 ∧ ∀ r : Int, 0 ≤ r → r < n → D.rt (.int r)
theorem mono_Draw : MonoS gDraw := fun D D' ρ l ⟨n, h1, h2, h3, h4⟩ => ⟨n, h1, h2, h3, fun r a b => l.rt _ (h4 r a b)⟩
theorem draw_ss {X : Cx} {c : C} {sts : List Stmt} {a b q : Int} (hG : IsLst c) (hq : 0 < q ∧ q < 1000) (ha : 0 ≤ a ∧ a < 4294967296) (hb : 0 ≤ b) (h : PSs X sts (tDraw a b q)) : PSsd X c sts gDraw := by
  obtain ⟨pb, pc, hc⟩ := hG
  refine ⟨mono_Draw, pss_weak h fun D σ H ⟨B, ρ, ok, n, e1, h2, h3, h4⟩ => ?_⟩
  subst e1
  have s0 : SlOk c B H σ 0 .bg := ok.sl 0 _ rfl
  obtain ⟨v, s1, s2⟩ : SlOk c B H σ 1 (.sh (.int n)) := ok.sl 1 _ rfl
  rw [rp_int s2] at s1
  have s0' : σ[0]? = some (some (.ref c.pb)) := s0
  have hp : c.pb = pb := by
    have : c.toBg.pb = (lstBag pb pc).pb := by rw [hc]
    exact this
  rw [hp] at s0'
  have okk : c.ok H := ok.w.bag.ok
  rw [hc] at okk
  obtain ⟨cs, d, m, w⟩ : ∃ cs d m, BagW pb pc H cs d m := okk
  exact draw_run hq ha hb h2 h3 w s0' s1 (by rw [← ok.len]; rfl) fun r r0 r1 H' t k => h4 r r0 r1 _ B H' (ok.g.trans ok.w0 (t.gr ok.w hc k)) (.int r)
theorem spDraw_mono : ∀ ss (Q Q' : D → Prop), (∀ d, Q d → Q' d) → spDraw ss Q → spDraw ss Q' := fun ss Q Q' k ⟨n, h1, h2, h3, h4⟩ => ⟨n, h1, h2, h3, fun r a b => k _ (h4 r a b)⟩
theorem spDraw_len : ∀ ss Q, spDraw ss Q → ss.length = 2 := fun ss Q ⟨n, h1, _⟩ => by rw [h1]; rfl
theorem spDraw_go {N : List Str} (hN : N.length = 4) : ∀ ss (Q : D → Prop), spDraw ss Q → gDraw (endsOf Q) (initE N ss) := fun ss Q ⟨n, h1, h2, h3, h4⟩ => ⟨n, by
  subst h1
  unfold initE
  rw [hN]; rfl, h2, h3, h4⟩
end DL
namespace DL
open PySem L2 PyProof.Rows
/-! ### the script, cut -/
def GOwn (K : PySem.W.Frag) (c : C) : Prop := ∃ ns : List Int, ns.length ≤ most ∧ SqL K c.H0 c.pb (ns.map V.int) ∧ ∀ a, ¬ c.isBag a
theorem sql_up {K : PySem.W.Frag} {H H' : Hp} {a : Addr} {xs : List V} (k : ∀ a o, H a = some o → H' a = some o) (h : SqL K H a xs) : SqL K H' a xs := by
  rcases h with h | h
  · rcases h with h | ⟨ob, h⟩
    · exact .inl (.inl (k _ _ h))
    · exact .inl (.inr ⟨ob, k _ _ h⟩)
  · exact .inr h
theorem cut_map {α β : Type} (f : α → β) (ns : List α) (lo hi : Option Int) : ∃ ms : List α, ms.length ≤ ns.length ∧ (((ns.map f).drop (HT.sIx (ns.map f).length 0 lo)).take (HT.sIx (ns.map f).length (ns.map f).length hi - HT.sIx (ns.map f).length 0 lo)) = ms.map f :=
  ⟨(ns.drop (HT.sIx (ns.map f).length 0 lo)).take (HT.sIx (ns.map f).length (ns.map f).length hi - HT.sIx (ns.map f).length 0 lo), by rw [List.length_take, List.length_drop]; omega, by rw [List.map_take, List.map_drop]⟩
/-- script[a:b] -/
def fScr : SL := fun ρ Q => lk ρ 0 = .bg ∧ ∀ ms : List Int, ms.length ≤ most → Q (ms.map PyData.int)
theorem n_script {X : Cx} {c : C} {x : Str} {p1 p2 pos : Pos} {lo hi : Option Expr} {l h : Option Int} (hG : GOwn X.K c) (hl : POd X c lo fun _ Q => Q l) (hh : POd X c hi fun _ Q => Q h) (hN : X.N[0]? = some x := by rfl) (hv : Vis X.env.scope x := by first | exact Or.inl rfl | exact Or.inr (Or.inl rfl) | exact Or.inr (Or.inr rfl))
    (hd : (x == ("__debug__" : Str)) = false := by decide) (hcd : (x == ("__classdict__" : Str)) = false := by decide) : PN X c (.Subscript (.Name x p1) (.Slice lo hi none p2) pos) fScr := by
  obtain ⟨ns, hl0, hS, hno⟩ := hG
  refine ⟨fun ρ Q Q' k ⟨h1, h2⟩ => ⟨h1, fun ms hm => k _ (h2 ms hm)⟩, pe_weak (pe_slice sl_list (pe_var hN hv hd hcd) hl.po hh.po) fun σ H Q ⟨B, ρ, ok, e, q⟩ => ?_⟩
  have s0 : SlOk c B H σ 0 .bg := ok.sl 0 _ (lk_get e fun z => nomatch z)
  refine ⟨.ref c.pb, s0, B, ρ, ok, fun B1 H1 g1 => ⟨B1, ρ, ok.mono g1, fun B2 H2 g2 => ?_⟩⟩
  have g := g1.trans ok.w g2
  have S2 : SqL X.K H2 c.pb (ns.map V.int) := sql_up (fun a o e => g.h a o (hno a) (ok.g.h a o (hno a) e)) hS
  refine ⟨c.pb, _, rfl, S2, fun t ht => ?_⟩
  obtain ⟨ms, hml, hm⟩ := cut_map V.int ns l h
  have e2 : cutV (ns.map V.int) l h = ms.map V.int := hm
  have g3 := Gr.newO (o := .lst (cutV (ns.map V.int) l h)) g.w ht
  refine q ms (Nat.le_trans hml hl0) t _ B2 _ (g.trans ok.w g3) (g.back ht) (Evl.fresh_back g.w.sub ht) upd_same ?_
  rw [e2]; exact rpa_of_ints ms
end DL
namespace DL
open PySem L2 PySem.Spec PyProof.Rows
/-- try: a body that raises nothing -/
theorem s_tryN {X : Cx} {c : C} {body : List Stmt} {h : ExceptHandler} {hs : List ExceptHandler} {f : SS} {pos : Pos} (hn : ∀ e s, ¬ X.xe e s) (hb : PSsd X c body f) : PSd X c (.Try body (h :: hs) [] [] pos) f :=
  ⟨hb.mono, ps_weak (ps_try_never (u := tNext) hn hb.ps pss_nil) fun D σ H q => q⟩
/-! ### the bag is made -/
def spOwn : Spec := fun ss Q => ss = [.bg] ∧ ∀ (cs : List Int) (m : Int), (∀ x ∈ cs, 0 ≤ x) → 0 ≤ m → m < 2147483647 → Q (.list [.list (cs.map PyData.int), .int 0, .int m])
theorem spOwn_mono : ∀ ss (Q Q' : D → Prop), (∀ d, Q d → Q' d) → spOwn ss Q → spOwn ss Q' := fun ss Q Q' k ⟨h1, h2⟩ => ⟨h1, fun cs m a b e => k _ (h2 cs m a b e)⟩
theorem spOwn_len : ∀ ss Q, spOwn ss Q → ss.length = 1 := fun ss Q ⟨h, _⟩ => by rw [h]; rfl
theorem bag_of {B H : Hp} {v : V} {cs : List Int} {m : Int} (x : Ex B H) (r : Rp B v (.list [.list (cs.map PyData.int), .int 0, .int m])) (h1 : ∀ x ∈ cs, 0 ≤ x) (h2 : 0 ≤ m) (h3 : m < 2147483647) : ∃ pb pc, v = .ref pb ∧ BagW pb pc H cs 0 m := by
  obtain ⟨pb, xs, rfl, e1, r1⟩ := rp_lst r
  cases r1 with
  | cons r1 r2 =>
    cases r2 with
    | cons r2 r3 =>
      cases r3 with
      | cons r3 r4 =>
        cases r4
        obtain ⟨pc, ys, rfl, e2, r5⟩ := rp_lst r1
        have e3 := rp_int r2
        have e4 := rp_int r3
        subst e3 e4
        have e5 := rpa_ints r5
        subst e5
        refine ⟨pb, pc, rfl, fun z => ?_, x _ _ e1, x _ _ e2, h1, Int.le_refl 0, h2, h3⟩
        subst z
        rw [e1] at e2
        cases cs with
        | nil => cases e2
        | cons c cs => cases e2
section
variable {X : Cx} {k : Nat} {f : Addr} {fd : FuncData} {ps : List Str}
def tOwn (K : PySem.W.Frag) : TE := fun σ H Q => ∃ a, ∃ ns : List Int, σ[0]? = some (some (.ref a)) ∧ ns.length ≤ most ∧ SqL K H a (ns.map V.int) ∧ ∀ pb pc cs m H', BagW pb pc H' cs 0 m → Q (.ref pb) H'
theorem pe_own {x y : Str} {p p1 pos : Pos} {ps : List Str} (F : FnG (GOwn X.K) X.prog X.w X.K X.mg X.base k f fd ps spOwn) (hgd : X.A.guards = some []) (hr : Room k X.A) (hm : X.mg x = some (.ref f)) (hk : PySem.W.keepIn X.K (.ref f) = true) (hb : Binds X.K fd ps [])
    (hN : X.N[0]? = some y := by rfl) (hv : Vis X.env.scope y := by first | exact Or.inl rfl | exact Or.inr (Or.inl rfl) | exact Or.inr (Or.inr rfl)) (hd : (y == ("__debug__" : Str)) = false := by decide) (hcd : (y == ("__classdict__" : Str)) = false := by decide)
    (hg : Gl X x := by rfl) (hdb : (x == ("__debug__" : Str)) = false := by decide) (he : starEach [.Name y p1] X.env = (false, eval (.Name y p1) X.env) :: starEach [] X.env := by rfl) (hpl : (backTo pos (starEach [] X.env)).any (·.1) = false := by rfl) :
    PE X (.Call (.Name x p) [.Name y p1] [] pos) (tOwn X.K) := by
  refine ⟨fun pins s σ H Q I ⟨a, ns, h0, hl0, hS, q⟩ => wpAny_Call_Name_kw (ld_glob I hg hm (PySem.W.callWith_K (h₀ := X.base) I.ok.mod.kin hk (wpAny_mono ((pa_cons (pe_var hN hv hd hcd) pa_nil he).run pos pins s σ H (fun vs H1 => vs = [.ref a] ∧ H1 = H) I ⟨_, h0, rfl, rfl⟩) (fun us s1 hv => ?_) fun _ _ z => z) he hpl) hdb)⟩
  obtain ⟨vs, H1, I1, rv, e1, e2⟩ := hv
  subst e1 e2
  refine ⟨I1.kIn, wpAny_call ?_⟩
  have hl : us.length = ps.length := by
    rw [← rv.length]
    exact (F.len [.bg] (fun _ => True) ⟨rfl, fun _ _ _ _ _ => trivial⟩)
  have hbb := hb s1 us I1.kIn (by rw [List.append_nil]; exact hl)
  rw [List.append_nil] at hbb
  refine run_fng F hgd hr I1 hbb rv ⟨{ toBg := noBag a, B0 := fun _ => none, H0 := H1 }, ⟨ns, hl0, hS, fun _ z => z⟩, rfl, ⟨(fun _ _ z => nomatch z), ⟨fun _ z => z.elim, fun _ z => z.elim, trivial⟩⟩, [.bg], ⟨rfl, trivial⟩, rfl, fun cs m a1 a2 a3 v B' H' g r => ?_⟩
  obtain ⟨pb, pc, e, w⟩ := bag_of g.w.sub r a1 a2 a3
  subst e
  exact q pb pc cs m H' w
end
/-- the law's body: the bag, then the rest -/
def gLaw (n : Nat) (g : SS) : Prop := g ⟨fun _ => False, fun d => d = .bool true, fun _ => False, fun _ => False⟩ (.un :: .bg :: List.replicate n .un)
theorem law_ss {X : Cx} {st : Stmt} {rest : List Stmt} {g : SS} {n : Nat} (h0 : PS X st (tAsg (tOwn X.K) (gName 1))) (h : ∀ c, IsLst c → PSsd X c rest g) (hg : gLaw n g) :
    PSs X (st :: rest) (fun D σ H => (∀ H', D.rt (.bl true) H') ∧ ∃ a, ∃ ns : List Int, σ = some (.ref a) :: List.replicate (n + 1) none ∧ ns.length ≤ most ∧ SqL X.K H a (ns.map V.int)) := by
  refine ⟨fun pins s σ H D I ⟨k, a, ns, e, hl0, hS⟩ => ?_⟩
  subst e
  have hr : PSs X rest (fun D σ H => (∀ H', D.rt (.bl true) H') ∧ ∃ pb pc cs m, BagW pb pc H cs 0 m ∧ σ[1]? = some (some (.ref pb)) ∧ σ.length = n + 2) := by
    refine ⟨fun pins s σ H D I ⟨k, pb, pc, cs, m, w, e1, e2⟩ => ?_⟩
    let c : C := { toBg := lstBag pb pc, B0 := fun _ => none, H0 := H }
    have hw : Wd c c.B0 H := ⟨(fun _ _ z => nomatch z), (fun _ _ => rfl), fun a ha => by
      rcases ha with z | z
      · rw [z, w.b]; exact fun q => nomatch q
      · rw [z, w.c]; exact (fun q => nomatch q), ⟨cs, 0, m, w⟩⟩
    refine (h c ⟨pb, pc, rfl⟩).ps.run pins s σ H D I ⟨c.B0, .un :: .bg :: List.replicate n .un, ⟨hw, hw, Gr.refl hw, by simp [e2], fun i s hi => ?_, fun i j p ds es _ hi _ _ => ?_⟩, (h c ⟨pb, pc, rfl⟩).mono _ _ _ ⟨fun _ z => False.elim z, fun d hd v B' H' g r => ?_, fun _ z => False.elim z, fun _ z => False.elim z⟩ hg⟩
    · match i with
      | 0 => cases hi; trivial
      | 1 => cases hi; exact e1
      | i + 2 =>
        simp only [List.getElem?_cons_succ, List.getElem?_replicate] at hi
        split at hi
        · cases hi; trivial
        · cases hi
    · match i with
      | 0 => cases hi
      | 1 => cases hi
      | i + 2 =>
        simp only [List.getElem?_cons_succ, List.getElem?_replicate] at hi
        split at hi <;> cases hi
    · subst hd
      rw [rp_bl r]; exact k H'
  exact (pss_cons h0 hr).run pins s _ H D I ⟨a, ns, rfl, hl0, hS, fun pb pc cs m H' w => ⟨k, pb, pc, cs, m, w, rfl, by simp⟩⟩
/-- the law's own promise: at the law's call, the guards empty -/
structure FnL (P : Program) (w : World) (K : PySem.W.Frag) (mg : Str → Option Value) (base : Heap) (f : Addr) : Prop where
  run : ∀ (s : Shared) (H : Hp) (a : Addr) (ns : List Int), Env0 P w K mg base callerA [] s H → ns.length ≤ most → SqL K H a (ns.map V.int) →
    codeAny (model P w) callerA (.call (.ref f) ⟨[.ref a], []⟩) (CR CX0 [] P w H s (fun v _ => v = .bl true) E0) s
theorem fnl_of {P : Program} {w : World} {K : PySem.W.Frag} {mg : Str → Option Value} {base : Heap} {x qual : Str} {st : Stmt} {f : Addr} {fd : FuncData} {y : Str} {N : List Str} {n k : Nat} (F : Fun K x qual st f fd) (sc : FnScope N [y] (defScope st)) (hN : N.length = n + 2) (hr : Room (k + 1) callerA)
    (body : ∀ (cdv : Value) (s : Shared) (H : Hp), Room k (callerA.deeper (envOfC qual (defScope st) s.heap.objs.size f cdv)) →
      PSs (cxOf CX0 P w K mg base N qual (defScope st) f cdv callerA [] s H E0).nox (defBody st) (fun D σ H => (∀ H', D.rt (.bl true) H') ∧ ∃ a, ∃ ns : List Int, σ = some (.ref a) :: List.replicate (n + 1) none ∧ ns.length ≤ most ∧ SqL K H a (ns.map V.int)))
    (hbind : ∀ (s : Shared) (u : Value), BindsTo s fd ⟨[u], []⟩ [(y, u)]) : FnL P w K mg base f := by
  obtain ⟨oc, od, kV, doc, pm, an, cdv, ct, osl, rfl, lk', hcd⟩ := F.ex
  refine ⟨fun s H a ns e0 hl0 hS => ?_⟩
  have stands : ∀ b o, base.get? b = some o → s.heap.get? b = some o := fun b o z => (e0.bs b o z).1
  have inK : K.In s.heap := e0.mod.kin.keeps stands
  have r : Vals [V.ref a] [Value.ref a] := .cons rfl .nil
  refine codeAny_call_function hr.depth (inK _ _ lk') rfl sc.co sc.gen rfl (PySem.W.codeRec_of inK hcd) ((hbind s (.ref a)) _ _ _ _ (wpAny_newFunctionEnv_cells sc.kind ?_ ?_))
  · rintro ⟨m, v⟩ hy
    have hm : m ∈ [y] := by
      rw [List.mem_singleton] at hy
      cases hy
      exact List.mem_singleton.mpr rfl
    exact (sc.par m hm).elim .inl fun q => .inr ⟨q, PySem.W.cellsFrom_some _ _ _ (.inl q)⟩
  · intro env he s1 hx
    subst he
    refine ⟨(e0.mod.nolimit.keeps stands).keeps hx.toInCall.keep, codeAny_func ?_⟩
    have I := inv_start (CX := CX0) (E := E0) (qual := qual) (vs := [V.ref a]) (us := [Value.ref a]) sc hr.hd e0 rfl r hx
    have go := (body cdv s H (hr.deeper _)).nox.run [] s1 (L2.start N [V.ref a]) H { nx := fun _ _ => False, rt := fun v _ => v = .bl true } I ⟨fun _ => rfl, a, ns, ?_, hl0, hS⟩
    · refine wpAny_mono go (fun fl s' hs => ?_) fun _ _ z => z
      cases fl with
      | ret u =>
        obtain ⟨v, σ', H', J, rv, q⟩ := hs
        exact ⟨v, H', J.os, J.bare, J.base, J.hok, rv, q⟩
      | next =>
        obtain ⟨σ', H', J, q⟩ := hs
        exact q.elim
      | brk => exact hs.elim fun _ z => z.elim fun _ y => y.2.elim
      | cont => exact hs.elim fun _ z => z.elim fun _ y => y.2.elim
    · unfold L2.start
      rw [hN]
      simp only [List.map_cons, List.map_nil, List.length_cons, List.length_nil]
      rfl
end DL
namespace DL
open PySem L2 PySem.Spec PyProof.Rows
/-- the state at the law's call: the script alone is tracked, or nothing is -/
structure Call0 (P : Program) (w : World) (K : PySem.W.Frag) (s : Shared) (a : Addr) (ns : List Int) (H : Hp) : Prop where
  only : Only H
  sql : SqL K H a (ns.map V.int)
  hok : HOk P w H s.heap
  just : ∀ b, b ≠ a → H b = none
  free : H a ≠ none → K.lookup a = none
theorem call0 {P : Program} {w : World} {K : PySem.W.Frag} {s : Shared} {a : Addr} {vs : List Value} {ns : List Int} (inK : K.In s.heap) (ha : s.heap.get? a = some { cls := .type "list", data := .seq vs.toArray }) (hi : IntsAre vs ns) (hl : ns.length ≤ sizeLine) : ∃ H, Call0 P w K s a ns H := by
  have vv := vals_ints hi
  cases hk : K.lookup a with
  | some ob =>
    have e := inK a ob hk
    rw [ha] at e
    cases e
    refine ⟨fun _ => none, fun _ => .inl rfl, .inr ⟨_, vs.toArray, _, hk, rfl, rfl, rfl, ?_, by simpa using vv⟩, fun b u z => ?_, fun _ _ => rfl, fun z => absurd rfl z⟩
    · rw [List.size_toArray, hi.length]; exact hl
    · exact nomatch (show (none : Option HO) = some u from z)
  | none =>
    have at_ : ∀ {b : Addr}, b = a → (if b = a then some (HO.frz { cls := .type "list", data := .seq vs.toArray } (.lst (ns.map V.int))) else none) = some (HO.frz { cls := .type "list", data := .seq vs.toArray } (.lst (ns.map V.int))) := fun e => if_pos e
    have off : ∀ {b : Addr}, b ≠ a → (if b = a then some (HO.frz { cls := .type "list", data := .seq vs.toArray } (.lst (ns.map V.int))) else none) = none := fun e => if_neg e
    refine ⟨fun b => if b = a then some (.frz { cls := .type "list", data := .seq vs.toArray } (.lst (ns.map V.int))) else none, fun b => ?_, .inl (.inr ⟨_, at_ rfl⟩), fun b u z => ?_, fun b e => off e, fun _ => hk⟩
    · by_cases e : b = a
      · exact .inr ⟨_, _, at_ e⟩
      · exact .inl (off e)
    · by_cases e : b = a
      · have z1 := (at_ e).symm.trans z
        cases z1
        subst e
        exact ⟨ha, by rw [List.length_map]; exact hl, vs, _, vv, ha⟩
      · exact nomatch ((off e).symm.trans z)
theorem law_run {P : Program} {w : World} {K : PySem.W.Frag} {mg mb : Str → Option Value} {f a : Addr} {s : Shared} {vs : List Value} {ns : List Int}
    (inK : K.In s.heap) (gl : s.heap.Ns mainGlobals mg) (bn : s.heap.Ns builtinsNs mb) (bb : ∀ x : Str, x ≠ "__name__" → mb x = bootBuiltins x) (lim : s.heap.NoLimit) (gn : s.gens = #[])
    (ha : s.heap.get? a = some { cls := .type "list", data := .seq vs.toArray }) (hi : IntsAre vs ns) (hm : ns.length ≤ most) (F : ∀ base : Heap, K.In base → base.Ns mainGlobals mg → FnL P w K mg base f) :
    codeAny (model P w) callerA (.call (.ref f) ⟨[.ref a], []⟩) (fun r s' => r = .ok (.ret (.bool true)) ∧ OldK s.heap s'.heap ∧ s'.os = s.os ∧ AllBare s'.gens) s := by
  obtain ⟨H, c⟩ := call0 (P := P) (w := w) inK ha hi (most_le hm)
  have hid : ∀ {b : Addr} {ob : Obj}, s.heap.get? b = some ob → H b = none → (hidT s.heap H).get? b = some ob := fun e n => hidT_get e n
  have there : ∀ {b : Addr} {ob : Obj}, b ≠ a → s.heap.get? b = some ob → (hidT s.heap H).get? b = some ob := fun ne e => hid e (c.just _ ne)
  have ns_ : ∀ {b : Addr} {m : Str → Option Value}, s.heap.Ns b m → (hidT s.heap H).Ns b m := fun {b m} ⟨ob, es, ep, e, d, r⟩ => by
    refine ⟨ob, es, ep, there (fun z => ?_) e, d, r⟩
    subst z
    rw [ha] at e
    cases e
    exact nomatch (show Data.seq vs.toArray _ = Data.dict es ep from d)
  have inB : K.In (hidT s.heap H) := fun b ob e => hid (inK b ob e) (by
    by_cases z : b = a
    · subst z
      cases q : H b with
      | none => rfl
      | some u => rw [c.free (by rw [q]; exact fun z => nomatch z)] at e; cases e
    · exact c.just b z)
  have env : Env0 P w K mg (hidT s.heap H) callerA [] s H :=
    ⟨rfl, ⟨inB, ns_ gl, ⟨mb, ns_ bn, bb⟩, lim.elim fun mc h => ⟨mc, ns_ h.1, h.2⟩⟩, fun b ob e => of_hidT e, Nat.le_of_eq (hidT_size _ _), trivial, (fun b hb => absurd (show b ∈ ([] : List Addr) from hb) (by simp)), c.hok, .of_eq gn⟩
  refine codeAny_mono ((F _ inB (ns_ gl)).run s H a ns env hm c.sql) fun r s' hh => ?_
  cases r with
  | error e => exact hh.elim
  | ok fl =>
    cases fl with
    | ret u =>
      obtain ⟨v, H', hos, bare, un, hok', rv, e⟩ := hh
      subst e
      have e2 : u = Value.bool true := rv
      subst e2
      refine ⟨rfl, OldK.of_keep fun b ob e => ?_, hos, bare⟩
      cases q : H b with
      | none => exact un.keep b ob e q (fun z => absurd (show b ∈ ([] : List Addr) from z) (by simp)) (by simp)
      | some u =>
        rcases c.only b with z | ⟨ox, xs, z⟩
        · rw [q] at z; cases z
        · have old := (c.hok b _ z).1
          rw [e] at old
          cases old
          exact (hok' b _ (un.frzs b _ _ z)).1
    | next => exact hh.elim
    | brk => exact hh.elim
    | cont => exact hh.elim
theorem walk_law {l : PySem.W.OpenLaw} {n : Nat} {q : Program} {loose : List Str} {XP : (Str → Option Value) → Heap → Prop} {YP : World → Heap → Prop} {d : DefRec} (hn : l.most = some n) (hn2 : n ≤ most) (hdf : d.params.defaults = [])
    (F : ∀ (w : World) (mg : Str → Option Value) (f : Addr) (h : Heap), YP w h → h.Ns mainGlobals mg → mg d.name = some (.ref f) → ∃ K : PySem.W.Frag, K.In h ∧ ∀ base : Heap, K.In base → base.Ns mainGlobals mg → FnL l.prog w K mg base f) :
    PySem.W.WalkO q loose XP YP l.row.toRowW d [] (fun f vs => PySem.call f vs) := by
  refine Att.attach_call hn hdf fun w s₀ s mg mb f ob pm cd doc a vs ns G Y _ _ _ hmg hobj hints hlen hg => ?_
  obtain ⟨K, inK, hF⟩ := F w mg f _ Y G.T.g hmg
  exact law_run inK G.T.g G.T.b G.T.builtins G.T.nolimit hg hobj hints (Nat.le_trans hlen hn2) hF
end DL
namespace DL
open PySem L2 PySem.Spec PyProof.Rows
/-- a def known by its name -/
def Kn (P : Program) (w : World) (K : PySem.W.Frag) (mg : Str → Option Value) (base : Heap) (k : Nat) (x : Str) (ps : List Str) (S : Spec) : Prop :=
  ∃ f fd, FnG IsLst P w K mg base k f fd ps S ∧ mg x = some (.ref f) ∧ PySem.W.keepIn K (.ref f) = true ∧ Binds K fd ps []
def KnK (P : Program) (w : World) (K : PySem.W.Frag) (mg : Str → Option Value) (base : Heap) (k : Nat) (x : Str) (ps ks : List Str) (is : List Nat) (S : Spec) : Prop :=
  ∃ f fd, FnG IsLst P w K mg base k f fd ps S ∧ mg x = some (.ref f) ∧ PySem.W.keepIn K (.ref f) = true ∧ KwB K fd ps ks is
theorem Kn.up {P : Program} {w : World} {K : PySem.W.Frag} {mg : Str → Option Value} {base : Heap} {j k : Nat} {x : Str} {ps : List Str} {S : Spec} (h : Kn P w K mg base j x ps S) (l : j ≤ k) : Kn P w K mg base k x ps S :=
  let ⟨f, fd, h1, h2⟩ := h
  ⟨f, fd, h1.up l, h2⟩
theorem KnK.up {P : Program} {w : World} {K : PySem.W.Frag} {mg : Str → Option Value} {base : Heap} {j k : Nat} {x : Str} {ps ks : List Str} {is : List Nat} {S : Spec} (h : KnK P w K mg base j x ps ks is S) (l : j ≤ k) : KnK P w K mg base k x ps ks is S :=
  let ⟨f, fd, h1, h2⟩ := h
  ⟨f, fd, h1.up l, h2⟩
section
variable {X : Cx} {c : C} {k : Nat} {ps : List Str} {S : Spec}
theorem v_callX {x : Str} {p pos : Pos} {e : Expr} {es : List Expr} {fa : SA} (F : Kn X.prog X.w X.K X.mg X.base k x ps S) (hG : IsLst c) (hgd : X.A.guards = some []) (hr : Room k X.A) (ha : PAd X c (e :: es) fa)
    (hg : Gl X x := by rfl) (hdb : (x == ("__debug__" : Str)) = false := by decide) (he : starEach (e :: es) X.env = (false, eval e X.env) :: starEach es X.env := by rfl) (hpl : (backTo pos (starEach es X.env)).any (·.1) = false := by rfl) :
    PV X c (.Call (.Name x p) (e :: es) [] pos) (fCall S fa) := by
  obtain ⟨f, fd, h1, h2, h3, h4⟩ := F
  exact v_call h1 hG.up hgd hr h2 h3 h4 ha hg hdb he hpl
theorem v_callKX {x : Str} {p pos : Pos} {kws : List Keyword} {ks : List Str} {is : List Nat} {fa : SA} (F : KnK X.prog X.w X.K X.mg X.base k x ps ks is S) (hG : IsLst c) (hgd : X.A.guards = some []) (hr : Room k X.A) (ha : PKd X c kws fa)
    (hn : kws.length = ks.length := by rfl) (hg : Gl X x := by rfl) (hdb : (x == ("__debug__" : Str)) = false := by decide) (hall : (backToKw pos (keywordEach kws X.env)).all (·.1.isSome) = true := by rfl) (hks : (backToKw pos (keywordEach kws X.env)).filterMap (·.1) = ks := by rfl)
    (hpl : ((backTo pos (starEach [] X.env)).any (·.1) || (backToKw pos (keywordEach kws X.env)).any (·.1.isNone)) = false := by rfl) :
    PV X c (.Call (.Name x p) [] kws pos) (fCallK S is fa) := by
  obtain ⟨f, fd, h1, h2, h3, h4⟩ := F
  exact v_callK h1 hG.up hgd hr h2 h3 h4 ha hn hg hdb hall hks hpl
/-- freeze, whether it is one's own or shared already -/
def fFrz (i : Nat) (f : SS) : SS := fun D ρ => match lk ρ i with | .ow ds => f D (ρ.set i (.sh (.list ds))) | .sh _ => f D ρ | _ => False
theorem s_frz (i : Nat) {st : Stmt} {f : SS} (h : PSd X c st f) : PSd X c st (fFrz i f) := by
  have h2 := s_freeze i h
  refine ⟨fun D D' ρ l q => ?_, ⟨fun pins s σ H D I ⟨B, ρ, ok, q⟩ => ?_⟩⟩
  · unfold fFrz at q ⊢
    split at q <;> first | exact q.elim | exact h.mono _ _ _ l q
  · unfold fFrz at q
    cases e : lk ρ i with
    | ow ds =>
      rw [e] at q
      refine h2.ps.run pins s σ H D I ⟨B, ρ, ok, ?_⟩
      unfold fFreeze
      rw [e]; exact q
    | sh d =>
      rw [e] at q
      exact h.ps.run pins s σ H D I ⟨B, ρ, ok, q⟩
    | un => rw [e] at q; exact q.elim
    | bg => rw [e] at q; exact q.elim
end
/-! ### specs -/
/-- n arguments; what they must be; what comes back -/
def sp (n : Nat) (pre : List Sl → Prop) (R : List Sl → D → Prop) : Spec := fun ss Q => ss.length = n ∧ pre ss ∧ ∀ d, R ss d → Q d
theorem sp_mono {n : Nat} {pre : List Sl → Prop} {R : List Sl → D → Prop} : ∀ ss (Q Q' : D → Prop), (∀ d, Q d → Q' d) → sp n pre R ss Q → sp n pre R ss Q' := fun ss Q Q' k h => ⟨h.1, h.2.1, fun d r => k d (h.2.2 d r)⟩
theorem sp_len {n : Nat} {pre : List Sl → Prop} {R : List Sl → D → Prop} : ∀ ss (Q : D → Prop), sp n pre R ss Q → ss.length = n := fun ss Q h => h.1
/-! ### reading what a suite does -/
theorem at0 {α : Type} (a : α) (r : List α) : atI (a :: r) 0 = some a := by
  unfold atI ixN
  rw [if_pos (by omega), if_pos (by rw [List.length_cons]; omega)]
  rfl
theorem at1 {α : Type} (a b : α) (r : List α) : atI (a :: b :: r) 1 = some b := by
  unfold atI ixN
  rw [if_pos (by omega), if_pos (by rw [List.length_cons, List.length_cons]; omega)]
  rfl
theorem at2 {α : Type} (a b c : α) (r : List α) : atI (a :: b :: c :: r) 2 = some c := by
  unfold atI ixN
  rw [if_pos (by omega), if_pos (by simp only [List.length_cons]; omega)]
  rfl
theorem at3 {α : Type} (a b c d : α) (r : List α) : atI (a :: b :: c :: d :: r) 3 = some d := by
  unfold atI ixN
  rw [if_pos (by omega), if_pos (by simp only [List.length_cons]; omega)]
  rfl
theorem at4 {α : Type} (a b c d e : α) (r : List α) : atI (a :: b :: c :: d :: e :: r) 4 = some e := by
  unfold atI ixN
  rw [if_pos (by omega), if_pos (by simp only [List.length_cons]; omega)]
  rfl
theorem ix0 (n : Nat) : ixN (n + 1) 0 = some 0 := by
  unfold ixN
  rw [if_pos (by omega), if_pos (by omega)]; rfl
theorem ix1 (n : Nat) : ixN (n + 2) 1 = some 1 := by
  unfold ixN
  rw [if_pos (by omega), if_pos (by omega)]; rfl
theorem ix2 (n : Nat) : ixN (n + 3) 2 = some 2 := by
  unfold ixN
  rw [if_pos (by omega), if_pos (by omega)]; rfl
theorem ix3 (n : Nat) : ixN (n + 4) 3 = some 3 := by
  unfold ixN
  rw [if_pos (by omega), if_pos (by omega)]; rfl
theorem lg2 : ((2 : Int).natAbs.log2 < 9000) = True := eq_true (by decide)
theorem lk_z (s : Sl) (r : Env) : lk (s :: r) 0 = s := rfl
theorem lk_s (s : Sl) (r : Env) (i : Nat) : lk (s :: r) (i + 1) = lk r i := rfl
theorem ifS {f g : SS} {b : Bool} {D : En} {ρ : Env} (h1 : b = true → f D ρ) (h2 : b = false → g D ρ) : (if b = true then f D ρ else g D ρ) := by
  cases b with
  | true => exact h1 rfl
  | false => exact h2 rfl
/-- if x == '..': .. , not taken -/
theorem skip_str {i : Nat} {x y : Str} {A B : SS} {E : En} {ρ : Env} (h : lk ρ i = .sh (.str y)) (ne : ¬ y = x) (k : B E ρ) : fSeqS (fIfS (fCmp gEq (fN i) (fC (.str x))) A fNext) B E ρ := by
  simp only [fSeqS, fIfS, fCmp, fN, h, fC, gEq, decide_eq_false ne, fNext]
  rw [if_neg (by decide)]
  exact k
theorem take_str {i : Nat} {x : Str} {A B : SS} {E : En} {ρ : Env} (h : lk ρ i = .sh (.str x)) (k : A ⟨B E, E.rt, E.bk, E.ct⟩ ρ) : fSeqS (fIfS (fCmp gEq (fN i) (fC (.str x))) A fNext) B E ρ := by
  simp only [fSeqS, fIfS, fCmp, fN, h, fC, gEq, decide_true, if_true]
  exact k
/-- a loop by an invariant: m falls -/
theorem while_of {t : ST} {body : SS} {E : En} (I : Nat → Env → Prop) (turn : ∀ m ρ, I m ρ → ∀ K : Env → Prop, (∀ m' ρ', m' < m → I m' ρ' → K ρ') → t ρ fun b => if b = true then body ⟨K, E.rt, E.nx, K⟩ ρ else E.nx ρ) (m : Nat) (ρ : Env) (h : I m ρ) : fWhile t body E ρ := by
  have key : ∀ n m ρ, m < n → I m ρ → fWhN t body n E ρ := by
    intro n
    induction n with
    | zero => intro m ρ l; omega
    | succ n ih => exact fun m ρ l h => turn m ρ h (fWhN t body n E) fun m' ρ' l' h' => ih m' ρ' (by omega) h'
  exact ⟨m + 1, key (m + 1) m ρ (Nat.lt_succ_self m) h⟩
/-- a for by an invariant of what is left -/
theorem for_of {g : GT} {body : SS} {E : En} (I : List D → Env → Prop) (turn : ∀ d ds ρ, I (d :: ds) ρ → ∀ K : Env → Prop, (∀ ρ', I ds ρ' → K ρ') → g d ρ fun ρ' => body ⟨K, E.rt, E.nx, K⟩ ρ') (last : ∀ ρ, I [] ρ → E.nx ρ) : ∀ ds ρ, I ds ρ → fFor g body ds E ρ
  | [], ρ, h => last ρ h
  | d :: ds, ρ, h => turn d ds ρ h (fFor g body ds E) fun ρ' h' => for_of I turn last ds ρ' h'
theorem rng_succ (lo : Int) (n : Nat) : rng lo (n + 1) = .int lo :: rng (lo + 1) n := by
  unfold rng
  rw [List.range_succ_eq_map, List.map_cons, List.map_map]
  congr 1
  · simp
  · refine List.map_congr_left fun i _ => ?_
    simp only [Function.comp]
    congr 1
    omega
/-- a for over a range -/
theorem for_rng {g : GT} {body : SS} {E : En} (I : Int → Env → Prop) : ∀ (n : Nat) (lo : Int) (ρ : Env), (∀ i ρ, lo ≤ i → i < lo + n → I i ρ → ∀ K : Env → Prop, (∀ ρ', I (i + 1) ρ' → K ρ') → g (.int i) ρ fun ρ' => body ⟨K, E.rt, E.nx, K⟩ ρ') → (∀ ρ, I (lo + n) ρ → E.nx ρ) → I lo ρ → fFor g body (rng lo n) E ρ
  | 0, lo, ρ, _, last, h => last ρ (by simpa using h)
  | n + 1, lo, ρ, turn, last, h => by
    rw [rng_succ]
    exact turn lo ρ (Int.le_refl _) (by omega) h (fFor g body (rng (lo + 1) n) E) fun ρ' h' => for_rng I n (lo + 1) ρ' (fun i ρ a b => turn i ρ (by omega) (by omega)) (fun ρ h => last ρ (by
      have e : lo + 1 + (n : Int) = lo + ((n + 1 : Nat) : Int) := by omega
      rw [← e]; exact h)) h'
theorem lc_of {g : GT} {t : ST} {e : SE} {ρ : Env} (I : List D → (List D → Prop) → Prop) (turn : ∀ d ds Q, I (d :: ds) Q → ∀ K : (List D → Prop) → Prop, (∀ Q', I ds Q' → K Q') → g d ρ fun ρ1 => t ρ1 fun b => if b = true then e ρ1 fun y => K fun ys => Q (y :: ys) else K Q) (last : ∀ Q, I [] Q → Q []) : ∀ ds Q, I ds Q → lcRun g t e ρ ds Q
  | [], Q, h => last Q h
  | d :: ds, Q, h => turn d ds Q h (fun Q' => lcRun g t e ρ ds Q') fun Q' h' => lc_of I turn last ds Q' h'
end DL
namespace DL
open PySem L2 PySem.Spec PyProof.Rows
/-! ### from the head's facts -/
theorem fun_of {K : PySem.W.Frag} {x : Str} {st : Stmt} {f : Addr} {fd : FuncData} (F : FunD K x x (defArgs st) (defBody st) (defScope st) [] [] f fd) : Fun K x x st f fd := by
  obtain ⟨⟨oc, od, dV, kV, doc, pm, an, cdv, ct, osl, e, lk, hcd, hD, hK⟩, kp⟩ := F
  rcases hD with ⟨_, rfl⟩ | ⟨z, _⟩
  · exact ⟨⟨oc, od, kV, doc, pm, an, cdv, ct, osl, e, lk, hcd⟩, kp⟩
  · exact absurd rfl z
abbrev XX (P : Program) (w : World) (K : PySem.W.Frag) (mg : Str → Option Value) (base : Heap) (N : List Str) (qual : Str) (st : Stmt) (f : Addr) (cdv : Value) (A : Around) (outer : List PySem.Env) (s : Shared) (H : Hp) : Cx :=
  (cxOf CX0 P w K mg base N qual (defScope st) f cdv A outer s H E0).nox
theorem kwb_of {K : PySem.W.Frag} {x qual : Str} {st : Stmt} {f : Addr} {fd : FuncData} {ps ks : List Str} {is : List Nat} (F : Fun K x qual st f fd)
    (h : ∀ (kV doc pm : Value) (an : Option Addr) (cdv ct : Value) (ws : List Value), ws.length = ks.length → bindArgs (PySem.W.fnOf x qual (defArgs st) (defBody st) (defScope st) .none kV doc pm an cdv ct) ⟨[], ks.zip ws⟩ = pure (ps.zip (perm is ws))) : KwB K fd ps ks is := by
  obtain ⟨oc, od, kV, doc, pm, an, cdv, ct, osl, rfl, lk, hcd⟩ := F.ex
  exact ⟨fun s ws _ hl => .of_eq (h kV doc pm an cdv ct ws hl)⟩
theorem Kn.mk {P : Program} {w : World} {K : PySem.W.Frag} {mg : Str → Option Value} {base : Heap} {k : Nat} {x : Str} {ps : List Str} {S : Spec} {f : Addr} {fd : FuncData} (h : FnG IsLst P w K mg base k f fd ps S) (h1 : mg x = some (.ref f)) (h2 : PySem.W.keepIn K (.ref f) = true) (h3 : Binds K fd ps []) : Kn P w K mg base k x ps S := ⟨f, fd, h, h1, h2, h3⟩
theorem KnK.mk {P : Program} {w : World} {K : PySem.W.Frag} {mg : Str → Option Value} {base : Heap} {k : Nat} {x : Str} {ps ks : List Str} {is : List Nat} {S : Spec} {f : Addr} {fd : FuncData} (h : FnG IsLst P w K mg base k f fd ps S) (h1 : mg x = some (.ref f)) (h2 : PySem.W.keepIn K (.ref f) = true) (h3 : KwB K fd ps ks is) : KnK P w K mg base k x ps ks is S := ⟨f, fd, h, h1, h2, h3⟩
theorem units_of {A : Around} {k : Nat} (hr : Room k A) : A.units + 64 < cLine := by
  have := hr.un
  omega
abbrev fForS (fi : SI) (g : GT) (f : SS) : SS := fun D ρ => fi ρ fun ds => fFor g f ds D ρ
end DL
namespace DL
open PySem L2 PySem.Spec PyProof.Rows
/-! ### data of a small size: may be shown and compared -/
/-- nesting at most n, shown in at most w signs -/
structure Ni (n w : Nat) (d : D) : Prop where
  sh : d.showable = true
  nd : d.hasDict = false
  cl : d.canLay0 = true
  dp : d.depth ≤ n
  wt : d.shown.length ≤ w
structure NiA (n w : Nat) (ds : List D) : Prop where
  sh : PyData.showableAll ds = true
  nd : PyData.hasDictAll ds = false
  cl : PyData.canLayAll0 ds = true
  dp : PyData.depthAll ds ≤ n
  wt : ((PyData.shownAll ds).map (·.length)).sum + 2 * (PyData.shownAll ds).length ≤ w
theorem Ni.le {n w m v : Nat} {d : D} (h : Ni n w d) (a : n ≤ m) (b : w ≤ v) : Ni m v d := ⟨h.sh, h.nd, h.cl, Nat.le_trans h.dp a, Nat.le_trans h.wt b⟩
theorem NiA.nil {n w : Nat} : NiA n w [] := ⟨rfl, rfl, rfl, by simp [PyData.depthAll], by simp [PyData.shownAll]⟩
theorem NiA.cons {n w v : Nat} {d : D} {ds : List D} (h : Ni n w d) (k : NiA n v ds) : NiA n (w + 2 + v) (d :: ds) :=
  ⟨by simp [PyData.showableAll, h.sh, k.sh], by simp [PyData.hasDictAll, h.nd, k.nd], by simp [PyData.canLayAll0, h.cl, k.cl],
    by have := h.dp; have := k.dp; simp only [PyData.depthAll]; omega, by have := h.wt; have := k.wt; simp only [PyData.shownAll, List.map_cons, List.sum_cons, List.length_cons]; omega⟩
theorem NiA.le {n w m v : Nat} {d : List D} (h : NiA n w d) (a : n ≤ m) (b : w ≤ v) : NiA m v d := ⟨h.sh, h.nd, h.cl, Nat.le_trans h.dp a, Nat.le_trans h.wt b⟩
theorem NiA.all {n w : Nat} : ∀ {ds : List D}, (∀ d ∈ ds, Ni n w d) → NiA n (ds.length * (w + 2)) ds
  | [], _ => NiA.nil
  | d :: ds, h => (NiA.cons (h d List.mem_cons_self) (NiA.all fun e he => h e (List.mem_cons_of_mem _ he))).le (Nat.le_refl _) (by rw [List.length_cons, Nat.succ_mul]; omega)
theorem Ni.list {n w : Nat} {ds : List D} (h : NiA n w ds) : Ni (n + 1) (w + 3) (.list ds) :=
  ⟨by simp [PyData.showable, h.sh], by simp [PyData.hasDict, h.nd], by simp [PyData.canLay0, h.cl], by have := h.dp; simp only [PyData.depth]; omega, by
    have := h.wt
    have := listText_len_le (PyData.shownAll ds)
    simp only [PyData.shown]
    omega⟩
theorem Ni.tup {n w : Nat} {ds : List D} (h : NiA n w ds) : Ni (n + 1) (w + 3) (.tuple ds) :=
  ⟨by simp [PyData.showable, h.sh], by simp [PyData.hasDict, h.nd], by simp [PyData.canLay0, h.cl], by have := h.dp; simp only [PyData.depth]; omega, by
    have := h.wt
    have := tupleText_len_le (PyData.shownAll ds)
    simp only [PyData.shown]
    omega⟩
theorem log2_lt {n k : Nat} (hk : 0 < k) (h : n < 2 ^ k) : n.log2 < k := by
  by_cases z : n = 0
  · subst z; rw [Nat.log2_zero]; exact hk
  · exact (Nat.log2_lt z).mpr h
theorem pow_1900 : (2 : Nat) ^ 1900 ≤ 10 ^ 590 := by decide +kernel
theorem Ni.int {i : Int} (h : i.natAbs < 2 ^ 1900) : Ni 0 600 (.int i) := by
  have h10 : i.natAbs < 10 ^ 590 := Nat.lt_of_lt_of_le h pow_1900
  have hl := log2_lt (by decide) h
  have e := int_text_length_le10 (k := 590) (by decide) h10
  clear h h10
  refine ⟨?_, rfl, rfl, by simp [PyData.depth], ?_⟩
  · simp only [PyData.showable, decide_eq_true_eq]
    exact Nat.lt_trans hl (by decide)
  · simp only [PyData.shown]
    rw [PySem.ofString_length]
    omega
theorem Ni.bool (b : Bool) : Ni 0 5 (.bool b) := ⟨rfl, rfl, rfl, by simp [PyData.depth], by cases b <;> decide⟩
theorem Ni.none : Ni 0 4 .none := ⟨rfl, rfl, rfl, by simp [PyData.depth], by decide⟩
theorem Ni.str {x : Str} {w : Nat} (h : (PyData.shown (.str x)).length ≤ w := by decide +kernel) (k : PyData.canLay0 (.str x) = true := by decide +kernel) : Ni 0 w (.str x) :=
  ⟨rfl, rfl, k, by simp [PyData.depth], h⟩
theorem Ni.shaped {n w : Nat} {d : D} (h : Ni n w d) (hn : n ≤ 60) : SeqAt.shaped d = true := by
  unfold SeqAt.shaped
  rw [h.cl, Bool.true_and, decide_eq_true_eq]
  have := h.dp
  omega
theorem Ni.repr {n w : Nat} {d : D} (h : Ni n w d) (hn : n ≤ 60) (hw : w ≤ 16777216) {Q : D → Prop} (q : Q (.str d.shown)) : bRepr [d] Q := ⟨h.sh, h.nd, by rw [sizeLine_eq]; exact Nat.le_trans h.wt hw, Nat.le_trans h.dp hn, q⟩
theorem Ni.eq {n w : Nat} {d : D} (h : Ni n w d) (hn : n ≤ 60) {Q : Bool → Prop} (q : Q true) : gEq d d Q := by
  have gen : SeqAt.shaped d = true ∧ SeqAt.shaped d = true ∧ Q (PyData.eqv d d) := ⟨h.shaped hn, h.shaped hn, by rw [SeqAt.eqv_refl d h.cl]; exact q⟩
  cases d with
  | int i => show Q (decide (i = i)); simpa using q
  | str i => show Q (decide (i = i)); simpa using q
  | bool i => show Q (decide (i = i)); simpa using q
  | none => exact gen
  | list ds => exact gen
  | tuple ds => exact gen
  | dict ds => exact gen
end DL
namespace DL
open PySem L2 PySem.Spec PyProof.Rows
/-! ### sizes -/
def Sm (k : Nat) (i : Int) : Prop := i.natAbs < 2 ^ k
theorem Sm.le {k l : Nat} {i : Int} (h : Sm k i) (hl : k ≤ l) : Sm l i := Nat.lt_of_lt_of_le h (Nat.pow_le_pow_right (by decide) hl)
theorem Sm.neg {k : Nat} {i : Int} (h : Sm k i) : Sm k (-i) := by unfold Sm at *; rw [Int.natAbs_neg]; exact h
theorem Sm.add {k : Nat} {i j : Int} (h : Sm k i) (h' : Sm k j) : Sm (k + 1) (i + j) := by
  unfold Sm at *
  have := Int.natAbs_add_le i j
  rw [Nat.pow_succ]
  omega
theorem Sm.sub {k : Nat} {i j : Int} (h : Sm k i) (h' : Sm k j) : Sm (k + 1) (i - j) := by
  have := Sm.add h h'.neg
  rwa [← Int.sub_eq_add_neg] at this
theorem Sm.mul {k l : Nat} {i j : Int} (h : Sm k i) (h' : Sm l j) : Sm (k + l) (i * j) := by
  unfold Sm at *
  rw [Int.natAbs_mul, Nat.pow_add]
  exact Nat.mul_lt_mul'' h h'
theorem Sm.nat {k : Nat} {i : Int} (h0 : 0 ≤ i) (h : i < 2 ^ k) : Sm k i := by
  unfold Sm
  have e : ((i.natAbs : Nat) : Int) < ((2 ^ k : Nat) : Int) := by
    rw [Int.natAbs_of_nonneg h0]
    exact_mod_cast h
  exact_mod_cast e
theorem Sm.abs {k : Nat} {i : Int} (h : Sm k i) : Sm k (if i < 0 then -i else i) := by
  split
  · exact h.neg
  · exact h
theorem Sm.mulw {k l : Nat} {i j : Int} (h : Sm k i) (h' : Sm l j) (hs : k + l + 2 ≤ 1000000 := by omega) : CMulW i j :=
  wide_mul (a := k + 1) (b := l + 1) (h.le (Nat.le_succ k)) (h'.le (Nat.le_succ l)) (by omega) (by omega) (by omega)
theorem Sm.log {k : Nat} {i : Int} (h : Sm k i) (hk : k < 9000 := by omega) : i.natAbs.log2 < 9000 := by
  have := log2_lt (k := k + 1) (by omega) (h.le (Nat.le_succ k))
  omega
/-- divided by a positive number -/
theorem Sm.div {k : Nat} {i g : Int} (h : Sm k i) (hg : 0 < g) : Sm k (i / g) := by
  unfold Sm at *
  have h1 : (i / g).natAbs ≤ i.natAbs := by
    have e1 := Int.ediv_mul_le i (Int.ne_of_gt hg)
    have e2 := Int.lt_ediv_add_one_mul_self i hg
    by_cases z : 0 ≤ i
    · have : 0 ≤ i / g := Int.ediv_nonneg z (Int.le_of_lt hg)
      have : i / g ≤ i := Int.ediv_le_self g z
      omega
    · have n : i / g < 0 := Int.ediv_neg_of_neg_of_pos (by omega) hg
      have q := Int.mul_le_mul_of_nonneg_left (a := 1) (b := g) (c := -i) (by omega) (by omega)
      rw [Int.mul_one, Int.neg_mul] at q
      have : i ≤ i / g := Int.le_ediv_of_mul_le hg (by omega)
      omega
  omega
theorem Sm.emod {k : Nat} {i g : Int} (hg : 0 < g) (h : Sm k g) : Sm k (i % g) := by
  unfold Sm at *
  have := Int.emod_nonneg i (Int.ne_of_gt hg)
  have := Int.emod_lt_of_pos i hg
  omega
/-! ### gcd -/
theorem gcd_fmod (i j : Int) : Int.gcd j (i.fmod j) = Int.gcd i j := by
  rw [Int.fmod_def, Int.gcd_comm i j]
  have : i - j * i.fdiv j = i + j * (-(i.fdiv j)) := by rw [Int.mul_neg]; omega
  rw [this]
  simp
theorem gcd_emod (i j : Int) : Int.gcd j (i % j) = Int.gcd i j := by
  rw [Int.emod_def, Int.gcd_comm i j]
  have : i - j * (i / j) = i + j * (-(i / j)) := by rw [Int.mul_neg]; omega
  rw [this]
  simp
/-! ### whole roots -/
def Rt (n s : Int) : Prop := 0 ≤ s ∧ s * s ≤ n ∧ n < (s + 1) * (s + 1)
theorem sq_exp (s : Int) : (s + 1) * (s + 1) = s * s + 2 * s + 1 := by
  rw [Int.add_mul, Int.mul_add, Int.mul_one, Int.one_mul]; omega
theorem rt_ex (n : Nat) : ∃ s, Rt n s := by
  induction n with
  | zero => exact ⟨0, by decide, by decide, by decide⟩
  | succ n ih =>
    obtain ⟨s, h0, h1, h2⟩ := ih
    by_cases h : ((n + 1 : Nat) : Int) < (s + 1) * (s + 1)
    · exact ⟨s, h0, by omega, h⟩
    · refine ⟨s + 1, by omega, by omega, ?_⟩
      have := sq_exp (s + 1)
      omega
theorem rt_of {n : Int} (h : 0 ≤ n) : ∃ s, Rt n s := by
  obtain ⟨s, hs⟩ := rt_ex n.toNat
  rw [Int.toNat_of_nonneg h] at hs
  exact ⟨s, hs⟩
theorem sq_le {a b : Int} (h0 : 0 ≤ a) (h : a ≤ b) : a * a ≤ b * b := Int.mul_le_mul h h h0 (by omega)
theorem rt_unique {n s t : Int} (h : Rt n s) (k : Rt n t) : s = t := by
  apply Classical.byContradiction
  intro c
  rcases Int.lt_or_gt_of_ne c with c | c
  · have := sq_le (a := s + 1) (b := t) (by have := h.1; omega) (by omega)
    have := h.2.2
    have := k.2.1
    omega
  · have := sq_le (a := t + 1) (b := s) (by have := k.1; omega) (by omega)
    have := k.2.2
    have := h.2.1
    omega
theorem rt_sq {n s r : Int} (h : Rt n s) (hr : 0 ≤ r) (e : r * r = n) : s = r := rt_unique h ⟨hr, by omega, by have := sq_exp r; omega⟩
/-- the mean is no less than the root -/
theorem rt_up {n s r : Int} (h : Rt n s) (hr : 0 < r) : s ≤ (r + n / r) / 2 := by
  obtain ⟨h0, h1, h2⟩ := h
  apply Classical.byContradiction
  intro c
  have c1 : r + n / r ≤ 2 * s - 1 := by omega
  have q : n < (n / r + 1) * r := Int.lt_ediv_add_one_mul_self n hr
  have le : n / r + 1 ≤ 2 * s - r := by omega
  have m := Int.mul_le_mul_of_nonneg_right le (Int.le_of_lt hr)
  have e : (2 * s - r) * r = s * s - (s - r) * (s - r) := by
    rw [Int.sub_mul, Int.sub_mul, Int.mul_sub, Int.mul_sub, Int.mul_assoc, Int.mul_comm r s]; omega
  have sq : 0 ≤ (s - r) * (s - r) := by
    rcases Int.le_total 0 (s - r) with z | z
    · exact Int.mul_nonneg z z
    · have := Int.mul_nonneg (a := -(s - r)) (b := -(s - r)) (by omega) (by omega)
      rwa [Int.neg_mul_neg] at this
  omega
theorem rt_quot {n s r : Int} (h : Rt n s) (hr : s < r) : n / r ≤ s := by
  obtain ⟨h0, h1, h2⟩ := h
  have m := Int.mul_le_mul_of_nonneg_left (a := s + 1) (b := r) (c := s + 1) (by omega) (by omega)
  have : n / r < s + 1 := Int.ediv_lt_of_lt_mul (by omega) (by omega)
  omega
/-- where it does not fall the root is reached -/
theorem rt_stop {n s r : Int} (h : Rt n s) (hr : 0 < r) (hs : s ≤ r) (k : r ≤ (r + n / r) / 2) : r = s := by
  apply Classical.byContradiction
  intro c
  have := rt_quot h (r := r) (by omega)
  omega
theorem rt_half {n s r : Int} (h : Rt n s) (hs : s < r) : 2 * ((r + n / r) / 2 - s) ≤ r - s := by
  have := rt_quot h hs
  omega
theorem rt_pos {n s : Int} (h : Rt n s) (hn : 2 ≤ n) : 0 < s := by
  apply Classical.byContradiction
  intro c
  have e : s = 0 := by have := h.1; omega
  have := h.2.2
  rw [e] at this
  omega
theorem bits_lt (n : Nat) : n < 2 ^ (Builtin.Int.intBits (n : Int)) := by
  unfold Builtin.Int.intBits
  by_cases z : n = 0
  · subst z; decide
  · have : ((n : Int) == 0) = false := by simp; omega
    first
      | (rw [this]; simp only [Bool.false_eq_true, if_false, Int.natAbs_natCast]; exact Nat.lt_log2_self)
      | (simp only [Int.natAbs_natCast]; split <;> first | omega | exact Nat.lt_log2_self)
      | (simp only [Int.natAbs_natCast]; exact Nat.lt_log2_self)
theorem bits_le {n : Nat} {k : Nat} (hk : 0 < k) (h : n < 2 ^ k) : Builtin.Int.intBits (n : Int) ≤ k := by
  have l := log2_lt hk h
  unfold Builtin.Int.intBits
  first
    | (split <;> simp_all <;> omega)
    | (simp only [Int.natAbs_natCast]; omega)
/-- the first guess is above the root -/
theorem rt_first {n : Nat} {s : Int} (h : Rt n s) (b : Nat) (hb : Builtin.Int.intBits (n : Int) ≤ 2 * b) : s < 2 ^ b := by
  have e := Nat.lt_of_lt_of_le (bits_lt n) (Nat.pow_le_pow_right (by decide : 0 < 2) hb)
  apply Classical.byContradiction
  intro c
  have c : (2 : Int) ^ b ≤ s := by omega
  have p : (0 : Int) ≤ 2 ^ b := Int.le_of_lt (Int.pow_pos (by decide))
  have m := sq_le p c
  have e2 : ((n : Nat) : Int) < (2 : Int) ^ b * 2 ^ b := by
    rw [← Int.pow_add]
    have : b + b = 2 * b := by omega
    rw [this]
    exact_mod_cast e
  have := h.2.1
  omega
end DL
namespace DL
open PySem L2 PySem.Spec PyProof.Rows
/-! ### a tuple, taken k times -/
theorem tuple_mul0 (l : Addr) (items : Array Value) (n : Nat) (dd : Option Addr) (sl : Array (Option Value)) (x : Int) (u : Tok) (c0 : (decide (x < -(2 ^ 63)) || decide (x ≥ 2 ^ 63)) = false) (c1 : (items.isEmpty || x == 1) = false) (c2 : (decide (x ≤ 0) || items.isEmpty) = true) :
    Meets (Builtin.«tuple.__mul__» ⟨[.ref l, .int x u], []⟩) (fun _ R s => s.heap.get? l = some { cls := .type "tuple", dict := dd, data := .seq items n, slots := sl } ∧
      R (.ok (.ret (Value.ref s.heap.objs.size))) { s with heap := s.heap.push { cls := Value.type "tuple", data := Data.seq #[] }, toks := s.toks }) :=
  .of_wp fun prog w A R s h => by
    obtain ⟨hp, g, d, tk, os⟩ := s
    obtain ⟨hl, h⟩ := h
    have f1 := AutoSeq1.idx_int
    wp_walk using wpAny_loadPart' hl
    repeat (first
      | (refine wpAny_ite_false (decide_eq_false (by rw [c0]; exact Bool.false_ne_true)) ?_; wp_walk using wpAny_loadPart' hl)
      | (refine wpAny_ite_false (decide_eq_false (by rw [c1]; exact Bool.false_ne_true)) ?_; wp_walk using wpAny_loadPart' hl)
      | (refine wpAny_ite_true (decide_eq_true c2) ?_; wp_walk using wpAny_loadPart' hl))
    exact ⟨_, rfl, h⟩
theorem tuple_mul1 (l : Addr) (items : Array Value) (n : Nat) (dd : Option Addr) (sl : Array (Option Value)) (x : Int) (u : Tok) (c0 : (decide (x < -(2 ^ 63)) || decide (x ≥ 2 ^ 63)) = false) (c1 : (items.isEmpty || x == 1) = true) :
    Meets (Builtin.«tuple.__mul__» ⟨[.ref l, .int x u], []⟩) (fun _ R s => s.heap.get? l = some { cls := .type "tuple", dict := dd, data := .seq items n, slots := sl } ∧
      R (.ok (.ret (Value.ref l))) s) :=
  .of_wp fun prog w A R s h => by
    obtain ⟨hp, g, d, tk, os⟩ := s
    obtain ⟨hl, h⟩ := h
    have f1 := AutoSeq1.idx_int
    wp_walk using wpAny_loadPart' hl
    repeat (first
      | (refine wpAny_ite_false (decide_eq_false (by rw [c0]; exact Bool.false_ne_true)) ?_; wp_walk using wpAny_loadPart' hl)
      | (refine wpAny_ite_true (decide_eq_true c1) ?_; wp_walk using wpAny_loadPart' hl))
    exact ⟨_, rfl, h⟩
section
variable {X : Cx} {c : C}
def rRep01 (K : PySem.W.Frag) : R2 := fun x y H Q => ∃ l k xs, x = .ref l ∧ y = .int k ∧ SqT K H l xs ∧ xs ≠ [] ∧ ((k = 0 ∧ ∀ p, H p = none → Q (.ref p) (upd H p (.tup []))) ∨ (k = 1 ∧ Q (.ref l) H))
theorem op_rep01 : OpR X (binaryOp .Mult) (rRep01 X.K) := by
  intro pins s σ H x y v u Q I rx ry h
  obtain ⟨l, k, xs, rfl, rfl, hT, hne, h⟩ := h
  cases rx
  obtain ⟨t, rfl⟩ := ry
  obtain ⟨its, r, ⟨⟨cls, dd, data, sl⟩, ho, hc, n, hd⟩, hs⟩ := I.tuple hT
  simp only at hc hd
  subst hc hd
  have hle : its.length = xs.length := r.length.symm
  have hn : its ≠ [] := fun e => hne (by
    rw [e] at hle
    exact List.eq_nil_of_length_eq_zero hle.symm)
  have hi : its.toArray.isEmpty = false := by
    cases its with
    | nil => exact absurd rfl hn
    | cons a b => rfl
  rcases h with ⟨rfl, q⟩ | ⟨rfl, q⟩
  · refine wpAny_binaryOp_repeat_ref (T := "tuple") (U := "int") (by decide) ⟨_, ho, rfl⟩ (fun s' => typeIs_int s' 0 t) noFill_tuple_mul F.fills_int_mul F.slot_int_rmul repeat_tuple F.slot_int_index.lookup
      (call_meets F.slot_int_rmul (typeIs_int s 0 t) F.entry_int_rmul (F.args_int_rmul_2 _ _) (int_rmul_tuple 0 t l its.toArray n dd sl)
        ⟨ho, rfl, ⟨_, ho, rfl⟩, call_meets F.slot_tuple_mul ⟨_, ho, rfl⟩ F.entry_tuple_mul (F.args_tuple_mul_2 _ _) (tuple_mul0 l its.toArray n dd sl 0 t rfl (by rw [hi]; rfl) rfl) ⟨ho, ?_⟩⟩)
    refine ⟨.ref s.heap.objs.size, _, I.laid (t' := s.toks) (o := .tup []) (fun b ob q => Heap.get?_push_of_some _ q) (Nat.le_refl _) ?_, rfl, q _ (I.hok.fresh (Nat.le_refl _))⟩
    exact ⟨Nat.zero_le _, [], .nil, IsTup.new _ _⟩
  · refine wpAny_binaryOp_repeat_ref (T := "tuple") (U := "int") (by decide) ⟨_, ho, rfl⟩ (fun s' => typeIs_int s' 1 t) noFill_tuple_mul F.fills_int_mul F.slot_int_rmul repeat_tuple F.slot_int_index.lookup
      (call_meets F.slot_int_rmul (typeIs_int s 1 t) F.entry_int_rmul (F.args_int_rmul_2 _ _) (int_rmul_tuple 1 t l its.toArray n dd sl)
        ⟨ho, rfl, ⟨_, ho, rfl⟩, call_meets F.slot_tuple_mul ⟨_, ho, rfl⟩ F.entry_tuple_mul (F.args_tuple_mul_2 _ _) (tuple_mul1 l its.toArray n dd sl 1 t rfl (by rw [hi]; rfl)) ⟨ho, ?_⟩⟩)
    exact ⟨.ref l, H, I, rfl, q⟩
def gRepT : G2 | .tuple ds, .int k, Q => ds ≠ [] ∧ 0 ≤ k ∧ k ≤ 1000 ∧ ds.length ≤ 1000 ∧ Q (.tuple (List.replicate k.toNat ds).flatten) | _, _, _ => False
theorem m_RepT : MonoG gRepT := fun d e Q Q' k h => by
  cases d <;> cases e <;> first | exact h.elim | exact ⟨h.1, h.2.1, h.2.2.1, h.2.2.2.1, k _ h.2.2.2.2⟩
theorem rpa_rep {B : Hp} {xs : List V} {ds : List D} (h : RpA B xs ds) : ∀ k : Nat, RpA B (List.replicate k xs).flatten (List.replicate k ds).flatten
  | 0 => .nil
  | k + 1 => by
    rw [List.replicate_succ, List.replicate_succ, List.flatten_cons, List.flatten_cons]
    exact rpa_app h (rpa_rep h k)
theorem o_repT : OpD X c (binaryOp .Mult) gRepT := by
  refine ⟨m_RepT, fun pins s σ H x y v u Q I rx ry ⟨B, d, e, w, r1, r2, q⟩ => ?_⟩
  cases d <;> cases e <;> first | exact q.elim | skip
  rename_i ds k
  obtain ⟨q1, q2, q3, q4, q5⟩ : ds ≠ [] ∧ 0 ≤ k ∧ k ≤ 1000 ∧ ds.length ≤ 1000 ∧ ∀ v B' H', Gr c B H B' H' → Rp B' v (.tuple (List.replicate k.toNat ds).flatten) → Q v H' := q
  obtain ⟨a, xs, rfl, h1, h2⟩ := r1.tup w
  rw [r2.int] at ry
  have r1' : Rp B (.ref a) (.tuple ds) := by
    rcases r1 with r1 | ⟨_, _, _, _, e, _⟩
    · exact r1
    · cases e
  have hne : xs ≠ [] := fun z => q1 ((rpa_nil_iff h2).mp z)
  by_cases k0 : k = 0
  · subst k0
    refine op_rep01 pins s σ H _ _ v u Q I rx ry ⟨a, 0, xs, rfl, rfl, SqT.of h1, hne, .inl ⟨rfl, fun p hp => ?_⟩⟩
    exact q5 _ _ _ (Gr.new (o := .tup []) w hp) (.tup upd_same .nil)
  · by_cases k1 : k = 1
    · subst k1
      refine op_rep01 pins s σ H _ _ v u Q I rx ry ⟨a, 1, xs, rfl, rfl, SqT.of h1, hne, .inr ⟨rfl, ?_⟩⟩
      refine q5 _ B H (Gr.refl w) ?_
      have : (List.replicate (1 : Int).toNat ds).flatten = ds := by
        show (List.replicate 1 ds).flatten = ds
        simp
      rw [this]; exact r1'
    · refine op_repT pins s σ H _ _ v u Q I rx ry ⟨a, k, xs, rfl, rfl, SqT.of h1, hne, by omega, q3, by rw [rpa_len h2]; exact q4, fun p hp => ?_⟩
      have g := Gr.new (o := .tup (List.replicate k.toNat xs).flatten) w hp
      exact q5 _ _ _ g (.tup upd_same (rpa_mono g.b (rpa_rep h2 _)))
/-! ### in -/
def gIn : GC | d, .list ds, Q => SeqAt.shaped d = true ∧ SeqAt.shaped (.list ds) = true ∧ Q (ds.any fun z => PyData.eqv z d) | _, _, _ => False
def gNotIn : GC | d, .list ds, Q => SeqAt.shaped d = true ∧ SeqAt.shaped (.list ds) = true ∧ Q (!ds.any fun z => PyData.eqv z d) | _, _, _ => False
theorem m_In : MonoC gIn := fun d e Q Q' k h => by
  cases e <;> first | exact h.elim | exact ⟨h.1, h.2.1, k _ h.2.2⟩
theorem m_NotIn : MonoC gNotIn := fun d e Q Q' k h => by
  cases e <;> first | exact h.elim | exact ⟨h.1, h.2.1, k _ h.2.2⟩
theorem o_in (hu : X.A.units + 65 < cLine) : CmpD X c .In gIn := by
  refine ⟨m_In, opr_weak (op_inD hu) fun x y H Q ⟨B, d, e, w, r1, r2, q⟩ => ?_⟩
  cases e <;> first | exact q.elim | skip
  exact ⟨d, _, rp_dp (r1.rp w) (SeqAt.canLay_of_shaped q.1), rp_dp (r2.rp w) (SeqAt.canLay_of_shaped q.2.1), q.1, q.2.1, q.2.2⟩
theorem o_notIn (hu : X.A.units + 65 < cLine) : CmpD X c .NotIn gNotIn := by
  refine ⟨m_NotIn, opr_weak (op_notInD hu) fun x y H Q ⟨B, d, e, w, r1, r2, q⟩ => ?_⟩
  cases e <;> first | exact q.elim | skip
  exact ⟨d, _, rp_dp (r1.rp w) (SeqAt.canLay_of_shaped q.1), rp_dp (r2.rp w) (SeqAt.canLay_of_shaped q.2.1), q.1, q.2.1, q.2.2⟩
theorem units65 {A : Around} {k : Nat} (hr : Room k A) : A.units + 65 < cLine := by
  have := hr.un
  omega
/-! ### sorted: ints; at most one item -/
theorem perm_one {α : Type} : ∀ {b a : List α}, b.length ≤ 1 → a.Perm b → a = b
  | [], _, _, h => h.eq_nil
  | [_], _, _, h => List.perm_singleton.mp h
  | _ :: _ :: _, _, l, _ => absurd l (by simp)
theorem cr_sorted1 : CallR X (.builtin "sorted") (fun vs H Q => ∃ (a : Addr) (xs : List V), vs = [V.ref a] ∧ SqL X.K H a xs ∧ xs.length ≤ 1 ∧ ∀ p, H p = none → Q (.ref p) (upd H p (.lst xs))) := by
  intro pins s σ H vs us Q I r h
  obtain ⟨a, ns, rfl, hs, h1, q⟩ := h
  obtain ⟨its, rv, hl, hz⟩ := I.list hs
  rw [Vals.ref1 r]
  have hlen : its.length ≤ 1 := by rw [← rv.length]; exact h1
  refine Srt.sorted_any hl.isList (by rw [← rv.length]; exact hz) (fun h2 => by omega) fun out hp => ?_
  have ho : out = its := perm_one hlen hp
  subst ho
  obtain ⟨ep, he'⟩ := PyProof.Rows.sortedAll_at s.heap out out.toArray
  exact ⟨.ref _, upd H (s.heap.objs.size + 1) (.lst ns), I.laid (t' := s.toks) (fun _ _ => PyProof.Rows.sortedAll_old) (Nat.le_succ _) ⟨hz, out, ep, rv, he'⟩, rfl, q _ (I.hok.fresh (Nat.le_succ _))⟩
def fSrt (fa : SE) : SL := fun ρ Q => fa ρ fun d => match d with
  | .list ds => (∃ ns : List Int, ds = ns.map PyData.int ∧ ∀ ns' : List Int, ns'.Perm ns → ns'.Pairwise (· ≤ ·) → Q (ns'.map PyData.int)) ∨ (ds.length ≤ 1 ∧ Q ds)
  | _ => False
theorem n_sorted {e : Expr} {fa : SE} {x : Str} {p pos : Pos} (hm : X.mg x = none) (ha : PB X c e fa) (hg : Gl X x := by rfl) (hv : bootBuiltins x = some (.builtin "sorted") := by decide +kernel)
    (hn : x ≠ "__name__" := by decide) (hdb : (x == ("__debug__" : Str)) = false := by decide)
    (he : starEach [e] X.env = (false, eval e X.env) :: starEach [] X.env := by rfl) (hpl : (backTo pos (starEach [] X.env)).any (·.1) = false := by rfl) : PN X c (.Call (.Name x p) [e] [] pos) (fSrt fa) := by
  refine ⟨fun ρ Q Q' k h => ha.mono _ _ _ (fun d hd => ?_) h, pe_weak (pe_callB (r := fun vs H Q => rSortedI X.K vs H Q ∨ ∃ (a : Addr) (xs : List V), vs = [V.ref a] ∧ SqL X.K H a xs ∧ xs.length ≤ 1 ∧ ∀ p, H p = none → Q (.ref p) (upd H p (.lst xs))) (fun pins s σ H xs us Q I rv q => q.elim (cr_sortedI pins s σ H xs us Q I rv) (cr_sorted1 pins s σ H xs us Q I rv)) hg hm hv (pa_cons ha.pe pa_nil he) hn hdb he hpl) fun σ H Q ⟨B, ρ, ok, h⟩ => ⟨B, ρ, ok, ha.mono _ _ _ (fun d hd v B1 H1 g1 r1 => ?_) h⟩⟩
  · split at hd <;> first | exact hd.elim | skip
    rcases hd with ⟨ns, e1, h1⟩ | ⟨h1, h2⟩
    · exact .inl ⟨ns, e1, fun ns' a b => k _ (h1 ns' a b)⟩
    · exact .inr ⟨h1, k _ h2⟩
  · split at hd <;> first | exact hd.elim | skip
    rename_i ds
    obtain ⟨a, xs, rfl, h1, h2⟩ := r1.list g1.w
    have hL : SqL X.K H1 a xs := SqL.of h1
    rcases hd with ⟨ns, e1, hq⟩ | ⟨hlen, hq⟩
    · subst e1
      have e2 := rpa_ints h2
      subst e2
      refine .inl ⟨a, ns, rfl, hL, fun ns' l p1 p2 hl => ?_⟩
      have g2 := Gr.newO (o := .lst (ns'.map V.int)) g1.w hl
      exact hq ns' p1 p2 l _ B1 _ (g1.trans ok.w g2) (g1.back hl) (Evl.fresh_back g1.w.sub hl) upd_same (rpa_of_ints ns')
    · refine .inr ⟨a, xs, rfl, hL, by rw [rpa_len h2]; exact hlen, fun l hl => ?_⟩
      have g2 := Gr.newO (o := .lst xs) g1.w hl
      exact hq l xs B1 _ (g1.trans ok.w g2) (g1.back hl) (Evl.fresh_back g1.w.sub hl) upd_same h2
/-! ### sum of a tuple of ints -/
theorem cr_sumT (hc : X.calm = true) : CallR X (.builtin "sum") (fun vs H Q => ∃ (a : Addr) (ns : List Int), vs = [V.ref a] ∧ SqT X.K H a (ns.map V.int) ∧ Q (.int ns.sum) H) := by
  intro pins s σ H vs us Q I r h
  obtain ⟨a, ns, rfl, hs, q⟩ := h
  obtain ⟨its, rv, hl, _⟩ := I.tuple hs
  rw [Vals.ref1 r]
  have hi := rv.ints
  obtain ⟨xs, e⟩ := hi.allInts.items
  have hn : numsOf (intItems xs).toList = ns := by rw [← e]; exact hi.numsOf
  rw [nums_intItems] at hn
  have hl2 : s.heap.IsTuple a (intItems xs) := by
    rw [← e]
    obtain ⟨o, h1, h2, n, h3⟩ := hl
    exact ⟨o, h1, h2, n, h3⟩
  refine PySem.W.ktm_sumG (I.ok.hd hc) hl2 fun h' tk t' hk => ?_
  rw [preSum_eq, List.take_of_length_le (by simp), hn]
  exact ⟨.int _, H, I.kept hk, ⟨_, rfl⟩, q⟩
def bSumT : GB | [.tuple ds], Q => (match asInts ds with | some ns => Q (.int ns.sum) | none => False) | _, _ => False
theorem m_SumT : MonoB bSumT := fun ds Q Q' k h => by
  unfold bSumT at h ⊢
  split at h <;> first | exact h.elim | skip
  split at h <;> first | exact h.elim | exact k _ h
theorem c_sumT (hc : X.calm = true) : CallD X c (.builtin "sum") bSumT := ⟨m_SumT, callr_weak (cr_sumT hc) fun xs H Q ⟨B, ds, w, ra, q⟩ => by
  unfold bSumT at q
  split at q <;> first | exact q.elim | skip
  split at q <;> first | exact q.elim | skip
  rename_i e
  obtain ⟨v, e1, r⟩ := ra.one
  subst e1
  obtain ⟨a, xs, rfl, h1, h2⟩ := r.tup w
  have e2 := asInts_eq e
  subst e2
  have e3 := rpa_ints h2
  subst e3
  exact ⟨a, _, rfl, SqT.of h1, q _ B H (Gr.refl w) (.int _)⟩⟩
end
end DL
namespace DL
namespace T
open PySem L2 PySem.Spec PyProof.Rows
/-! ### specs by one datum -/
def spE {α : Type} (args : α → List Sl) (ok : α → Prop) (F : α → D) : Spec := fun ss Q => ∃ a : α, ss = args a ∧ ok a ∧ Q (F a)
theorem spE_mono {α : Type} {args : α → List Sl} {ok : α → Prop} {F : α → D} : ∀ ss (Q Q' : D → Prop), (∀ d, Q d → Q' d) → spE args ok F ss Q → spE args ok F ss Q' := fun ss Q Q' k ⟨a, e, h, q⟩ => ⟨a, e, h, k _ q⟩
theorem spE_len {α : Type} {args : α → List Sl} {ok : α → Prop} {F : α → D} {n : Nat} (h : ∀ a, (args a).length = n) : ∀ ss (Q : D → Prop), spE args ok F ss Q → ss.length = n := fun ss Q ⟨a, e, _⟩ => by rw [e]; exact h a
def spA {α β : Type} (args : α → List Sl) (ok : α → Prop) (R : α → β → Prop) (F : β → D) : Spec := fun ss Q => ∃ a : α, ss = args a ∧ ok a ∧ ∀ b, R a b → Q (F b)
theorem spA_mono {α β : Type} {args : α → List Sl} {ok : α → Prop} {R : α → β → Prop} {F : β → D} : ∀ ss (Q Q' : D → Prop), (∀ d, Q d → Q' d) → spA args ok R F ss Q → spA args ok R F ss Q' := fun ss Q Q' k ⟨a, e, h, q⟩ => ⟨a, e, h, fun b hb => k _ (q b hb)⟩
theorem spA_len {α β : Type} {args : α → List Sl} {ok : α → Prop} {R : α → β → Prop} {F : β → D} {n : Nat} (h : ∀ a, (args a).length = n) : ∀ ss (Q : D → Prop), spA args ok R F ss Q → ss.length = n := fun ss Q ⟨a, e, _⟩ => by rw [e]; exact h a
/-! ### words, tables -/
abbrev iS (i : Int) : Sl := .sh (.int i)
abbrev nD (n : Nat) : DL.D := .int (n : Int)
abbrev W := List Nat
def wD (w : W) : DL.D := .tuple (w.map nD)
structure M where
  a : Nat
  b : Nat
  c : Nat
  d : Nat
deriving DecidableEq
def M.D (m : M) : DL.D := .tuple [.tuple [nD m.a, nD m.b], .tuple [nD m.c, nD m.d]]
def mulM (m n : M) : M := ⟨m.a * n.a + m.b * n.c, m.a * n.b + m.b * n.d, m.c * n.a + m.d * n.c, m.c * n.b + m.d * n.d⟩
def t0 : M := ⟨2, 1, 1, 1⟩
def t1 : M := ⟨5, 2, 2, 1⟩
def tL (l : Nat) : M := if l = 1 then t1 else t0
def tab (w : W) : M := w.foldl (fun m l => mulM m (tL l)) ⟨1, 0, 0, 1⟩
def M.lt (k : Nat) (m : M) : Prop := m.a < 2 ^ k ∧ m.b < 2 ^ k ∧ m.c < 2 ^ k ∧ m.d < 2 ^ k
def WOk (w : W) : Prop := w.length ≤ 60 ∧ ∀ l ∈ w, l ≤ 1
/-! ### the tree of words -/
def most12 : Nat := 1000000000000
structure Nd where
  u : W
  l : M
  v : W
  r : M
inductive Tr where
  | lf
  | nd (a b : Tr)
def Nd.w (x : Nd) : W := x.u ++ x.v
def Nd.m (x : Nd) : M := mulM x.l x.r
def Nd.lc (x : Nd) : Nd := ⟨x.u, x.l, x.w, x.m⟩
def Nd.rc (x : Nd) : Nd := ⟨x.w, x.m, x.v, x.r⟩
def Nd.D (x : Nd) : DL.D := .tuple [wD x.u, x.l.D, wD x.v, x.r.D]
def grow : Nat → Nd → Tr
  | 0, _ => .lf
  | n + 1, x => if x.m.b ≤ most12 then .nd (grow n x.lc) (grow n x.rc) else .lf
def M.sm (m : M) : Bool := m.a.blt (2 ^ 200) && m.b.blt (2 ^ 200) && m.c.blt (2 ^ 200) && m.d.blt (2 ^ 200)
def Nd.sm (x : Nd) : Bool := x.l.sm && x.r.sm && (x.u.length + x.v.length).ble 100
def Tr.ok : Tr → Nd → Bool
  | .lf, x => x.sm && most12.blt x.m.b
  | .nd a b, x => x.sm && x.m.b.ble most12 && x.m.b.ble x.lc.m.b && x.m.b.ble x.rc.m.b && a.ok x.lc && b.ok x.rc
def Tr.pre : Tr → Nd → List (Nat × W)
  | .lf, _ => []
  | .nd a b, x => (x.m.b, x.w) :: (b.pre x.rc ++ a.pre x.lc)
def Tr.mu : Tr → Nat
  | .lf => 1
  | .nd a b => 1 + a.mu + b.mu
def x0 : Nd := ⟨[0], t0, [1], t1⟩
def T0 : Tr := grow 60 x0
def known : List (Nat × W) := (1, [0]) :: (2, [1]) :: T0.pre x0
theorem T0_ok : T0.ok x0 = true := by decide +kernel
theorem T0_mu : T0.mu ≤ 400 := by decide +kernel
def kD (p : Nat × W) : DL.D := .tuple [nD p.1, wD p.2]
def wordsOf (n : Nat) : List W := (known.filter fun p => p.1 == n).map (·.2)
/-! ### pairs -/
def PQ (x : Nat × Nat) : Prop := 1 ≤ x.1 ∧ 1 ≤ x.2 ∧ x.1 + x.2 ≤ 60 ∧ Nat.gcd x.1 x.2 = 1
def even (p q : Nat) : W := (List.range (p + q)).map fun i => (i + 1) * p / (p + q) - i * p / (p + q)
/-- the descent: one, other, u, v -/
def parts : Nat → Nat × Nat → Nat × Nat → W → W → Nat → Nat → W × W
  | 0, _, _, u, v, _, _ => (u, v)
  | n + 1, a, b, u, v, p, q =>
    if a.1 + b.1 = p ∧ a.2 + b.2 = q then (u, v)
    else if p * (a.2 + b.2) < (a.1 + b.1) * q then parts n a (a.1 + b.1, a.2 + b.2) u (u ++ v) p q
    else parts n (a.1 + b.1, a.2 + b.2) b (u ++ v) v p q
def partsOf (p q : Nat) : W × W := parts 70 (0, 1) (1, 0) [0] [1] p q
def ins (a : Nat) : List Nat → List Nat
  | [] => [a]
  | b :: r => if a ≤ b then a :: b :: r else b :: ins a r
def isort : List Nat → List Nat
  | [] => []
  | a :: r => ins a (isort r)
/-- a word, cut at s -/
def Cut (x : W × Nat) : Prop := 1 ≤ x.2 ∧ x.2 ≤ x.1.length ∧ 2 ≤ x.1.length ∧ WOk x.1 ∧ x.2 * x.1.sum % x.1.length = 1 ∧ ∀ t, 1 ≤ t → t < x.2 → t * x.1.sum % x.1.length ≠ 1
/-! ### specs -/
abbrev arW (w : W) : List Sl := [.sh (wD w)]
abbrev arMM (p : M × M) : List Sl := [.sh p.1.D, .sh p.2.D]
abbrev arPQ (x : Nat × Nat) : List Sl := [.sh (nD x.1), .sh (nD x.2)]
abbrev kn : DL.D := .list (known.map kD)
def S_table_times : Spec := spE arMM (fun p => p.1.lt 500 ∧ p.2.lt 500) fun p => (mulM p.1 p.2).D
def S__law_times : Spec := spE arMM (fun p => p.1.lt 500 ∧ p.2.lt 500) fun p => (mulM p.1 p.2).D
def S_word_table : Spec := spE arW (fun w => w.length ≤ 100) fun w => (tab w).D
def S__law_table : Spec := spE arW (fun w => w.length ≤ 100) fun w => (tab w).D
def S_markoff_number : Spec := spE arW (fun w => w.length ≤ 100) fun w => nD (tab w).b
def S_factor_pair : Spec := spE (fun x : W × Nat => [.sh (wD x.1)]) Cut fun x => .tuple [wD (x.1.take x.2), wD (x.1.drop x.2)]
def S_word_triple : Spec := spE (fun x : W × Nat => [.sh (wD x.1)]) Cut fun x => .tuple ((isort [(tab (x.1.take x.2)).b, (tab (x.1.drop x.2)).b, (tab x.1).b]).map nD)
def S_words_of_number : Spec := spE (fun n : Nat => [.sh (nD n)]) (fun n => 1 ≤ n ∧ n ≤ most12) fun n => .tuple ((wordsOf n).map wD)
def S__law_all_words : Spec := spE (fun _ : Unit => [iS 1000000000000]) (fun _ => True) fun _ => kn
def S__law_lowest_pair : Spec := spA (fun m : Int => [.bg, iS m]) (fun m => 2 ≤ m ∧ m ≤ 60) (fun _ x => PQ x) fun x : Nat × Nat => .tuple [nD x.1, nD x.2]
def S__law_own_pair : Spec := spA (fun _ : Unit => [.bg]) (fun _ => True) (fun _ x => PQ x) fun x : Nat × Nat => .tuple [nD x.1, nD x.2]
def S__law_even_word : Spec := spE arPQ PQ fun x => wD (even x.1 x.2)
def S__law_parts : Spec := spE arPQ PQ fun x => .tuple [wD (partsOf x.1 x.2).1, wD (partsOf x.1 x.2).2]
def S__law_own_word : Spec := spA (fun _ : Unit => [.bg]) (fun _ => True) (fun _ w => WOk w) wD
def S__law_is_word_right : Spec := spE (fun x : W × Bool => [.sh (wD x.1), .sh (.bool x.2)]) (fun x => WOk x.1) fun _ => .bool true
def S__law_are_triples_right : Spec := spE (fun _ : Unit => [.bg, .sh kn]) (fun _ => True) fun _ => .bool true
def S__law_are_numbers_right : Spec := spE (fun _ : Unit => [.bg, .sh kn]) (fun _ => True) fun _ => .bool true
def S__law_pick : Spec := spA (fun ds : List D => [.bg, .sh (.list ds)]) (fun ds => ds ≠ [] ∧ ds.length < 1000) (fun ds d => d ∈ ds) fun d => d
def S__law_own_bag : Spec := spOwn
def S__law_draw : Spec := spDraw
end T
end DL
namespace DL
namespace T
open PySem L2 PySem.Spec PyProof.Rows
def g_factor_pair : SS := (fSeqS (fPar [1, 2] (fMV (fCB bSumT (fLC (fN 0) fLN)) (fMV (fCB bLen (fLC (fN 0) fLN)) fAN))) (fSeqS (fPar [3, 4] (fMV (fC (.int 1)) (fMV (fV 1) fAN))) (fSeqS (fWhile (fCmp gNe (fBin gMod (fN 4) (fN 2)) (fC (.int 1))) (fPar [3, 4] (fMV (fBin gAdd (fN 3) (fC (.int 1))) (fMV (fBin gAdd (fN 4) (fN 1)) fAN)))) (fRet (fTup (fLC (fSlT (fN 0) fON (fOS (fN 3))) (fLC (fSlT (fN 0) (fOS (fN 3)) fON) fLN)))))))
abbrev N_factor_pair : List Str := ["word", "p", "n", "size", "rest"]
def g_table_times : SS := (fSeqS (fAsg (fV 0) (gSq 2 (gsCons (gSq 2 (gsCons (gNm 2) (gsCons (gNm 3) gsNil))) (gsCons (gSq 2 (gsCons (gNm 4) (gsCons (gNm 5) gsNil))) gsNil)))) (fSeqS (fAsg (fV 1) (gSq 2 (gsCons (gSq 2 (gsCons (gNm 6) (gsCons (gNm 7) gsNil))) (gsCons (gSq 2 (gsCons (gNm 8) (gsCons (gNm 9) gsNil))) gsNil)))) (fRet (fTup (fLC (fTup (fLC (fBin gAdd (fBin gMul (fN 2) (fN 6)) (fBin gMul (fN 3) (fN 8))) (fLC (fBin gAdd (fBin gMul (fN 2) (fN 7)) (fBin gMul (fN 3) (fN 9))) fLN))) (fLC (fTup (fLC (fBin gAdd (fBin gMul (fN 4) (fN 6)) (fBin gMul (fN 5) (fN 8))) (fLC (fBin gAdd (fBin gMul (fN 4) (fN 7)) (fBin gMul (fN 5) (fN 9))) fLN))) fLN))))))
abbrev N_table_times : List Str := ["one", "other", "a", "b", "c", "d", "e", "f", "g", "h"]
def g__law_own_bag : SS := (fSeqS (fSetN 1 (fLc [2] (fSeq (fNV fScr)) (gNm 2) fYes (fCB bAbs (fLC (fCB bInt (fLC (fN 2) fLN)) fLN)))) (fSeqS (fSet 3 (fBin gAdd (fC (.int 2468)) (fCB bLen (fLC (fN 1) fLN)))) (fSeqS (fFrz 1 (fForS (fSeq (fV 1)) (gNm 2) (fSet 3 (fBin gMod (fCB bInt (fLC (fBin gAdd (fBin gAdd (fBin gMul (fN 3) (fC (.int 48271))) (fBin gMod (fCB bInt (fLC (fN 2) fLN)) (fC (.int 2147483629)))) (fC (.int 7))) fLN)) (fC (.int 2147483647)))))) (fRet (fNV (fLC (fNV (fLRev (fNV (fSeq (fN 1))))) (fLC (fC (.int 0)) (fLC (fV 3) fLN))))))))
abbrev N__law_own_bag : List Str := ["script", "cells", "cell", "mixed"]
def g__law_even_word : SS := (fRet (fCB bTuple (fLC (fNV (fLc [2] (fRng1 (fBin gAdd (fN 0) (fN 1))) (gNm 2) fYes (fBin gSub (fBin gDiv (fBin gMul (fBin gAdd (fN 2) (fC (.int 1))) (fN 0)) (fBin gAdd (fN 0) (fN 1))) (fBin gDiv (fBin gMul (fN 2) (fN 0)) (fBin gAdd (fN 0) (fN 1)))))) fLN)))
abbrev N__law_even_word : List Str := ["p", "q", "i"]
def g__law_times : SS := (fSeqS (fAsg (fV 0) (gSq 2 (gsCons (gSq 2 (gsCons (gNm 2) (gsCons (gNm 3) gsNil))) (gsCons (gSq 2 (gsCons (gNm 4) (gsCons (gNm 5) gsNil))) gsNil)))) (fSeqS (fAsg (fV 1) (gSq 2 (gsCons (gSq 2 (gsCons (gNm 6) (gsCons (gNm 7) gsNil))) (gsCons (gSq 2 (gsCons (gNm 8) (gsCons (gNm 9) gsNil))) gsNil)))) (fRet (fTup (fLC (fTup (fLC (fBin gAdd (fBin gMul (fN 2) (fN 6)) (fBin gMul (fN 3) (fN 8))) (fLC (fBin gAdd (fBin gMul (fN 2) (fN 7)) (fBin gMul (fN 3) (fN 9))) fLN))) (fLC (fTup (fLC (fBin gAdd (fBin gMul (fN 4) (fN 6)) (fBin gMul (fN 5) (fN 8))) (fLC (fBin gAdd (fBin gMul (fN 4) (fN 7)) (fBin gMul (fN 5) (fN 9))) fLN))) fLN))))))
abbrev N__law_times : List Str := ["one", "other", "a", "b", "c", "d", "e", "f", "g", "h"]
def q__law_parts_0 : SS := (fIfS (fCmp gLt (fBin gMul (fN 0) (fBin gIx (fN 7) (fC (.int 1)))) (fBin gMul (fBin gIx (fN 7) (fC (.int 0))) (fN 1))) (fPar [3, 5] (fMV (fV 7) (fMV (fBin gAdd (fN 4) (fN 5)) fAN))) (fPar [2, 4] (fMV (fV 7) (fMV (fBin gAdd (fN 4) (fN 5)) fAN))))
def q__law_parts_1 : SS := (fSeqS (fIfS (fCmp gEq (fN 7) (fTup (fLC (fV 0) (fLC (fV 1) fLN)))) fBreak fNext) q__law_parts_0)
def q__law_parts_2 : SS := (fSeqS (fSet 7 (fTup (fLC (fBin gAdd (fBin gIx (fN 2) (fC (.int 0))) (fBin gIx (fN 3) (fC (.int 0)))) (fLC (fBin gAdd (fBin gIx (fN 2) (fC (.int 1))) (fBin gIx (fN 3) (fC (.int 1)))) fLN)))) q__law_parts_1)
def q__law_parts_3 : SS := (fSeqS (fForS (fRng1 (fC (.int 70))) (gNm 6) q__law_parts_2) (fRet (fTup (fLC (fV 4) (fLC (fV 5) fLN)))))
def g__law_parts : SS := (fSeqS (fAsg (fTup (fLC (fTup (fLC (fC (.int 0)) (fLC (fC (.int 1)) fLN))) (fLC (fTup (fLC (fC (.int 1)) (fLC (fC (.int 0)) fLN))) (fLC (fTup (fLC (fC (.int 0)) fLN)) (fLC (fTup (fLC (fC (.int 1)) fLN)) fLN))))) (gSq 4 (gsCons (gNm 2) (gsCons (gNm 3) (gsCons (gNm 4) (gsCons (gNm 5) gsNil)))))) q__law_parts_3)
abbrev N__law_parts : List Str := ["p", "q", "one", "other", "u", "v", "turn", "mid"]
def g_word_table : SS := (fSeqS (fSet 1 (fTup (fLC (fTup (fLC (fC (.int 1)) (fLC (fC (.int 0)) fLN))) (fLC (fTup (fLC (fC (.int 0)) (fLC (fC (.int 1)) fLN))) fLN)))) (fSeqS (fForS (fSeq (fV 0)) (gNm 2) (fSet 1 (fCall S_table_times (fAC (fV 1) (fAC (fIf (fCmp gEq (fN 2) (fC (.int 1))) (fTup (fLC (fTup (fLC (fC (.int 5)) (fLC (fC (.int 2)) fLN))) (fLC (fTup (fLC (fC (.int 2)) (fLC (fC (.int 1)) fLN))) fLN))) (fTup (fLC (fTup (fLC (fC (.int 2)) (fLC (fC (.int 1)) fLN))) (fLC (fTup (fLC (fC (.int 1)) (fLC (fC (.int 1)) fLN))) fLN)))) fAN))))) (fRet (fV 1))))
abbrev N_word_table : List Str := ["word", "found", "letter"]
def g__law_pick : SS := (fRet (fBin gIx (fN 1) (fCall S__law_draw (fAB 0 (fAC (fCB bLen (fLC (fN 1) fLN)) fAN)))))
abbrev N__law_pick : List Str := ["bag", "some"]
def q__law_lowest_pair_0 : SS := (fPar [5, 6] (fMV (fV 6) (fMV (fBin gMod (fCB bInt (fLC (fN 5) fLN)) (fN 6)) fAN)))
def q__law_lowest_pair_1 : SS := (fSet 3 (fIf (fCmp gLt (fBin gAdd (fN 3) (fC (.int 1))) (fN 2)) (fBin gAdd (fN 3) (fC (.int 1))) (fC (.int 1))))
def q__law_lowest_pair_2 : SS := (fSeqS (fIfS (fCmp gEq (fN 5) (fC (.int 1))) fBreak fNext) q__law_lowest_pair_1)
def q__law_lowest_pair_3 : SS := (fSeqS (fWhile (fCmp gGt (fN 6) (fC (.int 0))) q__law_lowest_pair_0) q__law_lowest_pair_2)
def q__law_lowest_pair_4 : SS := (fSeqS (fPar [5, 6] (fMV (fV 3) (fMV (fV 2) fAN))) q__law_lowest_pair_3)
def q__law_lowest_pair_5 : SS := (fRet (fTup (fLC (fV 3) (fLC (fBin gSub (fN 2) (fN 3)) fLN))))
def q__law_lowest_pair_6 : SS := (fSeqS (fForS (fRng1 (fN 2)) (gNm 4) q__law_lowest_pair_4) q__law_lowest_pair_5)
def q__law_lowest_pair_7 : SS := (fSeqS (fSet 3 (fBin gAdd (fC (.int 1)) (fCall S__law_draw (fAB 0 (fAC (fBin gSub (fN 2) (fC (.int 1))) fAN))))) q__law_lowest_pair_6)
def g__law_lowest_pair : SS := (fSeqS (fSet 2 (fBin gAdd (fC (.int 2)) (fCall S__law_draw (fAB 0 (fAC (fBin gSub (fN 1) (fC (.int 1))) fAN))))) q__law_lowest_pair_7)
abbrev N__law_lowest_pair : List Str := ["bag", "most", "n", "p", "turn", "one", "two"]
def g__law_table : SS := (fSeqS (fSet 1 (fTup (fLC (fTup (fLC (fC (.int 1)) (fLC (fC (.int 0)) fLN))) (fLC (fTup (fLC (fC (.int 0)) (fLC (fC (.int 1)) fLN))) fLN)))) (fSeqS (fForS (fSeq (fV 0)) (gNm 2) (fSet 1 (fCall S__law_times (fAC (fV 1) (fAC (fIf (fCmp gEq (fN 2) (fC (.int 1))) (fTup (fLC (fTup (fLC (fC (.int 5)) (fLC (fC (.int 2)) fLN))) (fLC (fTup (fLC (fC (.int 2)) (fLC (fC (.int 1)) fLN))) fLN))) (fTup (fLC (fTup (fLC (fC (.int 2)) (fLC (fC (.int 1)) fLN))) (fLC (fTup (fLC (fC (.int 1)) (fLC (fC (.int 1)) fLN))) fLN)))) fAN))))) (fRet (fV 1))))
abbrev N__law_table : List Str := ["word", "found", "letter"]
def q__law_all_words_0 : SS := (fApp 4 (fTup (fLC (fV 11) (fLC (fV 10) (fLC (fV 8) (fLC (fV 9) fLN))))))
def q__law_all_words_1 : SS := (fSeqS (fApp 4 (fTup (fLC (fV 6) (fLC (fV 7) (fLC (fV 11) (fLC (fV 10) fLN)))))) q__law_all_words_0)
def q__law_all_words_2 : SS := (fIfS (fCmp gLe (fBin gIx (fBin gIx (fN 10) (fC (.int 0))) (fC (.int 1))) (fN 0)) (fSeqS (fApp 3 (fTup (fLC (fBin gIx (fBin gIx (fN 10) (fC (.int 0))) (fC (.int 1))) (fLC (fV 11) fLN)))) q__law_all_words_1) fNext)
def q__law_all_words_3 : SS := (fSeqS (fPar [10, 11] (fMV (fCall S__law_times (fAC (fV 7) (fAC (fV 9) fAN))) (fMV (fBin gAdd (fN 6) (fN 8)) fAN))) q__law_all_words_2)
def q__law_all_words_4 : SS := (fSeqS (fPop 4 (gSq 4 (gsCons (gNm 6) (gsCons (gNm 7) (gsCons (gNm 8) (gsCons (gNm 9) gsNil)))))) q__law_all_words_3)
def q__law_all_words_5 : SS := (fSeqS (fIfS (fCmp gEq (fN 4) (fNV fLN)) fBreak fNext) q__law_all_words_4)
def q__law_all_words_6 : SS := (fSeqS (fForS (fRng1 (fC (.int 2000))) (gNm 5) q__law_all_words_5) (fFrz 3 (fRet (fV 3))))
def q__law_all_words_7 : SS := (fSeqS (fPar [3, 4] (fMN (fLC (fTup (fLC (fC (.int 1)) (fLC (fTup (fLC (fC (.int 0)) fLN)) fLN))) (fLC (fTup (fLC (fC (.int 2)) (fLC (fTup (fLC (fC (.int 1)) fLN)) fLN))) fLN)) (fMN (fLC (fTup (fLC (fTup (fLC (fC (.int 0)) fLN)) (fLC (fV 1) (fLC (fTup (fLC (fC (.int 1)) fLN)) (fLC (fV 2) fLN))))) fLN) fAN))) q__law_all_words_6)
def g__law_all_words : SS := (fSeqS (fAsg (fTup (fLC (fTup (fLC (fTup (fLC (fC (.int 2)) (fLC (fC (.int 1)) fLN))) (fLC (fTup (fLC (fC (.int 1)) (fLC (fC (.int 1)) fLN))) fLN))) (fLC (fTup (fLC (fTup (fLC (fC (.int 5)) (fLC (fC (.int 2)) fLN))) (fLC (fTup (fLC (fC (.int 2)) (fLC (fC (.int 1)) fLN))) fLN))) fLN))) (gSq 2 (gsCons (gNm 1) (gsCons (gNm 2) gsNil)))) q__law_all_words_7)
abbrev N__law_all_words : List Str := ["most", "zero", "single", "found", "stack", "turn", "u", "left", "v", "right", "both", "word"]
def g_markoff_number : SS := (fRet (fBin gIx (fBin gIx (fCall S_word_table (fAC (fV 0) fAN)) (fC (.int 0))) (fC (.int 1))))
abbrev N_markoff_number : List Str := ["word"]
def q__law_own_word_0 : SS := (fRet (fCB bTuple (fLC (fNV (fLc [3] (fRng1 (fN 1)) (gNm 3) fYes (fCall S__law_draw (fAB 0 (fAC (fC (.int 2)) fAN))))) fLN)))
def q__law_own_word_1 : SS := (fSeqS (fIfS (fCmp gEq (fN 2) (fC (.int 0))) (fRet (fBin gRepT (fTup (fLC (fCall S__law_draw (fAB 0 (fAC (fC (.int 2)) fAN))) fLN)) (fN 1))) fNext) q__law_own_word_0)
def q__law_own_word_2 : SS := (fSeqS (fSet 2 (fCall S__law_draw (fAB 0 (fAC (fC (.int 4)) fAN)))) q__law_own_word_1)
def g__law_own_word : SS := (fSeqS (fSet 1 (fCall S__law_pick (fAB 0 (fAC (fNV (fLC (fCall S__law_draw (fAB 0 (fAC (fC (.int 5)) fAN))) (fLC (fCall S__law_draw (fAB 0 (fAC (fC (.int 13)) fAN))) (fLC (fCall S__law_draw (fAB 0 (fAC (fC (.int 13)) fAN))) (fLC (fCall S__law_draw (fAB 0 (fAC (fC (.int 61)) fAN))) (fLC (fC (.int 60)) fLN)))))) fAN)))) q__law_own_word_2)
abbrev N__law_own_word : List Str := ["bag", "many", "way", "k"]
def q__law_own_pair_0 : SS := (fRet (fCall S__law_lowest_pair (fAB 0 (fAC (fCall S__law_pick (fAB 0 (fAC (fNV (fLC (fC (.int 6)) (fLC (fC (.int 12)) (fLC (fC (.int 24)) (fLC (fC (.int 60)) fLN))))) fAN))) fAN))))
def q__law_own_pair_1 : SS := (fSeqS (fIfS (fCmp gEq (fN 1) (fC (.int 1))) (fRet (fTup (fLC (fBin gAdd (fC (.int 1)) (fCall S__law_draw (fAB 0 (fAC (fC (.int 59)) fAN)))) (fLC (fC (.int 1)) fLN)))) fNext) q__law_own_pair_0)
def q__law_own_pair_2 : SS := (fSeqS (fIfS (fCmp gEq (fN 1) (fC (.int 0))) (fRet (fTup (fLC (fC (.int 1)) (fLC (fBin gAdd (fC (.int 1)) (fCall S__law_draw (fAB 0 (fAC (fC (.int 59)) fAN)))) fLN)))) fNext) q__law_own_pair_1)
def g__law_own_pair : SS := (fSeqS (fSet 1 (fCall S__law_draw (fAB 0 (fAC (fC (.int 5)) fAN)))) q__law_own_pair_2)
abbrev N__law_own_pair : List Str := ["bag", "way"]
def g_word_triple : SS := (fSeqS (fAsg (fCall S_factor_pair (fAC (fV 0) fAN)) (gSq 2 (gsCons (gNm 1) (gsCons (gNm 2) gsNil)))) (fRet (fCB bTuple (fLC (fNV (fSrt (fNV (fLc [3] (fSeq (fTup (fLC (fV 1) (fLC (fV 2) (fLC (fV 0) fLN))))) (gNm 3) fYes (fCall S_markoff_number (fAC (fV 3) fAN)))))) fLN))))
abbrev N_word_triple : List Str := ["word", "one", "other", "own"]
def q_words_of_number_0 : SS := (fExt 3 (fNV (fLC (fTup (fLC (fV 4) (fLC (fV 5) (fLC (fV 2) (fLC (fV 8) fLN))))) (fLC (fTup (fLC (fV 2) (fLC (fV 8) (fLC (fV 6) (fLC (fV 7) fLN))))) fLN))))
def q_words_of_number_1 : SS := (fIfS (fCmp gLe (fBin gIx (fBin gIx (fN 8) (fC (.int 0))) (fC (.int 1))) (fN 0)) (fSeqS (fExt 1 (fIf (fCmp gEq (fBin gIx (fBin gIx (fN 8) (fC (.int 0))) (fC (.int 1))) (fN 0)) (fNV (fLC (fV 2) fLN)) (fNV fLN))) q_words_of_number_0) fNext)
def q_words_of_number_2 : SS := (fSeqS (fPar [2, 8] (fMV (fBin gAdd (fN 4) (fN 6)) (fMV (fCall S_table_times (fAC (fV 5) (fAC (fV 7) fAN))) fAN))) q_words_of_number_1)
def q_words_of_number_3 : SS := (fSeqS (fPop 3 (gSq 4 (gsCons (gNm 4) (gsCons (gNm 5) (gsCons (gNm 6) (gsCons (gNm 7) gsNil)))))) q_words_of_number_2)
def q_words_of_number_4 : SS := (fSeqS (fWhile (fCmp gNe (fN 3) (fNV fLN)) q_words_of_number_3) (fRet (fCB bTuple (fLC (fNV (fSrt (fN 1))) fLN))))
def q_words_of_number_5 : SS := (fSeqS (fSetN 3 (fLC (fTup (fLC (fTup (fLC (fC (.int 0)) fLN)) (fLC (fCall S_word_table (fAC (fTup (fLC (fC (.int 0)) fLN)) fAN)) (fLC (fTup (fLC (fC (.int 1)) fLN)) (fLC (fCall S_word_table (fAC (fTup (fLC (fC (.int 1)) fLN)) fAN)) fLN))))) fLN)) q_words_of_number_4)
def g_words_of_number : SS := (fSeqS (fSetN 1 (fLc [2] (fSeq (fTup (fLC (fTup (fLC (fC (.int 0)) fLN)) (fLC (fTup (fLC (fC (.int 1)) fLN)) fLN)))) (gNm 2) (fCmp gEq (fCall S_markoff_number (fAC (fV 2) fAN)) (fN 0)) (fV 2))) q_words_of_number_5)
abbrev N_words_of_number : List Str := ["number", "found", "word", "here", "one", "first", "other", "second", "table"]
def g__law_is_word_right : SS := (fSeqS (fSet 2 (fCall S__law_table (fAC (fV 0) fAN))) (fSeqS (fIfS (fTV (fN 1)) (fSet 3 (fNV (fLC (fCallK S_word_table [0] (fAC (fV 0) fAN)) (fLC (fCallK S_markoff_number [0] (fAC (fV 0) fAN)) fLN)))) (fSet 3 (fNV (fLC (fCall S_word_table (fAC (fV 0) fAN)) (fLC (fCall S_markoff_number (fAC (fV 0) fAN)) fLN))))) (fRet (fBin (gv gEq) (fCB bRepr (fLC (fN 3) fLN)) (fCB bRepr (fLC (fNV (fLC (fV 2) (fLC (fBin gIx (fBin gIx (fN 2) (fC (.int 0))) (fC (.int 1))) fLN))) fLN))))))
abbrev N__law_is_word_right : List Str := ["word", "is_named", "due", "told"]
def q__law_are_triples_right_0 : SS := (fIfS (fAnd (fCmp gLe (fN 13) (fBin gPow (fC (.int 10)) (fC (.int 12)))) (fOr (fCmp gNotIn (fN 13) (fN 2)) (fCmp gNe (fCB bRepr (fLC (fCall S_words_of_number (fAC (fV 13) fAN)) fLN)) (fCB bRepr (fLC (fTup (fLC (fV 4) fLN)) fLN))))) (fRet (fC (.bool false))) fNext)
def q__law_are_triples_right_1 : SS := (fSeqS (fIfS (fOr (fCmp gNe (fBin gAdd (fBin gAdd (fBin gMul (fN 11) (fN 11)) (fBin gMul (fN 12) (fN 12))) (fBin gMul (fN 13) (fN 13))) (fBin gMul (fBin gMul (fBin gMul (fC (.int 3)) (fN 11)) (fN 12)) (fN 13))) (fNot (fTV (fCall S__law_is_word_right (fAC (fV 4) (fAC (fBin (gv gEq) (fN 5) (fC (.int 2))) fAN)))))) (fRet (fC (.bool false))) fNext) q__law_are_triples_right_0)
def q__law_are_triples_right_2 : SS := (fSeqS (fAsg (fV 10) (gSq 3 (gsCons (gNm 11) (gsCons (gNm 12) (gsCons (gNm 13) gsNil))))) q__law_are_triples_right_1)
def q__law_are_triples_right_3 : SS := (fSeqS (fIfS (fOr (fCmp gNe (fBin gAdd (fN 8) (fN 9)) (fN 4)) (fCmp gNe (fCB bRepr (fLC (fIf (fCmp gEq (fN 5) (fC (.int 1))) (fCallK S_word_triple [0] (fAC (fV 4) fAN)) (fCall S_word_triple (fAC (fV 4) fAN))) fLN)) (fCB bRepr (fLC (fCB bTuple (fLC (fN 10) fLN)) fLN)))) (fRet (fC (.bool false))) fNext) q__law_are_triples_right_2)
def q__law_are_triples_right_4 : SS := (fSeqS (fSet 10 (fNV (fSrt (fNV (fLC (fBin gIx (fBin gIx (fCall S__law_table (fAC (fV 8) fAN)) (fC (.int 0))) (fC (.int 1))) (fLC (fBin gIx (fBin gIx (fCall S__law_table (fAC (fV 9) fAN)) (fC (.int 0))) (fC (.int 1))) (fLC (fBin gIx (fBin gIx (fCall S__law_table (fAC (fV 4) fAN)) (fC (.int 0))) (fC (.int 1))) fLN))))))) q__law_are_triples_right_3)
def q__law_are_triples_right_5 : SS := (fSeqS (fSet 4 (fCall S__law_even_word (fAC (fV 6) (fAC (fV 7) fAN)))) q__law_are_triples_right_4)
def q__law_are_triples_right_6 : SS := (fSeqS (fAsg (fCall S__law_parts (fAC (fV 6) (fAC (fV 7) fAN))) (gSq 2 (gsCons (gNm 8) (gsCons (gNm 9) gsNil)))) q__law_are_triples_right_5)
def q__law_are_triples_right_7 : SS := (fSeqS (fAsg (fCall S__law_own_pair (fAB 0 fAN)) (gSq 2 (gsCons (gNm 6) (gsCons (gNm 7) gsNil)))) q__law_are_triples_right_6)
def q__law_are_triples_right_8 : SS := (fSeqS (fForS (fRng1 (fC (.int 5))) (gNm 5) q__law_are_triples_right_7) (fRet (fC (.bool true))))
def g__law_are_triples_right : SS := (fSeqS (fSetN 2 (fLc [3, 4] (fSeq (fV 1)) (gSq 2 (gsCons (gNm 3) (gsCons (gNm 4) gsNil))) fYes (fV 3))) q__law_are_triples_right_8)
abbrev N__law_are_triples_right : List Str := ["bag", "known", "numbers", "number", "word", "k", "p", "q", "u", "v", "three", "x", "y", "z"]
def q__law_are_numbers_right_0 : SS := (fIfS (fCmp gNe (fCB bRepr (fLC (fN 11) fLN)) (fCB bRepr (fLC (fN 8) fLN))) (fRet (fC (.bool false))) fNext)
def q__law_are_numbers_right_1 : SS := (fSeqS (fSet 11 (fIf (fCmp gEq (fN 6) (fC (.int 2))) (fCallK S_words_of_number [0] (fAC (fV 7) fAN)) (fCall S_words_of_number (fAC (fV 7) fAN)))) q__law_are_numbers_right_0)
def q__law_are_numbers_right_2 : SS := (fSeqS (fSet 8 (fCB bTuple (fLC (fNV (fSrt (fNV (fLc [9, 10] (fSeq (fV 1)) (gSq 2 (gsCons (gNm 9) (gsCons (gNm 10) gsNil))) (fCmp gEq (fN 9) (fN 7)) (fV 10))))) fLN))) q__law_are_numbers_right_1)
def q__law_are_numbers_right_3 : SS := (fSeqS (fSet 7 (fCB bMin2 (fLC (fN 7) (fLC (fBin gPow (fC (.int 10)) (fC (.int 12))) fLN)))) q__law_are_numbers_right_2)
def q__law_are_numbers_right_4 : SS := (fRet (fAndV (fBin (gv gEq) (fCB bRepr (fLC (fCall S_word_table (fAC (fV 3) fAN)) fLN)) (fCB bRepr (fLC (fCall S__law_table (fAC (fV 3) fAN)) fLN))) (fBin (gv gEq) (fCB bRepr (fLC (fCall S_markoff_number (fAC (fV 3) fAN)) fLN)) (fCB bRepr (fLC (fN 2) fLN)))))
def q__law_are_numbers_right_5 : SS := (fSeqS (fForS (fEnum (fV 5)) (gSq 2 (gsCons (gNm 6) (gsCons (gNm 7) gsNil))) q__law_are_numbers_right_3) q__law_are_numbers_right_4)
def q__law_are_numbers_right_6 : SS := (fSeqS (fSet 5 (fBin gAdd (fN 5) (fNV (fLC (fCall S__law_pick (fAB 0 (fAC (fNV (fLC (fC (.int 1)) (fLC (fC (.int 2)) (fLC (fC (.int 5)) (fLC (fBin gPow (fC (.int 10)) (fC (.int 12))) (fLC (fBin gSub (fBin gPow (fC (.int 10)) (fC (.int 12))) (fC (.int 1))) fLN)))))) fAN))) (fLC (fV 2) fLN))))) q__law_are_numbers_right_5)
def q__law_are_numbers_right_7 : SS := (fSeqS (fSet 5 (fNV (fLC (fV 2) (fLC (fBin gAdd (fN 2) (fC (.int 1))) (fLC (fCB bMax2 (fLC (fC (.int 1)) (fLC (fBin gSub (fN 4) (fC (.int 1))) fLN))) (fLC (fBin gAdd (fC (.int 1)) (fCall S__law_draw (fAB 0 (fAC (fC (.int 60)) fAN)))) (fLC (fBin gAdd (fC (.int 1)) (fCall S__law_draw (fAB 0 (fAC (fBin gPow (fC (.int 10)) (fC (.int 12))) fAN)))) (fLC (fV 4) fLN)))))))) q__law_are_numbers_right_6)
def q__law_are_numbers_right_8 : SS := (fSeqS (fSet 4 (fBin gIx (fCall S__law_pick (fAB 0 (fAC (fV 1) fAN))) (fC (.int 0)))) q__law_are_numbers_right_7)
def g__law_are_numbers_right : SS := (fSeqS (fAsg (fCall S__law_pick (fAB 0 (fAC (fV 1) fAN))) (gSq 2 (gsCons (gNm 2) (gsCons (gNm 3) gsNil)))) q__law_are_numbers_right_8)
abbrev N__law_are_numbers_right : List Str := ["bag", "known", "number", "word", "other", "some", "k", "one", "due", "many", "own", "told"]
def q_law_0 : SS := (fIfS (fNot (fTV (fCall S__law_is_word_right (fAC (fV 6) (fAC (fBin (gv gEq) (fBin gMod (fCB bInt (fLC (fN 4) fLN)) (fC (.int 3))) (fC (.int 1))) fAN))))) (fRet (fC (.bool false))) fNext)
def q_law_1 : SS := (fRet (fAndV (fCall S__law_is_word_right (fAC (fBin gIx (fN 3) (fC (.int 0))) (fAC (fC (.bool false)) fAN))) (fBin (gv gEq) (fCB bRepr (fLC (fN 3) fLN)) (fN 5))))
def q_law_2 : SS := (fSeqS (fIfS (fOr (fNot (fTV (fCall S__law_are_triples_right (fAB 1 (fAC (fV 2) fAN))))) (fNot (fTV (fCall S__law_are_numbers_right (fAB 1 (fAC (fV 2) fAN)))))) (fRet (fC (.bool false))) fNext) q_law_1)
def q_law_3 : SS := (fSeqS (fForS (fEnum (fBin gAdd (fN 3) (fNV (fSlL (fN 3) fON (fOS (fC (.int 1))))))) (gSq 2 (gsCons (gNm 4) (gsCons (gNm 6) gsNil))) q_law_0) q_law_2)
def q_law_4 : SS := (fSeqS (fSet 3 (fBin gAdd (fNV (fLc [4] (fRng1 (fC (.int 4))) (gNm 4) fYes (fCall S__law_own_word (fAB 1 fAN)))) (fNV (fLC (fTup fLN) (fLC (fTup (fLC (fC (.int 0)) fLN)) (fLC (fTup (fLC (fC (.int 1)) fLN)) fLN)))))) (fSeqS (fSet 5 (fCB bRepr (fLC (fN 3) fLN))) q_law_3))
def g_law : SS := (fSeqS (fSet 2 (fCall S__law_all_words (fAC (fBin gPow (fC (.int 10)) (fC (.int 12))) fAN))) q_law_4)
abbrev N_law : List Str := ["script", "bag", "known", "some", "k", "kept", "word"]
end T
end DL
namespace DL
namespace T
open PySem L2 PySem.Spec PyProof.Rows
theorem seq_go {A B : SS} {E : En} {ρ : Env} (h : A ⟨B E, E.rt, E.bk, E.ct⟩ ρ) : fSeqS A B E ρ := h
theorem mw {i j : Int} {k l : Nat} (h : Sm k i) (h' : Sm l j) (hs : k + l + 2 ≤ 1000000 := by omega) : CMulW i j := Sm.mulw h h' hs
theorem go_draw {n : Int} {Q : D → Prop} (h : 0 < n) (hn : n.natAbs.log2 < 9000) (hq : ∀ r : Int, 0 ≤ r → r < n → Q (.int r)) : S__law_draw [.bg, iS n] Q := ⟨n, rfl, h, hn, hq⟩
theorem lg_small {n : Int} (h0 : 0 ≤ n) (h : n < 1099511627776) : n.natAbs.log2 < 9000 := Sm.log (k := 40) (Sm.nat h0 h)
theorem r__law_pick : ∀ ss (Q : D → Prop), S__law_pick ss Q → g__law_pick (endsOf Q) (initE N__law_pick ss) := by
  rintro ss Q ⟨ds, rfl, ⟨hne, hl⟩, hq⟩
  have pos : 0 < ds.length := List.length_pos_iff.mpr hne
  simp only [N__law_pick, initE, List.length_cons, List.length_nil, Nat.reduceAdd, Nat.reduceSub, List.replicate, List.cons_append, List.nil_append, List.append_nil]
  simp only [g__law_pick, fSeqS, fSet, fSetN, fRet, fIfS, fNext, fBreak, fCont, fNever, fBin, fCmp, fV, fN, fC, lk, lk_z, lk_s, gAdd, gSub, gMul, gDiv, gMod, gPow, gShl, gShlW, gShr, gv, gLt, gLe, gGt, gGe, gEq, gNe, gIx, fNeg, fTV, fNot, fAnd, fOr, fAndV, fOrV, fNotV, fIf, fLN, fLC, fAN, fAC, fAB, fNV, fTup, fCB, bInt, bAbs, bLen, bMax2, bMin2, bTuple, fSeq, seqOf, fCall, fCallK, fAsg, gNm, gsNil, gsCons, gTpl, gSq, fPar, fMV, fMN, setAll, fApp, fExt, fSetIx, fFrz, fForS, fRng1, fRng2, fBits, fON, fOS, fSlT, fSlL, List.set_cons_zero, List.set_cons_succ, List.length_cons, List.length_nil, endsOf, decide_eq_true_eq, true_and, and_true, at0, at1, at2, at3, at4, Bool.not_eq_true', decide_eq_false_iff_not, lg2, Int.reduceLT, ↓reduceIte]
  refine go_draw (by omega) (lg_small (by omega) (by omega)) fun r h0 h1 => ?_
  obtain ⟨j, rfl⟩ : ∃ j : Nat, r = (j : Int) := ⟨r.toNat, by omega⟩
  have hj : j < ds.length := by omega
  have e : atI ds ((j : Nat) : Int) = some ds[j] := atI_nat (List.getElem?_eq_getElem hj)
  simp only [fSeqS, fSet, fSetN, fRet, fIfS, fNext, fBreak, fCont, fNever, fBin, fCmp, fV, fN, fC, lk, lk_z, lk_s, gAdd, gSub, gMul, gDiv, gMod, gPow, gShl, gShlW, gShr, gv, gLt, gLe, gGt, gGe, gEq, gNe, gIx, fNeg, fTV, fNot, fAnd, fOr, fAndV, fOrV, fNotV, fIf, fLN, fLC, fAN, fAC, fAB, fNV, fTup, fCB, bInt, bAbs, bLen, bMax2, bMin2, bTuple, fSeq, seqOf, fCall, fCallK, fAsg, gNm, gsNil, gsCons, gTpl, gSq, fPar, fMV, fMN, setAll, fApp, fExt, fSetIx, fFrz, fForS, fRng1, fRng2, fBits, fON, fOS, fSlT, fSlL, List.set_cons_zero, List.set_cons_succ, List.length_cons, List.length_nil, endsOf, decide_eq_true_eq, true_and, and_true, at0, at1, at2, at3, at4, Bool.not_eq_true', decide_eq_false_iff_not, lg2, Int.reduceLT, ↓reduceIte, e]
  exact hq _ (List.getElem_mem hj)
theorem go_pick {ds : List D} {Q : D → Prop} (h1 : ds ≠ []) (h2 : ds.length < 1000) (hq : ∀ d ∈ ds, Q d) : S__law_pick [.bg, .sh (.list ds)] Q :=
  ⟨ds, rfl, ⟨h1, h2⟩, hq⟩
theorem pw {k : Nat} (h : k ≤ 1000) : CPow 10 ((k : Nat) : Int) := ⟨by omega, by omega, by decide⟩
theorem pw12 : CPow 10 12 := pw (k := 12) (by decide)
theorem tp12 : (10 : Int) ^ (12 : Int).toNat = 1000000000000 := by decide
theorem r__law_own_bag : ∀ ss (Q : D → Prop), S__law_own_bag ss Q → g__law_own_bag (endsOf Q) (initE N__law_own_bag ss) := by
  rintro ss Q ⟨rfl, hq⟩
  simp only [N__law_own_bag, initE, List.length_cons, List.length_nil, Nat.reduceAdd, Nat.reduceSub, List.replicate, List.cons_append, List.nil_append, List.append_nil]
  unfold g__law_own_bag
  refine seq_go ?_
  simp only [fSeqS, fSet, fSetN, fRet, fIfS, fNext, fBreak, fCont, fNever, fBin, fCmp, fV, fN, fC, lk, lk_z, lk_s, gAdd, gSub, gMul, gDiv, gMod, gPow, gShl, gShlW, gShr, gv, gLt, gLe, gGt, gGe, gEq, gNe, gIx, fNeg, fTV, fNot, fAnd, fOr, fAndV, fOrV, fNotV, fIf, fLN, fLC, fAN, fAC, fAB, fNV, fTup, fCB, bInt, bAbs, bLen, bMax2, bMin2, bTuple, fSeq, seqOf, fCall, fCallK, fAsg, gNm, gsNil, gsCons, gTpl, gSq, fPar, fMV, fMN, setAll, fApp, fExt, fSetIx, fFrz, fForS, fRng1, fRng2, fBits, fON, fOS, fSlT, fSlL, List.set_cons_zero, List.set_cons_succ, List.length_cons, List.length_nil, endsOf, decide_eq_true_eq, true_and, and_true, at0, at1, at2, at3, at4, Bool.not_eq_true', decide_eq_false_iff_not, lg2, Int.reduceLT, ↓reduceIte, fLc, fScr, wipeE]
  intro ms hml
  refine ⟨by rw [List.length_map]; exact hml, ?_⟩
  refine lc_of (fun ds K => ∃ m : List Int, ds = m.map PyData.int ∧ ∀ cs : List Int, cs.length ≤ m.length → (∀ x ∈ cs, 0 ≤ x) → K (cs.map PyData.int)) ?_ ?_ _ _ ⟨ms, rfl, ?_⟩
  · rintro d ds K ⟨m, e, hK⟩ L hL
    cases m with
    | nil => cases e
    | cons i m =>
      cases e
      simp only [fSeqS, fSet, fSetN, fRet, fIfS, fNext, fBreak, fCont, fNever, fBin, fCmp, fV, fN, fC, lk, lk_z, lk_s, gAdd, gSub, gMul, gDiv, gMod, gPow, gShl, gShlW, gShr, gv, gLt, gLe, gGt, gGe, gEq, gNe, gIx, fNeg, fTV, fNot, fAnd, fOr, fAndV, fOrV, fNotV, fIf, fLN, fLC, fAN, fAC, fAB, fNV, fTup, fCB, bInt, bAbs, bLen, bMax2, bMin2, bTuple, fSeq, seqOf, fCall, fCallK, fAsg, gNm, gsNil, gsCons, gTpl, gSq, fPar, fMV, fMN, setAll, fApp, fExt, fSetIx, fFrz, fForS, fRng1, fRng2, fBits, fON, fOS, fSlT, fSlL, List.set_cons_zero, List.set_cons_succ, List.length_cons, List.length_nil, endsOf, decide_eq_true_eq, true_and, and_true, at0, at1, at2, at3, at4, Bool.not_eq_true', decide_eq_false_iff_not, lg2, Int.reduceLT, ↓reduceIte, fYes]
      refine hL _ ⟨m, rfl, fun cs hl h => hK ((if i < 0 then -i else i) :: cs) (by simp only [List.length_cons]; omega) fun x hx => ?_⟩
      rcases List.mem_cons.mp hx with rfl | hx
      · split <;> omega
      · exact h x hx
  · rintro K ⟨m, e, hK⟩
    cases m with
    | nil => exact hK [] (Nat.le_refl _) fun x hx => by cases hx
    | cons q m => cases e
  intro cs hcl hcs
  have hcl : cs.length ≤ 4000000 := Nat.le_trans hcl hml
  refine for_of (fun ds ρ => ∃ (c : List Int) (m : Int) (s : Sl), ds = c.map PyData.int ∧ ρ = [.bg, .sh (.list (cs.map PyData.int)), s, iS m] ∧ 0 ≤ m ∧ m < 2147483647) ?_ ?_ _ _ ⟨cs, _, _, rfl, rfl, by omega, by rw [List.length_map]; omega⟩
  · rintro d ds ρ ⟨c, m, s, e, rfl, m0, m1⟩ K hK
    cases c with
    | nil => cases e
    | cons x c =>
      cases e
      have sm : Sm 31 m := Sm.nat m0 (by omega)
      have sk : Sm 17 48271 := Sm.nat (by decide) (by decide)
      simp only [fSeqS, fSet, fSetN, fRet, fIfS, fNext, fBreak, fCont, fNever, fBin, fCmp, fV, fN, fC, lk, lk_z, lk_s, gAdd, gSub, gMul, gDiv, gMod, gPow, gShl, gShlW, gShr, gv, gLt, gLe, gGt, gGe, gEq, gNe, gIx, fNeg, fTV, fNot, fAnd, fOr, fAndV, fOrV, fNotV, fIf, fLN, fLC, fAN, fAC, fAB, fNV, fTup, fCB, bInt, bAbs, bLen, bMax2, bMin2, bTuple, fSeq, seqOf, fCall, fCallK, fAsg, gNm, gsNil, gsCons, gTpl, gSq, fPar, fMV, fMN, setAll, fApp, fExt, fSetIx, fFrz, fForS, fRng1, fRng2, fBits, fON, fOS, fSlT, fSlL, List.set_cons_zero, List.set_cons_succ, List.length_cons, List.length_nil, endsOf, decide_eq_true_eq, true_and, and_true, at0, at1, at2, at3, at4, Bool.not_eq_true', decide_eq_false_iff_not, lg2, Int.reduceLT, ↓reduceIte]
      refine ⟨mw sm sk, hK _ ⟨c, _, _, rfl, rfl, Int.emod_nonneg _ (by decide), Int.emod_lt_of_pos _ (by decide)⟩⟩
  · rintro ρ ⟨c, m, s, _, rfl, m0, m1⟩
    simp only [fSeqS, fSet, fSetN, fRet, fIfS, fNext, fBreak, fCont, fNever, fBin, fCmp, fV, fN, fC, lk, lk_z, lk_s, gAdd, gSub, gMul, gDiv, gMod, gPow, gShl, gShlW, gShr, gv, gLt, gLe, gGt, gGe, gEq, gNe, gIx, fNeg, fTV, fNot, fAnd, fOr, fAndV, fOrV, fNotV, fIf, fLN, fLC, fAN, fAC, fAB, fNV, fTup, fCB, bInt, bAbs, bLen, bMax2, bMin2, bTuple, fSeq, seqOf, fCall, fCallK, fAsg, gNm, gsNil, gsCons, gTpl, gSq, fPar, fMV, fMN, setAll, fApp, fExt, fSetIx, fFrz, fForS, fRng1, fRng2, fBits, fON, fOS, fSlT, fSlL, List.set_cons_zero, List.set_cons_succ, List.length_cons, List.length_nil, endsOf, decide_eq_true_eq, true_and, and_true, at0, at1, at2, at3, at4, Bool.not_eq_true', decide_eq_false_iff_not, lg2, Int.reduceLT, ↓reduceIte, fLRev]
    have := hq cs.reverse m (fun x hx => hcs x (List.mem_reverse.mp hx)) m0 m1
    rwa [List.map_reverse] at this
theorem sN {k n : Nat} (h : n < 2 ^ k) : Sm k (n : Int) := by
  unfold Sm
  rwa [Int.natAbs_natCast]
theorem M.D_eq (m : M) : m.D = .tuple [.tuple [nD m.a, nD m.b], .tuple [nD m.c, nD m.d]] := rfl
theorem mul_D (m n : M) : (mulM m n).D = .tuple [.tuple [.int (m.a * n.a + m.b * n.c), .int (m.a * n.b + m.b * n.d)], .tuple [.int (m.c * n.a + m.d * n.c), .int (m.c * n.b + m.d * n.d)]] := by
  unfold M.D mulM nD
  simp only [Int.natCast_add, Int.natCast_mul]
theorem r_table_times : ∀ ss (Q : D → Prop), S_table_times ss Q → g_table_times (endsOf Q) (initE N_table_times ss) := by
  rintro ss Q ⟨⟨m, n⟩, rfl, ⟨⟨a0, a1, a2, a3⟩, ⟨b0, b1, b2, b3⟩⟩, hq⟩
  have hq : Q (mulM m n).D := hq
  rw [mul_D] at hq
  simp only [N_table_times, arMM, M.D_eq, initE, List.length_cons, List.length_nil, Nat.reduceAdd, Nat.reduceSub, List.replicate, List.cons_append, List.nil_append, List.append_nil]
  simp only [g_table_times, fSeqS, fSet, fSetN, fRet, fIfS, fNext, fBreak, fCont, fNever, fBin, fCmp, fV, fN, fC, lk, lk_z, lk_s, gAdd, gSub, gMul, gDiv, gMod, gPow, gShl, gShlW, gShr, gv, gLt, gLe, gGt, gGe, gEq, gNe, gIx, fNeg, fTV, fNot, fAnd, fOr, fAndV, fOrV, fNotV, fIf, fLN, fLC, fAN, fAC, fAB, fNV, fTup, fCB, bInt, bAbs, bLen, bMax2, bMin2, bTuple, fSeq, seqOf, fCall, fCallK, fAsg, gNm, gsNil, gsCons, gTpl, gSq, fPar, fMV, fMN, setAll, fApp, fExt, fSetIx, fFrz, fForS, fRng1, fRng2, fBits, fON, fOS, fSlT, fSlL, List.set_cons_zero, List.set_cons_succ, List.length_cons, List.length_nil, endsOf, decide_eq_true_eq, true_and, and_true, at0, at1, at2, at3, at4, Bool.not_eq_true', decide_eq_false_iff_not, lg2, Int.reduceLT, ↓reduceIte]
  exact ⟨mw (sN a0) (sN b0), mw (sN a1) (sN b2), mw (sN a0) (sN b1), mw (sN a1) (sN b3), mw (sN a2) (sN b0), mw (sN a3) (sN b2), mw (sN a2) (sN b1), mw (sN a3) (sN b3), hq⟩
theorem r__law_times : ∀ ss (Q : D → Prop), S__law_times ss Q → g__law_times (endsOf Q) (initE N__law_times ss) := r_table_times
end T
end DL
namespace DL
namespace T
open PySem L2 PySem.Spec PyProof.Rows
theorem lt_mul {k : Nat} {m : M} (h : m.lt k) (l : Nat) : (mulM m (tL l)).lt (k + 3) := by
  obtain ⟨h0, h1, h2, h3⟩ := h
  have e : 2 ^ (k + 3) = 8 * 2 ^ k := by rw [Nat.pow_add]; omega
  unfold tL
  split
  · refine ⟨?_, ?_, ?_, ?_⟩ <;> rw [e] <;> simp only [mulM, t1] <;> omega
  · refine ⟨?_, ?_, ?_, ?_⟩ <;> rw [e] <;> simp only [mulM, t0] <;> omega
theorem M.lt.le {k l : Nat} {m : M} (h : m.lt k) (hl : k ≤ l) : m.lt l := by
  have := Nat.pow_le_pow_right (n := 2) (by decide) hl
  exact ⟨Nat.lt_of_lt_of_le h.1 this, Nat.lt_of_lt_of_le h.2.1 this, Nat.lt_of_lt_of_le h.2.2.1 this, Nat.lt_of_lt_of_le h.2.2.2 this⟩
theorem fold_lt : ∀ (w : W) (k : Nat) (m : M), m.lt k → (w.foldl (fun m l => mulM m (tL l)) m).lt (k + 3 * w.length)
  | [], _, _, h => h
  | l :: w, k, m, h => by
    rw [List.foldl_cons, List.length_cons]
    exact (fold_lt w (k + 3) _ (lt_mul h l)).le (by omega)
theorem tab_lt (w : W) : (tab w).lt (1 + 3 * w.length) := fold_lt w 1 _ ⟨by decide, by decide, by decide, by decide⟩
theorem tL_lt (l : Nat) : (tL l).lt 3 := by
  unfold tL
  split
  · exact ⟨by decide, by decide, by decide, by decide⟩
  · exact ⟨by decide, by decide, by decide, by decide⟩
theorem go_table_times {m n : M} {Q : D → Prop} (hm : m.lt 500) (hn : n.lt 500) (hq : Q (mulM m n).D) : S_table_times [.sh m.D, .sh n.D] Q := ⟨(m, n), rfl, ⟨hm, hn⟩, hq⟩
theorem go__law_times {m n : M} {Q : D → Prop} (hm : m.lt 500) (hn : n.lt 500) (hq : Q (mulM m n).D) : S__law_times [.sh m.D, .sh n.D] Q := ⟨(m, n), rfl, ⟨hm, hn⟩, hq⟩
theorem dec_one (l : Nat) : decide ((l : Int) = 1) = decide (l = 1) := by
  by_cases h : l = 1
  · subst h; rfl
  · rw [decide_eq_false h, decide_eq_false (by omega)]
theorem t1_D : t1.D = .tuple [.tuple [.int 5, .int 2], .tuple [.int 2, .int 1]] := rfl
theorem t0_D : t0.D = .tuple [.tuple [.int 2, .int 1], .tuple [.int 1, .int 1]] := rfl
theorem r_word_table : ∀ ss (Q : D → Prop), S_word_table ss Q → g_word_table (endsOf Q) (initE N_word_table ss) := by
  rintro ss Q ⟨w, rfl, hw, hq⟩
  have hq : Q (tab w).D := hq
  simp only [N_word_table, arW, wD, initE, List.length_cons, List.length_nil, Nat.reduceAdd, Nat.reduceSub, List.replicate, List.cons_append, List.nil_append, List.append_nil]
  simp only [g_word_table, fSeqS, fSet, fSetN, fRet, fIfS, fNext, fBreak, fCont, fNever, fBin, fCmp, fV, fN, fC, lk, lk_z, lk_s, gAdd, gSub, gMul, gDiv, gMod, gPow, gShl, gShlW, gShr, gv, gLt, gLe, gGt, gGe, gEq, gNe, gIx, fNeg, fTV, fNot, fAnd, fOr, fAndV, fOrV, fNotV, fIf, fLN, fLC, fAN, fAC, fAB, fNV, fTup, fCB, bInt, bAbs, bLen, bMax2, bMin2, bTuple, fSeq, seqOf, fCall, fCallK, fAsg, gNm, gsNil, gsCons, gTpl, gSq, fPar, fMV, fMN, setAll, fApp, fExt, fSetIx, fFrz, fForS, fRng1, fRng2, fBits, fON, fOS, fSlT, fSlL, List.set_cons_zero, List.set_cons_succ, List.length_cons, List.length_nil, endsOf, decide_eq_true_eq, true_and, and_true, at0, at1, at2, at3, at4, Bool.not_eq_true', decide_eq_false_iff_not, lg2, Int.reduceLT, ↓reduceIte]
  refine for_of (fun ds ρ => ∃ (v : W) (m : M) (s : Sl), ds = v.map nD ∧ ρ = [.sh (.tuple (w.map nD)), .sh m.D, s] ∧ m.lt (1 + 3 * (w.length - v.length)) ∧ v.length ≤ w.length ∧ v.foldl (fun m l => mulM m (tL l)) m = tab w) ?_ ?_ _ _ ⟨w, ⟨1, 0, 0, 1⟩, _, rfl, rfl, by rw [Nat.sub_self]; exact ⟨by decide, by decide, by decide, by decide⟩, Nat.le_refl _, rfl⟩
  · rintro d ds ρ ⟨v, m, s, e, rfl, hm, hl, hf⟩ K hK
    cases v with
    | nil => cases e
    | cons l v =>
      cases e
      rw [List.length_cons] at hl hm
      simp only [fSeqS, fSet, fSetN, fRet, fIfS, fNext, fBreak, fCont, fNever, fBin, fCmp, fV, fN, fC, lk, lk_z, lk_s, gAdd, gSub, gMul, gDiv, gMod, gPow, gShl, gShlW, gShr, gv, gLt, gLe, gGt, gGe, gEq, gNe, gIx, fNeg, fTV, fNot, fAnd, fOr, fAndV, fOrV, fNotV, fIf, fLN, fLC, fAN, fAC, fAB, fNV, fTup, fCB, bInt, bAbs, bLen, bMax2, bMin2, bTuple, fSeq, seqOf, fCall, fCallK, fAsg, gNm, gsNil, gsCons, gTpl, gSq, fPar, fMV, fMN, setAll, fApp, fExt, fSetIx, fFrz, fForS, fRng1, fRng2, fBits, fON, fOS, fSlT, fSlL, List.set_cons_zero, List.set_cons_succ, List.length_cons, List.length_nil, endsOf, decide_eq_true_eq, true_and, and_true, at0, at1, at2, at3, at4, Bool.not_eq_true', decide_eq_false_iff_not, lg2, Int.reduceLT, ↓reduceIte]
      have step : S_table_times [.sh m.D, .sh (tL l).D] fun d => K [.sh (.tuple (w.map nD)), .sh d, .sh (nD l)] := by
        refine go_table_times (hm.le (by omega)) ((tL_lt l).le (by decide)) (hK _ ⟨v, _, _, rfl, rfl, ?_, by omega, hf⟩)
        exact (lt_mul hm l).le (by omega)
      unfold tL at step
      rw [← t1_D, ← t0_D]
      by_cases h : l = 1
      · rw [if_pos h] at step
        rw [if_pos (by omega)]
        exact step
      · rw [if_neg h] at step
        rw [if_neg (by omega)]
        exact step
  · rintro ρ ⟨v, m, s, e, rfl, _, _, hf⟩
    cases v with
    | cons l v => cases e
    | nil =>
      simp only [fSeqS, fSet, fSetN, fRet, fIfS, fNext, fBreak, fCont, fNever, fBin, fCmp, fV, fN, fC, lk, lk_z, lk_s, gAdd, gSub, gMul, gDiv, gMod, gPow, gShl, gShlW, gShr, gv, gLt, gLe, gGt, gGe, gEq, gNe, gIx, fNeg, fTV, fNot, fAnd, fOr, fAndV, fOrV, fNotV, fIf, fLN, fLC, fAN, fAC, fAB, fNV, fTup, fCB, bInt, bAbs, bLen, bMax2, bMin2, bTuple, fSeq, seqOf, fCall, fCallK, fAsg, gNm, gsNil, gsCons, gTpl, gSq, fPar, fMV, fMN, setAll, fApp, fExt, fSetIx, fFrz, fForS, fRng1, fRng2, fBits, fON, fOS, fSlT, fSlL, List.set_cons_zero, List.set_cons_succ, List.length_cons, List.length_nil, endsOf, decide_eq_true_eq, true_and, and_true, at0, at1, at2, at3, at4, Bool.not_eq_true', decide_eq_false_iff_not, lg2, Int.reduceLT, ↓reduceIte]
      have hf : m = tab w := hf
      rw [hf]; exact hq
theorem r__law_table : ∀ ss (Q : D → Prop), S__law_table ss Q → g__law_table (endsOf Q) (initE N__law_table ss) := by
  rintro ss Q ⟨w, rfl, hw, hq⟩
  have := r_word_table _ Q ⟨w, rfl, hw, hq⟩
  exact this
theorem go_word_table {w : W} {Q : D → Prop} (h : w.length ≤ 100) (hq : Q (tab w).D) : S_word_table [.sh (wD w)] Q := ⟨w, rfl, h, hq⟩
theorem go__law_table {w : W} {Q : D → Prop} (h : w.length ≤ 100) (hq : Q (tab w).D) : S__law_table [.sh (wD w)] Q := ⟨w, rfl, h, hq⟩
theorem r_markoff_number : ∀ ss (Q : D → Prop), S_markoff_number ss Q → g_markoff_number (endsOf Q) (initE N_markoff_number ss) := by
  rintro ss Q ⟨w, rfl, hw, hq⟩
  have hq : Q (nD (tab w).b) := hq
  simp only [N_markoff_number, arW, initE, List.length_cons, List.length_nil, Nat.reduceAdd, Nat.reduceSub, List.replicate, List.cons_append, List.nil_append, List.append_nil]
  simp only [g_markoff_number, fSeqS, fSet, fSetN, fRet, fIfS, fNext, fBreak, fCont, fNever, fBin, fCmp, fV, fN, fC, lk, lk_z, lk_s, gAdd, gSub, gMul, gDiv, gMod, gPow, gShl, gShlW, gShr, gv, gLt, gLe, gGt, gGe, gEq, gNe, gIx, fNeg, fTV, fNot, fAnd, fOr, fAndV, fOrV, fNotV, fIf, fLN, fLC, fAN, fAC, fAB, fNV, fTup, fCB, bInt, bAbs, bLen, bMax2, bMin2, bTuple, fSeq, seqOf, fCall, fCallK, fAsg, gNm, gsNil, gsCons, gTpl, gSq, fPar, fMV, fMN, setAll, fApp, fExt, fSetIx, fFrz, fForS, fRng1, fRng2, fBits, fON, fOS, fSlT, fSlL, List.set_cons_zero, List.set_cons_succ, List.length_cons, List.length_nil, endsOf, decide_eq_true_eq, true_and, and_true, at0, at1, at2, at3, at4, Bool.not_eq_true', decide_eq_false_iff_not, lg2, Int.reduceLT, ↓reduceIte]
  refine go_word_table hw ?_
  simp only [fSeqS, fSet, fSetN, fRet, fIfS, fNext, fBreak, fCont, fNever, fBin, fCmp, fV, fN, fC, lk, lk_z, lk_s, gAdd, gSub, gMul, gDiv, gMod, gPow, gShl, gShlW, gShr, gv, gLt, gLe, gGt, gGe, gEq, gNe, gIx, fNeg, fTV, fNot, fAnd, fOr, fAndV, fOrV, fNotV, fIf, fLN, fLC, fAN, fAC, fAB, fNV, fTup, fCB, bInt, bAbs, bLen, bMax2, bMin2, bTuple, fSeq, seqOf, fCall, fCallK, fAsg, gNm, gsNil, gsCons, gTpl, gSq, fPar, fMV, fMN, setAll, fApp, fExt, fSetIx, fFrz, fForS, fRng1, fRng2, fBits, fON, fOS, fSlT, fSlL, List.set_cons_zero, List.set_cons_succ, List.length_cons, List.length_nil, endsOf, decide_eq_true_eq, true_and, and_true, at0, at1, at2, at3, at4, Bool.not_eq_true', decide_eq_false_iff_not, lg2, Int.reduceLT, ↓reduceIte, M.D_eq]
  exact hq
theorem go_markoff_number {w : W} {Q : D → Prop} (h : w.length ≤ 100) (hq : Q (nD (tab w).b)) : S_markoff_number [.sh (wD w)] Q := ⟨w, rfl, h, hq⟩
end T
end DL
namespace DL
namespace T
open PySem L2 PySem.Spec PyProof.Rows
theorem map_int (w : W) : w.map nD = (w.map fun n => ((n : Nat) : Int)).map PyData.int := by
  rw [List.map_map]; rfl
theorem sum_nat : ∀ w : W, (w.map fun n => ((n : Nat) : Int)).sum = ((w.sum : Nat) : Int)
  | [] => rfl
  | n :: w => by
    rw [List.map_cons, List.sum_cons, sum_nat w, List.sum_cons, Int.natCast_add]
theorem sum_le : ∀ w : W, (∀ l ∈ w, l ≤ 1) → w.sum ≤ w.length
  | [], _ => Nat.le_refl _
  | n :: w, h => by
    have := sum_le w fun l hl => h l (List.mem_cons_of_mem _ hl)
    have := h n List.mem_cons_self
    rw [List.sum_cons, List.length_cons]; omega
theorem cut_lo (w : W) (s : Nat) (h : s ≤ w.length) : cutD (w.map nD) none (some (s : Int)) = (w.take s).map nD := by
  unfold cutD
  rw [HT.sIx_none, HT.sIx_nat, List.length_map, List.drop_zero, Nat.sub_zero, Nat.min_eq_left h, List.map_take]
theorem cut_hi (w : W) (s : Nat) (h : s ≤ w.length) : cutD (w.map nD) (some (s : Int)) none = (w.drop s).map nD := by
  unfold cutD
  rw [HT.sIx_none, HT.sIx_nat, List.length_map, Nat.min_eq_left h, ← List.map_drop, List.take_of_length_le (by rw [List.length_map, List.length_drop]; omega)]
theorem r_factor_pair : ∀ ss (Q : D → Prop), S_factor_pair ss Q → g_factor_pair (endsOf Q) (initE N_factor_pair ss) := by
  rintro ss Q ⟨⟨w, s⟩, rfl, ⟨h1, h2, h3, h4, h5, h6⟩, hq⟩
  simp only at h1 h2 h3 h4 h5 h6
  have hq : Q (.tuple [wD (w.take s), wD (w.drop s)]) := hq
  simp only [N_factor_pair, wD, initE, List.length_cons, List.length_nil, Nat.reduceAdd, Nat.reduceSub, List.replicate, List.cons_append, List.nil_append, List.append_nil]
  have e1 : asInts (w.map nD) = some (w.map fun n => ((n : Nat) : Int)) := by rw [map_int]; exact asInts_map _
  simp only [g_factor_pair, fSeqS, fSet, fSetN, fRet, fIfS, fNext, fBreak, fCont, fNever, fBin, fCmp, fV, fN, fC, lk, lk_z, lk_s, gAdd, gSub, gMul, gDiv, gMod, gPow, gShl, gShlW, gShr, gv, gLt, gLe, gGt, gGe, gEq, gNe, gIx, fNeg, fTV, fNot, fAnd, fOr, fAndV, fOrV, fNotV, fIf, fLN, fLC, fAN, fAC, fAB, fNV, fTup, fCB, bInt, bAbs, bLen, bMax2, bMin2, bTuple, fSeq, seqOf, fCall, fCallK, fAsg, gNm, gsNil, gsCons, gTpl, gSq, fPar, fMV, fMN, setAll, fApp, fExt, fSetIx, fFrz, fForS, fRng1, fRng2, fBits, fON, fOS, fSlT, fSlL, List.set_cons_zero, List.set_cons_succ, List.length_cons, List.length_nil, endsOf, decide_eq_true_eq, true_and, and_true, at0, at1, at2, at3, at4, Bool.not_eq_true', decide_eq_false_iff_not, lg2, Int.reduceLT, ↓reduceIte, bSumT, e1, sum_nat, List.length_map]
  refine while_of (fun m ρ => ∃ t : Nat, ρ = [.sh (.tuple (w.map nD)), .sh (nD w.sum), .sh (nD w.length), .sh (nD t), .sh (nD (t * w.sum))] ∧ 1 ≤ t ∧ t ≤ s ∧ m = s - t) ?_ _ _ ⟨1, by rw [Nat.one_mul]; rfl, Nat.le_refl _, h1, rfl⟩
  rintro m ρ ⟨t, rfl, ht1, ht2, rfl⟩ K hK
  simp only [fSeqS, fSet, fSetN, fRet, fIfS, fNext, fBreak, fCont, fNever, fBin, fCmp, fV, fN, fC, lk, lk_z, lk_s, gAdd, gSub, gMul, gDiv, gMod, gPow, gShl, gShlW, gShr, gv, gLt, gLe, gGt, gGe, gEq, gNe, gIx, fNeg, fTV, fNot, fAnd, fOr, fAndV, fOrV, fNotV, fIf, fLN, fLC, fAN, fAC, fAB, fNV, fTup, fCB, bInt, bAbs, bLen, bMax2, bMin2, bTuple, fSeq, seqOf, fCall, fCallK, fAsg, gNm, gsNil, gsCons, gTpl, gSq, fPar, fMV, fMN, setAll, fApp, fExt, fSetIx, fFrz, fForS, fRng1, fRng2, fBits, fON, fOS, fSlT, fSlL, List.set_cons_zero, List.set_cons_succ, List.length_cons, List.length_nil, endsOf, decide_eq_true_eq, true_and, and_true, at0, at1, at2, at3, at4, Bool.not_eq_true', decide_eq_false_iff_not, lg2, Int.reduceLT, ↓reduceIte]
  rw [if_pos (by omega)]
  have em : ((t * w.sum : Nat) : Int) % (w.length : Nat) = ((t * w.sum % w.length : Nat) : Int) := (Int.natCast_emod ..).symm
  by_cases h : t = s
  · subst h
    rw [em, h5, if_neg (by simp)]
    simp only [fSeqS, fSet, fSetN, fRet, fIfS, fNext, fBreak, fCont, fNever, fBin, fCmp, fV, fN, fC, lk, lk_z, lk_s, gAdd, gSub, gMul, gDiv, gMod, gPow, gShl, gShlW, gShr, gv, gLt, gLe, gGt, gGe, gEq, gNe, gIx, fNeg, fTV, fNot, fAnd, fOr, fAndV, fOrV, fNotV, fIf, fLN, fLC, fAN, fAC, fAB, fNV, fTup, fCB, bInt, bAbs, bLen, bMax2, bMin2, bTuple, fSeq, seqOf, fCall, fCallK, fAsg, gNm, gsNil, gsCons, gTpl, gSq, fPar, fMV, fMN, setAll, fApp, fExt, fSetIx, fFrz, fForS, fRng1, fRng2, fBits, fON, fOS, fSlT, fSlL, List.set_cons_zero, List.set_cons_succ, List.length_cons, List.length_nil, endsOf, decide_eq_true_eq, true_and, and_true, at0, at1, at2, at3, at4, Bool.not_eq_true', decide_eq_false_iff_not, lg2, Int.reduceLT, ↓reduceIte, cut_lo w t h2, cut_hi w t h2]
    exact hq
  · rw [em, if_pos (fun z => h6 t ht1 (by omega) (by omega))]
    refine hK (s - (t + 1)) _ (by omega) ⟨t + 1, ?_, by omega, by omega, rfl⟩
    rw [Nat.add_mul, Nat.one_mul]; rfl
end T
end DL
namespace DL
namespace T
open PySem L2 PySem.Spec PyProof.Rows
theorem ins_perm (a : Nat) : ∀ l : List Nat, (ins a l).Perm (a :: l)
  | [] => .refl _
  | b :: r => by
    unfold ins
    split
    · exact .refl _
    · exact (List.Perm.cons b (ins_perm a r)).trans (.swap a b r)
theorem isort_perm : ∀ l : List Nat, (isort l).Perm l
  | [] => .refl _
  | a :: r => (ins_perm a _).trans (.cons a (isort_perm r))
theorem ins_sorted (a : Nat) : ∀ l : List Nat, l.Pairwise (· ≤ ·) → (ins a l).Pairwise (· ≤ ·)
  | [], _ => List.pairwise_singleton _ _
  | b :: r, h => by
    have hb := List.pairwise_cons.mp h
    unfold ins
    split
    · rename_i l
      refine List.pairwise_cons.mpr ⟨fun x hx => ?_, h⟩
      rcases List.mem_cons.mp hx with rfl | hx
      · exact l
      · exact Nat.le_trans l (hb.1 x hx)
    · rename_i l
      refine List.pairwise_cons.mpr ⟨fun x hx => ?_, ins_sorted a r hb.2⟩
      rcases List.mem_cons.mp ((ins_perm a r).mem_iff.mp hx) with rfl | hx
      · omega
      · exact hb.1 x hx
theorem isort_sorted : ∀ l : List Nat, (isort l).Pairwise (· ≤ ·)
  | [] => List.Pairwise.nil
  | a :: r => ins_sorted a _ (isort_sorted r)
theorem sorted_unique : ∀ (l m : List Int), l.Perm m → l.Pairwise (· ≤ ·) → m.Pairwise (· ≤ ·) → l = m
  | [], m, p, _, _ => (p.symm.eq_nil).symm
  | a :: l, [], p, _, _ => absurd p.eq_nil (by simp)
  | a :: l, b :: m, p, h, k => by
    have h1 := List.pairwise_cons.mp h
    have k1 := List.pairwise_cons.mp k
    have e : a = b := by
      have ha : a ∈ b :: m := p.mem_iff.mp List.mem_cons_self
      have hb : b ∈ a :: l := p.mem_iff.mpr List.mem_cons_self
      rcases List.mem_cons.mp ha with e | ha
      · exact e
      · rcases List.mem_cons.mp hb with e | hb
        · exact e.symm
        · have := h1.1 b hb
          have := k1.1 a ha
          omega
    subst e
    rw [sorted_unique l m (List.Perm.cons_inv p) h1.2 k1.2]
/-- sorted of nats -/
theorem srt_go {ns : List Nat} {Q : List D → Prop} (hq : Q ((isort ns).map nD)) : ∃ ms : List Int, ns.map nD = ms.map PyData.int ∧ ∀ ns' : List Int, ns'.Perm ms → ns'.Pairwise (· ≤ ·) → Q (ns'.map PyData.int) := by
  refine ⟨ns.map fun n => ((n : Nat) : Int), map_int ns, fun ns' p s => ?_⟩
  have e : ns' = (isort ns).map fun n => ((n : Nat) : Int) := by
    refine sorted_unique _ _ (p.trans ((isort_perm ns).symm.map _)) s ?_
    exact List.pairwise_map.mpr ((isort_sorted ns).imp fun h => by omega)
  subst e
  rw [← map_int]; exact hq
theorem go_factor_pair {w : W} {s : Nat} {Q : D → Prop} (h : Cut (w, s)) (hq : Q (.tuple [wD (w.take s), wD (w.drop s)])) : S_factor_pair [.sh (wD w)] Q := ⟨(w, s), rfl, h, hq⟩
theorem r_word_triple : ∀ ss (Q : D → Prop), S_word_triple ss Q → g_word_triple (endsOf Q) (initE N_word_triple ss) := by
  rintro ss Q ⟨⟨w, s⟩, rfl, h, hq⟩
  have hl : w.length ≤ 60 := h.2.2.2.1.1
  have hq : Q (.tuple ((isort [(tab (w.take s)).b, (tab (w.drop s)).b, (tab w).b]).map nD)) := hq
  simp only [N_word_triple, initE, List.length_cons, List.length_nil, Nat.reduceAdd, Nat.reduceSub, List.replicate, List.cons_append, List.nil_append, List.append_nil]
  unfold g_word_triple
  refine seq_go ?_
  simp only [fSeqS, fSet, fSetN, fRet, fIfS, fNext, fBreak, fCont, fNever, fBin, fCmp, fV, fN, fC, lk, lk_z, lk_s, gAdd, gSub, gMul, gDiv, gMod, gPow, gShl, gShlW, gShr, gv, gLt, gLe, gGt, gGe, gEq, gNe, gIx, fNeg, fTV, fNot, fAnd, fOr, fAndV, fOrV, fNotV, fIf, fLN, fLC, fAN, fAC, fAB, fNV, fTup, fCB, bInt, bAbs, bLen, bMax2, bMin2, bTuple, fSeq, seqOf, fCall, fCallK, fAsg, gNm, gsNil, gsCons, gTpl, gSq, fPar, fMV, fMN, setAll, fApp, fExt, fSetIx, fFrz, fForS, fRng1, fRng2, fBits, fON, fOS, fSlT, fSlL, List.set_cons_zero, List.set_cons_succ, List.length_cons, List.length_nil, endsOf, decide_eq_true_eq, true_and, and_true, at0, at1, at2, at3, at4, Bool.not_eq_true', decide_eq_false_iff_not, lg2, Int.reduceLT, ↓reduceIte]
  refine go_factor_pair h ?_
  simp only [fSeqS, fSet, fSetN, fRet, fIfS, fNext, fBreak, fCont, fNever, fBin, fCmp, fV, fN, fC, lk, lk_z, lk_s, gAdd, gSub, gMul, gDiv, gMod, gPow, gShl, gShlW, gShr, gv, gLt, gLe, gGt, gGe, gEq, gNe, gIx, fNeg, fTV, fNot, fAnd, fOr, fAndV, fOrV, fNotV, fIf, fLN, fLC, fAN, fAC, fAB, fNV, fTup, fCB, bInt, bAbs, bLen, bMax2, bMin2, bTuple, fSeq, seqOf, fCall, fCallK, fAsg, gNm, gsNil, gsCons, gTpl, gSq, fPar, fMV, fMN, setAll, fApp, fExt, fSetIx, fFrz, fForS, fRng1, fRng2, fBits, fON, fOS, fSlT, fSlL, List.set_cons_zero, List.set_cons_succ, List.length_cons, List.length_nil, endsOf, decide_eq_true_eq, true_and, and_true, at0, at1, at2, at3, at4, Bool.not_eq_true', decide_eq_false_iff_not, lg2, Int.reduceLT, ↓reduceIte, fLc, wipeE, lcRun, fYes]
  refine ⟨by simp only [List.length_cons, List.length_nil, most]; decide, ?_⟩
  simp only [fSeqS, fSet, fSetN, fRet, fIfS, fNext, fBreak, fCont, fNever, fBin, fCmp, fV, fN, fC, lk, lk_z, lk_s, gAdd, gSub, gMul, gDiv, gMod, gPow, gShl, gShlW, gShr, gv, gLt, gLe, gGt, gGe, gEq, gNe, gIx, fNeg, fTV, fNot, fAnd, fOr, fAndV, fOrV, fNotV, fIf, fLN, fLC, fAN, fAC, fAB, fNV, fTup, fCB, bInt, bAbs, bLen, bMax2, bMin2, bTuple, fSeq, seqOf, fCall, fCallK, fAsg, gNm, gsNil, gsCons, gTpl, gSq, fPar, fMV, fMN, setAll, fApp, fExt, fSetIx, fFrz, fForS, fRng1, fRng2, fBits, fON, fOS, fSlT, fSlL, List.set_cons_zero, List.set_cons_succ, List.length_cons, List.length_nil, endsOf, decide_eq_true_eq, true_and, and_true, at0, at1, at2, at3, at4, Bool.not_eq_true', decide_eq_false_iff_not, lg2, Int.reduceLT, ↓reduceIte, lcRun, fYes, wipeE, List.foldl_cons, List.foldl_nil]
  have l1 : (w.take s).length ≤ 100 := by rw [List.length_take]; omega
  have l2 : (w.drop s).length ≤ 100 := by rw [List.length_drop]; omega
  refine go_markoff_number l1 ?_
  try simp only [fSeqS, fSet, fSetN, fRet, fIfS, fNext, fBreak, fCont, fNever, fBin, fCmp, fV, fN, fC, lk, lk_z, lk_s, gAdd, gSub, gMul, gDiv, gMod, gPow, gShl, gShlW, gShr, gv, gLt, gLe, gGt, gGe, gEq, gNe, gIx, fNeg, fTV, fNot, fAnd, fOr, fAndV, fOrV, fNotV, fIf, fLN, fLC, fAN, fAC, fAB, fNV, fTup, fCB, bInt, bAbs, bLen, bMax2, bMin2, bTuple, fSeq, seqOf, fCall, fCallK, fAsg, gNm, gsNil, gsCons, gTpl, gSq, fPar, fMV, fMN, setAll, fApp, fExt, fSetIx, fFrz, fForS, fRng1, fRng2, fBits, fON, fOS, fSlT, fSlL, List.set_cons_zero, List.set_cons_succ, List.length_cons, List.length_nil, endsOf, decide_eq_true_eq, true_and, and_true, at0, at1, at2, at3, at4, Bool.not_eq_true', decide_eq_false_iff_not, lg2, Int.reduceLT, ↓reduceIte]
  refine go_markoff_number l2 ?_
  try simp only [fSeqS, fSet, fSetN, fRet, fIfS, fNext, fBreak, fCont, fNever, fBin, fCmp, fV, fN, fC, lk, lk_z, lk_s, gAdd, gSub, gMul, gDiv, gMod, gPow, gShl, gShlW, gShr, gv, gLt, gLe, gGt, gGe, gEq, gNe, gIx, fNeg, fTV, fNot, fAnd, fOr, fAndV, fOrV, fNotV, fIf, fLN, fLC, fAN, fAC, fAB, fNV, fTup, fCB, bInt, bAbs, bLen, bMax2, bMin2, bTuple, fSeq, seqOf, fCall, fCallK, fAsg, gNm, gsNil, gsCons, gTpl, gSq, fPar, fMV, fMN, setAll, fApp, fExt, fSetIx, fFrz, fForS, fRng1, fRng2, fBits, fON, fOS, fSlT, fSlL, List.set_cons_zero, List.set_cons_succ, List.length_cons, List.length_nil, endsOf, decide_eq_true_eq, true_and, and_true, at0, at1, at2, at3, at4, Bool.not_eq_true', decide_eq_false_iff_not, lg2, Int.reduceLT, ↓reduceIte]
  refine go_markoff_number (by omega) ?_
  exact .inl (srt_go (ns := [(tab (w.take s)).b, (tab (w.drop s)).b, (tab w).b]) (Q := fun ds => Q (.tuple ds)) hq)
end T
end DL
namespace DL
namespace T
open PySem L2 PySem.Spec PyProof.Rows
theorem zero_or_one {r : Int} (h0 : 0 ≤ r) (h1 : r < 2) : r = ((r.toNat : Nat) : Int) ∧ r.toNat ≤ 1 := ⟨by omega, by omega⟩
theorem rep_nat {n : Nat} (x : Nat) : (List.replicate n [nD x]).flatten = (List.replicate n x).map nD := by
  induction n with
  | zero => rfl
  | succ n ih => rw [List.replicate_succ, List.flatten_cons, ih, List.replicate_succ, List.map_cons]; rfl
/-- a row of drawn letters -/
theorem lc_letters {e : SE} {g : GT} {ρ : Env} (he : ∀ d (K : DL.D → Prop), (∀ l : Nat, l ≤ 1 → K (nD l)) → g d ρ fun ρ1 => e ρ1 K) : ∀ (ds : List DL.D) (Q : List DL.D → Prop), (∀ w : W, w.length = ds.length → (∀ l ∈ w, l ≤ 1) → Q (w.map nD)) → lcRun g fYes e ρ ds Q
  | [], Q, h => h [] rfl (fun l hl => by cases hl)
  | d :: ds, Q, h => by
    have := he d (fun y => lcRun g fYes e ρ ds fun ys => Q (y :: ys)) fun l hl => lc_letters he ds _ fun w e1 hw => h (l :: w) (by rw [List.length_cons, List.length_cons, e1]) fun x hx => by
      rcases List.mem_cons.mp hx with rfl | hx
      · exact hl
      · exact hw x hx
    exact this
theorem go_bit {Q : D → Prop} (hq : ∀ l : Nat, l ≤ 1 → Q (nD l)) : S__law_draw [.bg, iS 2] Q := go_draw (by decide) (by decide) fun r h0 h1 => by
  obtain ⟨e, h⟩ := zero_or_one h0 h1
  rw [e]; exact hq _ h
theorem r__law_own_word : ∀ ss (Q : D → Prop), S__law_own_word ss Q → g__law_own_word (endsOf Q) (initE N__law_own_word ss) := by
  rintro ss Q ⟨_, rfl, _, hq⟩
  simp only [N__law_own_word, initE, List.length_cons, List.length_nil, Nat.reduceAdd, Nat.reduceSub, List.replicate, List.cons_append, List.nil_append, List.append_nil]
  unfold g__law_own_word
  refine seq_go ?_
  simp only [fSeqS, fSet, fSetN, fRet, fIfS, fNext, fBreak, fCont, fNever, fBin, fCmp, fV, fN, fC, lk, lk_z, lk_s, gAdd, gSub, gMul, gDiv, gMod, gPow, gShl, gShlW, gShr, gv, gLt, gLe, gGt, gGe, gEq, gNe, gIx, fNeg, fTV, fNot, fAnd, fOr, fAndV, fOrV, fNotV, fIf, fLN, fLC, fAN, fAC, fAB, fNV, fTup, fCB, bInt, bAbs, bLen, bMax2, bMin2, bTuple, fSeq, seqOf, fCall, fCallK, fAsg, gNm, gsNil, gsCons, gTpl, gSq, fPar, fMV, fMN, setAll, fApp, fExt, fSetIx, fFrz, fForS, fRng1, fRng2, fBits, fON, fOS, fSlT, fSlL, List.set_cons_zero, List.set_cons_succ, List.length_cons, List.length_nil, endsOf, decide_eq_true_eq, true_and, and_true, at0, at1, at2, at3, at4, Bool.not_eq_true', decide_eq_false_iff_not, lg2, Int.reduceLT, ↓reduceIte]
  refine go_draw (by decide) (by decide) fun a a0 a1 => ?_
  try simp only [fSeqS, fSet, fSetN, fRet, fIfS, fNext, fBreak, fCont, fNever, fBin, fCmp, fV, fN, fC, lk, lk_z, lk_s, gAdd, gSub, gMul, gDiv, gMod, gPow, gShl, gShlW, gShr, gv, gLt, gLe, gGt, gGe, gEq, gNe, gIx, fNeg, fTV, fNot, fAnd, fOr, fAndV, fOrV, fNotV, fIf, fLN, fLC, fAN, fAC, fAB, fNV, fTup, fCB, bInt, bAbs, bLen, bMax2, bMin2, bTuple, fSeq, seqOf, fCall, fCallK, fAsg, gNm, gsNil, gsCons, gTpl, gSq, fPar, fMV, fMN, setAll, fApp, fExt, fSetIx, fFrz, fForS, fRng1, fRng2, fBits, fON, fOS, fSlT, fSlL, List.set_cons_zero, List.set_cons_succ, List.length_cons, List.length_nil, endsOf, decide_eq_true_eq, true_and, and_true, at0, at1, at2, at3, at4, Bool.not_eq_true', decide_eq_false_iff_not, lg2, Int.reduceLT, ↓reduceIte]
  refine go_draw (by decide) (by decide) fun b b0 b1 => ?_
  try simp only [fSeqS, fSet, fSetN, fRet, fIfS, fNext, fBreak, fCont, fNever, fBin, fCmp, fV, fN, fC, lk, lk_z, lk_s, gAdd, gSub, gMul, gDiv, gMod, gPow, gShl, gShlW, gShr, gv, gLt, gLe, gGt, gGe, gEq, gNe, gIx, fNeg, fTV, fNot, fAnd, fOr, fAndV, fOrV, fNotV, fIf, fLN, fLC, fAN, fAC, fAB, fNV, fTup, fCB, bInt, bAbs, bLen, bMax2, bMin2, bTuple, fSeq, seqOf, fCall, fCallK, fAsg, gNm, gsNil, gsCons, gTpl, gSq, fPar, fMV, fMN, setAll, fApp, fExt, fSetIx, fFrz, fForS, fRng1, fRng2, fBits, fON, fOS, fSlT, fSlL, List.set_cons_zero, List.set_cons_succ, List.length_cons, List.length_nil, endsOf, decide_eq_true_eq, true_and, and_true, at0, at1, at2, at3, at4, Bool.not_eq_true', decide_eq_false_iff_not, lg2, Int.reduceLT, ↓reduceIte]
  refine go_draw (by decide) (by decide) fun c c0 c1 => ?_
  try simp only [fSeqS, fSet, fSetN, fRet, fIfS, fNext, fBreak, fCont, fNever, fBin, fCmp, fV, fN, fC, lk, lk_z, lk_s, gAdd, gSub, gMul, gDiv, gMod, gPow, gShl, gShlW, gShr, gv, gLt, gLe, gGt, gGe, gEq, gNe, gIx, fNeg, fTV, fNot, fAnd, fOr, fAndV, fOrV, fNotV, fIf, fLN, fLC, fAN, fAC, fAB, fNV, fTup, fCB, bInt, bAbs, bLen, bMax2, bMin2, bTuple, fSeq, seqOf, fCall, fCallK, fAsg, gNm, gsNil, gsCons, gTpl, gSq, fPar, fMV, fMN, setAll, fApp, fExt, fSetIx, fFrz, fForS, fRng1, fRng2, fBits, fON, fOS, fSlT, fSlL, List.set_cons_zero, List.set_cons_succ, List.length_cons, List.length_nil, endsOf, decide_eq_true_eq, true_and, and_true, at0, at1, at2, at3, at4, Bool.not_eq_true', decide_eq_false_iff_not, lg2, Int.reduceLT, ↓reduceIte]
  refine go_draw (by decide) (by decide) fun d d0 d1 => ?_
  try simp only [fSeqS, fSet, fSetN, fRet, fIfS, fNext, fBreak, fCont, fNever, fBin, fCmp, fV, fN, fC, lk, lk_z, lk_s, gAdd, gSub, gMul, gDiv, gMod, gPow, gShl, gShlW, gShr, gv, gLt, gLe, gGt, gGe, gEq, gNe, gIx, fNeg, fTV, fNot, fAnd, fOr, fAndV, fOrV, fNotV, fIf, fLN, fLC, fAN, fAC, fAB, fNV, fTup, fCB, bInt, bAbs, bLen, bMax2, bMin2, bTuple, fSeq, seqOf, fCall, fCallK, fAsg, gNm, gsNil, gsCons, gTpl, gSq, fPar, fMV, fMN, setAll, fApp, fExt, fSetIx, fFrz, fForS, fRng1, fRng2, fBits, fON, fOS, fSlT, fSlL, List.set_cons_zero, List.set_cons_succ, List.length_cons, List.length_nil, endsOf, decide_eq_true_eq, true_and, and_true, at0, at1, at2, at3, at4, Bool.not_eq_true', decide_eq_false_iff_not, lg2, Int.reduceLT, ↓reduceIte]
  refine go_pick (by simp) (by simp) fun x hx => ?_
  obtain ⟨m, rfl, hm⟩ : ∃ m : Nat, x = nD m ∧ m ≤ 60 := by
    simp only [List.mem_cons, List.not_mem_nil, or_false] at hx
    rcases hx with rfl | rfl | rfl | rfl | rfl
    · exact ⟨a.toNat, by simp only [nD]; congr 1; omega, by omega⟩
    · exact ⟨b.toNat, by simp only [nD]; congr 1; omega, by omega⟩
    · exact ⟨c.toNat, by simp only [nD]; congr 1; omega, by omega⟩
    · exact ⟨d.toNat, by simp only [nD]; congr 1; omega, by omega⟩
    · exact ⟨60, rfl, by omega⟩
  unfold q__law_own_word_2
  refine seq_go ?_
  simp only [fSeqS, fSet, fSetN, fRet, fIfS, fNext, fBreak, fCont, fNever, fBin, fCmp, fV, fN, fC, lk, lk_z, lk_s, gAdd, gSub, gMul, gDiv, gMod, gPow, gShl, gShlW, gShr, gv, gLt, gLe, gGt, gGe, gEq, gNe, gIx, fNeg, fTV, fNot, fAnd, fOr, fAndV, fOrV, fNotV, fIf, fLN, fLC, fAN, fAC, fAB, fNV, fTup, fCB, bInt, bAbs, bLen, bMax2, bMin2, bTuple, fSeq, seqOf, fCall, fCallK, fAsg, gNm, gsNil, gsCons, gTpl, gSq, fPar, fMV, fMN, setAll, fApp, fExt, fSetIx, fFrz, fForS, fRng1, fRng2, fBits, fON, fOS, fSlT, fSlL, List.set_cons_zero, List.set_cons_succ, List.length_cons, List.length_nil, endsOf, decide_eq_true_eq, true_and, and_true, at0, at1, at2, at3, at4, Bool.not_eq_true', decide_eq_false_iff_not, lg2, Int.reduceLT, ↓reduceIte]
  refine go_draw (by decide) (by decide) fun y y0 y1 => ?_
  try simp only [fSeqS, fSet, fSetN, fRet, fIfS, fNext, fBreak, fCont, fNever, fBin, fCmp, fV, fN, fC, lk, lk_z, lk_s, gAdd, gSub, gMul, gDiv, gMod, gPow, gShl, gShlW, gShr, gv, gLt, gLe, gGt, gGe, gEq, gNe, gIx, fNeg, fTV, fNot, fAnd, fOr, fAndV, fOrV, fNotV, fIf, fLN, fLC, fAN, fAC, fAB, fNV, fTup, fCB, bInt, bAbs, bLen, bMax2, bMin2, bTuple, fSeq, seqOf, fCall, fCallK, fAsg, gNm, gsNil, gsCons, gTpl, gSq, fPar, fMV, fMN, setAll, fApp, fExt, fSetIx, fFrz, fForS, fRng1, fRng2, fBits, fON, fOS, fSlT, fSlL, List.set_cons_zero, List.set_cons_succ, List.length_cons, List.length_nil, endsOf, decide_eq_true_eq, true_and, and_true, at0, at1, at2, at3, at4, Bool.not_eq_true', decide_eq_false_iff_not, lg2, Int.reduceLT, ↓reduceIte]
  unfold q__law_own_word_1
  refine seq_go ?_
  simp only [fSeqS, fSet, fSetN, fRet, fIfS, fNext, fBreak, fCont, fNever, fBin, fCmp, fV, fN, fC, lk, lk_z, lk_s, gAdd, gSub, gMul, gDiv, gMod, gPow, gShl, gShlW, gShr, gv, gLt, gLe, gGt, gGe, gEq, gNe, gIx, fNeg, fTV, fNot, fAnd, fOr, fAndV, fOrV, fNotV, fIf, fLN, fLC, fAN, fAC, fAB, fNV, fTup, fCB, bInt, bAbs, bLen, bMax2, bMin2, bTuple, fSeq, seqOf, fCall, fCallK, fAsg, gNm, gsNil, gsCons, gTpl, gSq, fPar, fMV, fMN, setAll, fApp, fExt, fSetIx, fFrz, fForS, fRng1, fRng2, fBits, fON, fOS, fSlT, fSlL, List.set_cons_zero, List.set_cons_succ, List.length_cons, List.length_nil, endsOf, decide_eq_true_eq, true_and, and_true, at0, at1, at2, at3, at4, Bool.not_eq_true', decide_eq_false_iff_not, lg2, Int.reduceLT, ↓reduceIte]
  split
  · refine go_bit fun l hl => ?_
    try simp only [fSeqS, fSet, fSetN, fRet, fIfS, fNext, fBreak, fCont, fNever, fBin, fCmp, fV, fN, fC, lk, lk_z, lk_s, gAdd, gSub, gMul, gDiv, gMod, gPow, gShl, gShlW, gShr, gv, gLt, gLe, gGt, gGe, gEq, gNe, gIx, fNeg, fTV, fNot, fAnd, fOr, fAndV, fOrV, fNotV, fIf, fLN, fLC, fAN, fAC, fAB, fNV, fTup, fCB, bInt, bAbs, bLen, bMax2, bMin2, bTuple, fSeq, seqOf, fCall, fCallK, fAsg, gNm, gsNil, gsCons, gTpl, gSq, fPar, fMV, fMN, setAll, fApp, fExt, fSetIx, fFrz, fForS, fRng1, fRng2, fBits, fON, fOS, fSlT, fSlL, List.set_cons_zero, List.set_cons_succ, List.length_cons, List.length_nil, endsOf, decide_eq_true_eq, true_and, and_true, at0, at1, at2, at3, at4, Bool.not_eq_true', decide_eq_false_iff_not, lg2, Int.reduceLT, ↓reduceIte]
    simp only [gRepT]
    refine ⟨by simp, by omega, by omega, by simp, ?_⟩
    rw [Int.toNat_natCast, rep_nat]
    refine hq (List.replicate m l) ⟨by rw [List.length_replicate]; exact hm, fun x hx => ?_⟩
    rw [(List.mem_replicate.mp hx).2]; exact hl
  · unfold q__law_own_word_0
    simp only [fSeqS, fSet, fSetN, fRet, fIfS, fNext, fBreak, fCont, fNever, fBin, fCmp, fV, fN, fC, lk, lk_z, lk_s, gAdd, gSub, gMul, gDiv, gMod, gPow, gShl, gShlW, gShr, gv, gLt, gLe, gGt, gGe, gEq, gNe, gIx, fNeg, fTV, fNot, fAnd, fOr, fAndV, fOrV, fNotV, fIf, fLN, fLC, fAN, fAC, fAB, fNV, fTup, fCB, bInt, bAbs, bLen, bMax2, bMin2, bTuple, fSeq, seqOf, fCall, fCallK, fAsg, gNm, gsNil, gsCons, gTpl, gSq, fPar, fMV, fMN, setAll, fApp, fExt, fSetIx, fFrz, fForS, fRng1, fRng2, fBits, fON, fOS, fSlT, fSlL, List.set_cons_zero, List.set_cons_succ, List.length_cons, List.length_nil, endsOf, decide_eq_true_eq, true_and, and_true, at0, at1, at2, at3, at4, Bool.not_eq_true', decide_eq_false_iff_not, lg2, Int.reduceLT, ↓reduceIte, fLc, wipeE]
    refine ⟨by omega, by omega, by rw [rng_len]; unfold most; omega, ?_⟩
    refine lc_letters (fun d K hK => ?_) _ _ fun w e hw => ?_
    · simp only [fSeqS, fSet, fSetN, fRet, fIfS, fNext, fBreak, fCont, fNever, fBin, fCmp, fV, fN, fC, lk, lk_z, lk_s, gAdd, gSub, gMul, gDiv, gMod, gPow, gShl, gShlW, gShr, gv, gLt, gLe, gGt, gGe, gEq, gNe, gIx, fNeg, fTV, fNot, fAnd, fOr, fAndV, fOrV, fNotV, fIf, fLN, fLC, fAN, fAC, fAB, fNV, fTup, fCB, bInt, bAbs, bLen, bMax2, bMin2, bTuple, fSeq, seqOf, fCall, fCallK, fAsg, gNm, gsNil, gsCons, gTpl, gSq, fPar, fMV, fMN, setAll, fApp, fExt, fSetIx, fFrz, fForS, fRng1, fRng2, fBits, fON, fOS, fSlT, fSlL, List.set_cons_zero, List.set_cons_succ, List.length_cons, List.length_nil, endsOf, decide_eq_true_eq, true_and, and_true, at0, at1, at2, at3, at4, Bool.not_eq_true', decide_eq_false_iff_not, lg2, Int.reduceLT, ↓reduceIte]
      exact go_bit hK
    · refine hq w ⟨?_, hw⟩
      rw [e, rng_len]; omega
end T
end DL
namespace DL
namespace T
open PySem L2 PySem.Spec PyProof.Rows
theorem gcd_step (x y : Nat) : Nat.gcd y (x % y) = Nat.gcd x y := by
  rw [Nat.gcd_comm y, Nat.gcd_comm x, ← Nat.gcd_rec]
theorem go_lowest_pair {m : Int} {Q : D → Prop} (h0 : 2 ≤ m) (h1 : m ≤ 60) (hq : ∀ x : Nat × Nat, PQ x → Q (.tuple [nD x.1, nD x.2])) : S__law_lowest_pair [.bg, iS m] Q := ⟨m, rfl, ⟨h0, h1⟩, hq⟩
theorem r__law_lowest_pair : ∀ ss (Q : D → Prop), S__law_lowest_pair ss Q → g__law_lowest_pair (endsOf Q) (initE N__law_lowest_pair ss) := by
  rintro ss Q ⟨m, rfl, ⟨h0, h1⟩, hq⟩
  simp only [N__law_lowest_pair, initE, List.length_cons, List.length_nil, Nat.reduceAdd, Nat.reduceSub, List.replicate, List.cons_append, List.nil_append, List.append_nil]
  unfold g__law_lowest_pair
  refine seq_go ?_
  simp only [fSeqS, fSet, fSetN, fRet, fIfS, fNext, fBreak, fCont, fNever, fBin, fCmp, fV, fN, fC, lk, lk_z, lk_s, gAdd, gSub, gMul, gDiv, gMod, gPow, gShl, gShlW, gShr, gv, gLt, gLe, gGt, gGe, gEq, gNe, gIx, fNeg, fTV, fNot, fAnd, fOr, fAndV, fOrV, fNotV, fIf, fLN, fLC, fAN, fAC, fAB, fNV, fTup, fCB, bInt, bAbs, bLen, bMax2, bMin2, bTuple, fSeq, seqOf, fCall, fCallK, fAsg, gNm, gsNil, gsCons, gTpl, gSq, fPar, fMV, fMN, setAll, fApp, fExt, fSetIx, fFrz, fForS, fRng1, fRng2, fBits, fON, fOS, fSlT, fSlL, List.set_cons_zero, List.set_cons_succ, List.length_cons, List.length_nil, endsOf, decide_eq_true_eq, true_and, and_true, at0, at1, at2, at3, at4, Bool.not_eq_true', decide_eq_false_iff_not, lg2, Int.reduceLT, ↓reduceIte]
  refine go_draw (by omega) (lg_small (by omega) (by omega)) fun r r0 r1 => ?_
  try simp only [fSeqS, fSet, fSetN, fRet, fIfS, fNext, fBreak, fCont, fNever, fBin, fCmp, fV, fN, fC, lk, lk_z, lk_s, gAdd, gSub, gMul, gDiv, gMod, gPow, gShl, gShlW, gShr, gv, gLt, gLe, gGt, gGe, gEq, gNe, gIx, fNeg, fTV, fNot, fAnd, fOr, fAndV, fOrV, fNotV, fIf, fLN, fLC, fAN, fAC, fAB, fNV, fTup, fCB, bInt, bAbs, bLen, bMax2, bMin2, bTuple, fSeq, seqOf, fCall, fCallK, fAsg, gNm, gsNil, gsCons, gTpl, gSq, fPar, fMV, fMN, setAll, fApp, fExt, fSetIx, fFrz, fForS, fRng1, fRng2, fBits, fON, fOS, fSlT, fSlL, List.set_cons_zero, List.set_cons_succ, List.length_cons, List.length_nil, endsOf, decide_eq_true_eq, true_and, and_true, at0, at1, at2, at3, at4, Bool.not_eq_true', decide_eq_false_iff_not, lg2, Int.reduceLT, ↓reduceIte]
  obtain ⟨n, en, n0, n1⟩ : ∃ n : Nat, (2 : Int) + r = ((n : Nat) : Int) ∧ 2 ≤ n ∧ n ≤ 60 := ⟨(2 + r).toNat, by omega, by omega, by omega⟩
  rw [en]
  unfold q__law_lowest_pair_7
  refine seq_go ?_
  simp only [fSeqS, fSet, fSetN, fRet, fIfS, fNext, fBreak, fCont, fNever, fBin, fCmp, fV, fN, fC, lk, lk_z, lk_s, gAdd, gSub, gMul, gDiv, gMod, gPow, gShl, gShlW, gShr, gv, gLt, gLe, gGt, gGe, gEq, gNe, gIx, fNeg, fTV, fNot, fAnd, fOr, fAndV, fOrV, fNotV, fIf, fLN, fLC, fAN, fAC, fAB, fNV, fTup, fCB, bInt, bAbs, bLen, bMax2, bMin2, bTuple, fSeq, seqOf, fCall, fCallK, fAsg, gNm, gsNil, gsCons, gTpl, gSq, fPar, fMV, fMN, setAll, fApp, fExt, fSetIx, fFrz, fForS, fRng1, fRng2, fBits, fON, fOS, fSlT, fSlL, List.set_cons_zero, List.set_cons_succ, List.length_cons, List.length_nil, endsOf, decide_eq_true_eq, true_and, and_true, at0, at1, at2, at3, at4, Bool.not_eq_true', decide_eq_false_iff_not, lg2, Int.reduceLT, ↓reduceIte]
  refine go_draw (by omega) (lg_small (by omega) (by omega)) fun r r0 r1 => ?_
  try simp only [fSeqS, fSet, fSetN, fRet, fIfS, fNext, fBreak, fCont, fNever, fBin, fCmp, fV, fN, fC, lk, lk_z, lk_s, gAdd, gSub, gMul, gDiv, gMod, gPow, gShl, gShlW, gShr, gv, gLt, gLe, gGt, gGe, gEq, gNe, gIx, fNeg, fTV, fNot, fAnd, fOr, fAndV, fOrV, fNotV, fIf, fLN, fLC, fAN, fAC, fAB, fNV, fTup, fCB, bInt, bAbs, bLen, bMax2, bMin2, bTuple, fSeq, seqOf, fCall, fCallK, fAsg, gNm, gsNil, gsCons, gTpl, gSq, fPar, fMV, fMN, setAll, fApp, fExt, fSetIx, fFrz, fForS, fRng1, fRng2, fBits, fON, fOS, fSlT, fSlL, List.set_cons_zero, List.set_cons_succ, List.length_cons, List.length_nil, endsOf, decide_eq_true_eq, true_and, and_true, at0, at1, at2, at3, at4, Bool.not_eq_true', decide_eq_false_iff_not, lg2, Int.reduceLT, ↓reduceIte]
  obtain ⟨p, ep, p0, p1⟩ : ∃ p : Nat, (1 : Int) + r = ((p : Nat) : Int) ∧ 1 ≤ p ∧ p < n := ⟨(1 + r).toNat, by omega, by omega, by omega⟩
  rw [ep]
  unfold q__law_lowest_pair_6
  refine seq_go ?_
  simp only [fSeqS, fSet, fSetN, fRet, fIfS, fNext, fBreak, fCont, fNever, fBin, fCmp, fV, fN, fC, lk, lk_z, lk_s, gAdd, gSub, gMul, gDiv, gMod, gPow, gShl, gShlW, gShr, gv, gLt, gLe, gGt, gGe, gEq, gNe, gIx, fNeg, fTV, fNot, fAnd, fOr, fAndV, fOrV, fNotV, fIf, fLN, fLC, fAN, fAC, fAB, fNV, fTup, fCB, bInt, bAbs, bLen, bMax2, bMin2, bTuple, fSeq, seqOf, fCall, fCallK, fAsg, gNm, gsNil, gsCons, gTpl, gSq, fPar, fMV, fMN, setAll, fApp, fExt, fSetIx, fFrz, fForS, fRng1, fRng2, fBits, fON, fOS, fSlT, fSlL, List.set_cons_zero, List.set_cons_succ, List.length_cons, List.length_nil, endsOf, decide_eq_true_eq, true_and, and_true, at0, at1, at2, at3, at4, Bool.not_eq_true', decide_eq_false_iff_not, lg2, Int.reduceLT, ↓reduceIte]
  refine ⟨by omega, by omega, ?_⟩
  refine for_of (fun ds ρ => ∃ (p : Nat) (s4 s5 s6 : Sl), ρ = [.bg, iS m, .sh (nD n), .sh (nD p), s4, s5, s6] ∧ 1 ≤ p ∧ p < n ∧ ((p = 1 ∧ 0 < ds.length) ∨ n - p < ds.length)) ?_ ?_ _ _ ⟨p, _, _, _, rfl, p0, p1, .inr (by rw [rng_len]; omega)⟩
  · rintro d ds ρ ⟨p, s4, s5, s6, rfl, p0, p1, hl⟩ K hK
    rw [List.length_cons] at hl
    unfold q__law_lowest_pair_4
    simp only [fSeqS, fSet, fSetN, fRet, fIfS, fNext, fBreak, fCont, fNever, fBin, fCmp, fV, fN, fC, lk, lk_z, lk_s, gAdd, gSub, gMul, gDiv, gMod, gPow, gShl, gShlW, gShr, gv, gLt, gLe, gGt, gGe, gEq, gNe, gIx, fNeg, fTV, fNot, fAnd, fOr, fAndV, fOrV, fNotV, fIf, fLN, fLC, fAN, fAC, fAB, fNV, fTup, fCB, bInt, bAbs, bLen, bMax2, bMin2, bTuple, fSeq, seqOf, fCall, fCallK, fAsg, gNm, gsNil, gsCons, gTpl, gSq, fPar, fMV, fMN, setAll, fApp, fExt, fSetIx, fFrz, fForS, fRng1, fRng2, fBits, fON, fOS, fSlT, fSlL, List.set_cons_zero, List.set_cons_succ, List.length_cons, List.length_nil, endsOf, decide_eq_true_eq, true_and, and_true, at0, at1, at2, at3, at4, Bool.not_eq_true', decide_eq_false_iff_not, lg2, Int.reduceLT, ↓reduceIte]
    unfold q__law_lowest_pair_3
    refine seq_go ?_
    refine while_of (fun m' ρ => ∃ x y : Nat, ρ = [.bg, iS m, .sh (nD n), .sh (nD p), .sh d, .sh (nD x), .sh (nD y)] ∧ Nat.gcd x y = Nat.gcd p n ∧ m' = y) ?_ _ _ ⟨p, n, rfl, rfl, rfl⟩
    rintro m' ρ ⟨x, y, rfl, hg, rfl⟩ J hJ
    unfold q__law_lowest_pair_0
    simp only [fSeqS, fSet, fSetN, fRet, fIfS, fNext, fBreak, fCont, fNever, fBin, fCmp, fV, fN, fC, lk, lk_z, lk_s, gAdd, gSub, gMul, gDiv, gMod, gPow, gShl, gShlW, gShr, gv, gLt, gLe, gGt, gGe, gEq, gNe, gIx, fNeg, fTV, fNot, fAnd, fOr, fAndV, fOrV, fNotV, fIf, fLN, fLC, fAN, fAC, fAB, fNV, fTup, fCB, bInt, bAbs, bLen, bMax2, bMin2, bTuple, fSeq, seqOf, fCall, fCallK, fAsg, gNm, gsNil, gsCons, gTpl, gSq, fPar, fMV, fMN, setAll, fApp, fExt, fSetIx, fFrz, fForS, fRng1, fRng2, fBits, fON, fOS, fSlT, fSlL, List.set_cons_zero, List.set_cons_succ, List.length_cons, List.length_nil, endsOf, decide_eq_true_eq, true_and, and_true, at0, at1, at2, at3, at4, Bool.not_eq_true', decide_eq_false_iff_not, lg2, Int.reduceLT, ↓reduceIte]
    by_cases hy : 0 < m'
    · rw [if_pos (by omega), if_pos (by omega)]
      refine hJ (x % m') _ (Nat.mod_lt _ hy) ⟨m', x % m', ?_, by rw [gcd_step]; exact hg, rfl⟩
      simp only [nD, Int.natCast_emod]
    · rw [if_neg (by omega)]
      have : m' = 0 := by omega
      subst this
      rw [Nat.gcd_zero_right] at hg
      unfold q__law_lowest_pair_2
      refine seq_go ?_
      simp only [fSeqS, fSet, fSetN, fRet, fIfS, fNext, fBreak, fCont, fNever, fBin, fCmp, fV, fN, fC, lk, lk_z, lk_s, gAdd, gSub, gMul, gDiv, gMod, gPow, gShl, gShlW, gShr, gv, gLt, gLe, gGt, gGe, gEq, gNe, gIx, fNeg, fTV, fNot, fAnd, fOr, fAndV, fOrV, fNotV, fIf, fLN, fLC, fAN, fAC, fAB, fNV, fTup, fCB, bInt, bAbs, bLen, bMax2, bMin2, bTuple, fSeq, seqOf, fCall, fCallK, fAsg, gNm, gsNil, gsCons, gTpl, gSq, fPar, fMV, fMN, setAll, fApp, fExt, fSetIx, fFrz, fForS, fRng1, fRng2, fBits, fON, fOS, fSlT, fSlL, List.set_cons_zero, List.set_cons_succ, List.length_cons, List.length_nil, endsOf, decide_eq_true_eq, true_and, and_true, at0, at1, at2, at3, at4, Bool.not_eq_true', decide_eq_false_iff_not, lg2, Int.reduceLT, ↓reduceIte]
      by_cases h1 : x = 1
      · rw [if_pos (by omega)]
        unfold q__law_lowest_pair_5
        simp only [fSeqS, fSet, fSetN, fRet, fIfS, fNext, fBreak, fCont, fNever, fBin, fCmp, fV, fN, fC, lk, lk_z, lk_s, gAdd, gSub, gMul, gDiv, gMod, gPow, gShl, gShlW, gShr, gv, gLt, gLe, gGt, gGe, gEq, gNe, gIx, fNeg, fTV, fNot, fAnd, fOr, fAndV, fOrV, fNotV, fIf, fLN, fLC, fAN, fAC, fAB, fNV, fTup, fCB, bInt, bAbs, bLen, bMax2, bMin2, bTuple, fSeq, seqOf, fCall, fCallK, fAsg, gNm, gsNil, gsCons, gTpl, gSq, fPar, fMV, fMN, setAll, fApp, fExt, fSetIx, fFrz, fForS, fRng1, fRng2, fBits, fON, fOS, fSlT, fSlL, List.set_cons_zero, List.set_cons_succ, List.length_cons, List.length_nil, endsOf, decide_eq_true_eq, true_and, and_true, at0, at1, at2, at3, at4, Bool.not_eq_true', decide_eq_false_iff_not, lg2, Int.reduceLT, ↓reduceIte]
        have := hq (p, n - p) ⟨p0, by omega, by show p + (n - p) ≤ 60; omega, by
          show Nat.gcd p (n - p) = 1
          rw [Nat.gcd_sub_self_right (by omega : p ≤ n)]
          omega⟩
        have e : ((n - p : Nat) : Int) = (n : Int) - (p : Int) := by omega
        simp only [nD, e] at this
        exact this
      · rw [if_neg (by omega)]
        unfold q__law_lowest_pair_1
        simp only [fSeqS, fSet, fSetN, fRet, fIfS, fNext, fBreak, fCont, fNever, fBin, fCmp, fV, fN, fC, lk, lk_z, lk_s, gAdd, gSub, gMul, gDiv, gMod, gPow, gShl, gShlW, gShr, gv, gLt, gLe, gGt, gGe, gEq, gNe, gIx, fNeg, fTV, fNot, fAnd, fOr, fAndV, fOrV, fNotV, fIf, fLN, fLC, fAN, fAC, fAB, fNV, fTup, fCB, bInt, bAbs, bLen, bMax2, bMin2, bTuple, fSeq, seqOf, fCall, fCallK, fAsg, gNm, gsNil, gsCons, gTpl, gSq, fPar, fMV, fMN, setAll, fApp, fExt, fSetIx, fFrz, fForS, fRng1, fRng2, fBits, fON, fOS, fSlT, fSlL, List.set_cons_zero, List.set_cons_succ, List.length_cons, List.length_nil, endsOf, decide_eq_true_eq, true_and, and_true, at0, at1, at2, at3, at4, Bool.not_eq_true', decide_eq_false_iff_not, lg2, Int.reduceLT, ↓reduceIte]
        have hp : p ≠ 1 := fun z => by
          rw [z, Nat.gcd_one_left] at hg
          exact h1 hg
        by_cases hn : p + 1 < n
        · rw [if_pos (by omega)]
          exact hK _ ⟨p + 1, _, _, _, rfl, by omega, hn, .inr (by omega)⟩
        · rw [if_neg (by omega)]
          exact hK _ ⟨1, _, _, _, rfl, by omega, by omega, .inl ⟨rfl, by omega⟩⟩
  · rintro ρ ⟨p, s4, s5, s6, rfl, p0, p1, hl⟩
    exfalso
    simp only [List.length_nil] at hl
    omega
theorem r__law_own_pair : ∀ ss (Q : D → Prop), S__law_own_pair ss Q → g__law_own_pair (endsOf Q) (initE N__law_own_pair ss) := by
  rintro ss Q ⟨_, rfl, _, hq⟩
  simp only [N__law_own_pair, initE, List.length_cons, List.length_nil, Nat.reduceAdd, Nat.reduceSub, List.replicate, List.cons_append, List.nil_append, List.append_nil]
  unfold g__law_own_pair
  refine seq_go ?_
  simp only [fSeqS, fSet, fSetN, fRet, fIfS, fNext, fBreak, fCont, fNever, fBin, fCmp, fV, fN, fC, lk, lk_z, lk_s, gAdd, gSub, gMul, gDiv, gMod, gPow, gShl, gShlW, gShr, gv, gLt, gLe, gGt, gGe, gEq, gNe, gIx, fNeg, fTV, fNot, fAnd, fOr, fAndV, fOrV, fNotV, fIf, fLN, fLC, fAN, fAC, fAB, fNV, fTup, fCB, bInt, bAbs, bLen, bMax2, bMin2, bTuple, fSeq, seqOf, fCall, fCallK, fAsg, gNm, gsNil, gsCons, gTpl, gSq, fPar, fMV, fMN, setAll, fApp, fExt, fSetIx, fFrz, fForS, fRng1, fRng2, fBits, fON, fOS, fSlT, fSlL, List.set_cons_zero, List.set_cons_succ, List.length_cons, List.length_nil, endsOf, decide_eq_true_eq, true_and, and_true, at0, at1, at2, at3, at4, Bool.not_eq_true', decide_eq_false_iff_not, lg2, Int.reduceLT, ↓reduceIte]
  refine go_draw (by decide) (by decide) fun r r0 r1 => ?_
  try simp only [fSeqS, fSet, fSetN, fRet, fIfS, fNext, fBreak, fCont, fNever, fBin, fCmp, fV, fN, fC, lk, lk_z, lk_s, gAdd, gSub, gMul, gDiv, gMod, gPow, gShl, gShlW, gShr, gv, gLt, gLe, gGt, gGe, gEq, gNe, gIx, fNeg, fTV, fNot, fAnd, fOr, fAndV, fOrV, fNotV, fIf, fLN, fLC, fAN, fAC, fAB, fNV, fTup, fCB, bInt, bAbs, bLen, bMax2, bMin2, bTuple, fSeq, seqOf, fCall, fCallK, fAsg, gNm, gsNil, gsCons, gTpl, gSq, fPar, fMV, fMN, setAll, fApp, fExt, fSetIx, fFrz, fForS, fRng1, fRng2, fBits, fON, fOS, fSlT, fSlL, List.set_cons_zero, List.set_cons_succ, List.length_cons, List.length_nil, endsOf, decide_eq_true_eq, true_and, and_true, at0, at1, at2, at3, at4, Bool.not_eq_true', decide_eq_false_iff_not, lg2, Int.reduceLT, ↓reduceIte]
  unfold q__law_own_pair_2
  refine seq_go ?_
  simp only [fSeqS, fSet, fSetN, fRet, fIfS, fNext, fBreak, fCont, fNever, fBin, fCmp, fV, fN, fC, lk, lk_z, lk_s, gAdd, gSub, gMul, gDiv, gMod, gPow, gShl, gShlW, gShr, gv, gLt, gLe, gGt, gGe, gEq, gNe, gIx, fNeg, fTV, fNot, fAnd, fOr, fAndV, fOrV, fNotV, fIf, fLN, fLC, fAN, fAC, fAB, fNV, fTup, fCB, bInt, bAbs, bLen, bMax2, bMin2, bTuple, fSeq, seqOf, fCall, fCallK, fAsg, gNm, gsNil, gsCons, gTpl, gSq, fPar, fMV, fMN, setAll, fApp, fExt, fSetIx, fFrz, fForS, fRng1, fRng2, fBits, fON, fOS, fSlT, fSlL, List.set_cons_zero, List.set_cons_succ, List.length_cons, List.length_nil, endsOf, decide_eq_true_eq, true_and, and_true, at0, at1, at2, at3, at4, Bool.not_eq_true', decide_eq_false_iff_not, lg2, Int.reduceLT, ↓reduceIte]
  split
  · refine go_draw (by decide) (by decide) fun r r0 r1 => ?_
    try simp only [fSeqS, fSet, fSetN, fRet, fIfS, fNext, fBreak, fCont, fNever, fBin, fCmp, fV, fN, fC, lk, lk_z, lk_s, gAdd, gSub, gMul, gDiv, gMod, gPow, gShl, gShlW, gShr, gv, gLt, gLe, gGt, gGe, gEq, gNe, gIx, fNeg, fTV, fNot, fAnd, fOr, fAndV, fOrV, fNotV, fIf, fLN, fLC, fAN, fAC, fAB, fNV, fTup, fCB, bInt, bAbs, bLen, bMax2, bMin2, bTuple, fSeq, seqOf, fCall, fCallK, fAsg, gNm, gsNil, gsCons, gTpl, gSq, fPar, fMV, fMN, setAll, fApp, fExt, fSetIx, fFrz, fForS, fRng1, fRng2, fBits, fON, fOS, fSlT, fSlL, List.set_cons_zero, List.set_cons_succ, List.length_cons, List.length_nil, endsOf, decide_eq_true_eq, true_and, and_true, at0, at1, at2, at3, at4, Bool.not_eq_true', decide_eq_false_iff_not, lg2, Int.reduceLT, ↓reduceIte]
    obtain ⟨n, en, n0, n1⟩ : ∃ n : Nat, (1 : Int) + r = ((n : Nat) : Int) ∧ 1 ≤ n ∧ n ≤ 59 := ⟨(1 + r).toNat, by omega, by omega, by omega⟩
    rw [en]
    exact hq (1, n) ⟨Nat.le_refl _, n0, by show 1 + n ≤ 60; omega, Nat.gcd_one_left _⟩
  · unfold q__law_own_pair_1
    refine seq_go ?_
    simp only [fSeqS, fSet, fSetN, fRet, fIfS, fNext, fBreak, fCont, fNever, fBin, fCmp, fV, fN, fC, lk, lk_z, lk_s, gAdd, gSub, gMul, gDiv, gMod, gPow, gShl, gShlW, gShr, gv, gLt, gLe, gGt, gGe, gEq, gNe, gIx, fNeg, fTV, fNot, fAnd, fOr, fAndV, fOrV, fNotV, fIf, fLN, fLC, fAN, fAC, fAB, fNV, fTup, fCB, bInt, bAbs, bLen, bMax2, bMin2, bTuple, fSeq, seqOf, fCall, fCallK, fAsg, gNm, gsNil, gsCons, gTpl, gSq, fPar, fMV, fMN, setAll, fApp, fExt, fSetIx, fFrz, fForS, fRng1, fRng2, fBits, fON, fOS, fSlT, fSlL, List.set_cons_zero, List.set_cons_succ, List.length_cons, List.length_nil, endsOf, decide_eq_true_eq, true_and, and_true, at0, at1, at2, at3, at4, Bool.not_eq_true', decide_eq_false_iff_not, lg2, Int.reduceLT, ↓reduceIte]
    split
    · refine go_draw (by decide) (by decide) fun r r0 r1 => ?_
      try simp only [fSeqS, fSet, fSetN, fRet, fIfS, fNext, fBreak, fCont, fNever, fBin, fCmp, fV, fN, fC, lk, lk_z, lk_s, gAdd, gSub, gMul, gDiv, gMod, gPow, gShl, gShlW, gShr, gv, gLt, gLe, gGt, gGe, gEq, gNe, gIx, fNeg, fTV, fNot, fAnd, fOr, fAndV, fOrV, fNotV, fIf, fLN, fLC, fAN, fAC, fAB, fNV, fTup, fCB, bInt, bAbs, bLen, bMax2, bMin2, bTuple, fSeq, seqOf, fCall, fCallK, fAsg, gNm, gsNil, gsCons, gTpl, gSq, fPar, fMV, fMN, setAll, fApp, fExt, fSetIx, fFrz, fForS, fRng1, fRng2, fBits, fON, fOS, fSlT, fSlL, List.set_cons_zero, List.set_cons_succ, List.length_cons, List.length_nil, endsOf, decide_eq_true_eq, true_and, and_true, at0, at1, at2, at3, at4, Bool.not_eq_true', decide_eq_false_iff_not, lg2, Int.reduceLT, ↓reduceIte]
      obtain ⟨n, en, n0, n1⟩ : ∃ n : Nat, (1 : Int) + r = ((n : Nat) : Int) ∧ 1 ≤ n ∧ n ≤ 59 := ⟨(1 + r).toNat, by omega, by omega, by omega⟩
      rw [en]
      exact hq (n, 1) ⟨n0, Nat.le_refl _, by show n + 1 ≤ 60; omega, Nat.gcd_one_right _⟩
    · unfold q__law_own_pair_0
      simp only [fSeqS, fSet, fSetN, fRet, fIfS, fNext, fBreak, fCont, fNever, fBin, fCmp, fV, fN, fC, lk, lk_z, lk_s, gAdd, gSub, gMul, gDiv, gMod, gPow, gShl, gShlW, gShr, gv, gLt, gLe, gGt, gGe, gEq, gNe, gIx, fNeg, fTV, fNot, fAnd, fOr, fAndV, fOrV, fNotV, fIf, fLN, fLC, fAN, fAC, fAB, fNV, fTup, fCB, bInt, bAbs, bLen, bMax2, bMin2, bTuple, fSeq, seqOf, fCall, fCallK, fAsg, gNm, gsNil, gsCons, gTpl, gSq, fPar, fMV, fMN, setAll, fApp, fExt, fSetIx, fFrz, fForS, fRng1, fRng2, fBits, fON, fOS, fSlT, fSlL, List.set_cons_zero, List.set_cons_succ, List.length_cons, List.length_nil, endsOf, decide_eq_true_eq, true_and, and_true, at0, at1, at2, at3, at4, Bool.not_eq_true', decide_eq_false_iff_not, lg2, Int.reduceLT, ↓reduceIte]
      refine go_pick (by simp) (by simp) fun d hd => ?_
      obtain ⟨m, rfl, m0, m1⟩ : ∃ m : Int, d = .int m ∧ 2 ≤ m ∧ m ≤ 60 := by
        simp only [List.mem_cons, List.not_mem_nil, or_false] at hd
        rcases hd with rfl | rfl | rfl | rfl <;> exact ⟨_, rfl, by decide, by decide⟩
      try simp only [fSeqS, fSet, fSetN, fRet, fIfS, fNext, fBreak, fCont, fNever, fBin, fCmp, fV, fN, fC, lk, lk_z, lk_s, gAdd, gSub, gMul, gDiv, gMod, gPow, gShl, gShlW, gShr, gv, gLt, gLe, gGt, gGe, gEq, gNe, gIx, fNeg, fTV, fNot, fAnd, fOr, fAndV, fOrV, fNotV, fIf, fLN, fLC, fAN, fAC, fAB, fNV, fTup, fCB, bInt, bAbs, bLen, bMax2, bMin2, bTuple, fSeq, seqOf, fCall, fCallK, fAsg, gNm, gsNil, gsCons, gTpl, gSq, fPar, fMV, fMN, setAll, fApp, fExt, fSetIx, fFrz, fForS, fRng1, fRng2, fBits, fON, fOS, fSlT, fSlL, List.set_cons_zero, List.set_cons_succ, List.length_cons, List.length_nil, endsOf, decide_eq_true_eq, true_and, and_true, at0, at1, at2, at3, at4, Bool.not_eq_true', decide_eq_false_iff_not, lg2, Int.reduceLT, ↓reduceIte]
      exact go_lowest_pair m0 m1 hq
/-- comprehensions -/
theorem lc_map {α : Type} {g : GT} {e : SE} {ρ : Env} {f F : α → D} : ∀ (is : List α) (_ : ∀ i ∈ is, ∀ K : D → Prop, K (F i) → g (f i) ρ fun ρ1 => e ρ1 K) (Q : List D → Prop), Q (is.map F) → lcRun g fYes e ρ (is.map f) Q
  | [], _, Q, h => h
  | i :: is, he, Q, h => he i List.mem_cons_self (fun y => lcRun g fYes e ρ (is.map f) fun ys => Q (y :: ys)) (lc_map is (fun j hj => he j (List.mem_cons_of_mem _ hj)) _ h)
theorem lc_filter {α : Type} {g : GT} {t : ST} {e : SE} {ρ : Env} {f F : α → D} {c : α → Bool} : ∀ (is : List α) (_ : ∀ i ∈ is, ∀ (K : D → Prop) (J : Prop), (c i = true → K (F i)) → (c i = false → J) → g (f i) ρ fun ρ1 => t ρ1 fun b => if b = true then e ρ1 K else J) (Q : List D → Prop), Q ((is.filter c).map F) → lcRun g t e ρ (is.map f) Q
  | [], _, Q, h => h
  | i :: is, he, Q, h => by
    refine he i List.mem_cons_self (fun y => lcRun g t e ρ (is.map f) fun ys => Q (y :: ys)) (lcRun g t e ρ (is.map f) Q) (fun hc => lc_filter is (fun j hj => he j (List.mem_cons_of_mem _ hj)) _ ?_) (fun hc => lc_filter is (fun j hj => he j (List.mem_cons_of_mem _ hj)) _ ?_)
    · rw [List.filter_cons_of_pos hc] at h
      exact h
    · rw [List.filter_cons_of_neg (by rw [hc]; decide)] at h
      exact h
theorem rng_nat (n : Nat) : rng 0 n = (List.range n).map nD := by
  unfold rng
  exact List.map_congr_left fun i _ => by rw [Int.zero_add]
theorem r__law_even_word : ∀ ss (Q : D → Prop), S__law_even_word ss Q → g__law_even_word (endsOf Q) (initE N__law_even_word ss) := by
  rintro ss Q ⟨⟨p, q⟩, rfl, ⟨p0, q0, hs, _⟩, hq⟩
  simp only at p0 q0 hs
  have hq : Q (.tuple ((even p q).map nD)) := hq
  simp only [N__law_even_word, arPQ, initE, List.length_cons, List.length_nil, Nat.reduceAdd, Nat.reduceSub, List.replicate, List.cons_append, List.nil_append, List.append_nil]
  simp only [g__law_even_word, fSeqS, fSet, fSetN, fRet, fIfS, fNext, fBreak, fCont, fNever, fBin, fCmp, fV, fN, fC, lk, lk_z, lk_s, gAdd, gSub, gMul, gDiv, gMod, gPow, gShl, gShlW, gShr, gv, gLt, gLe, gGt, gGe, gEq, gNe, gIx, fNeg, fTV, fNot, fAnd, fOr, fAndV, fOrV, fNotV, fIf, fLN, fLC, fAN, fAC, fAB, fNV, fTup, fCB, bInt, bAbs, bLen, bMax2, bMin2, bTuple, fSeq, seqOf, fCall, fCallK, fAsg, gNm, gsNil, gsCons, gTpl, gSq, fPar, fMV, fMN, setAll, fApp, fExt, fSetIx, fFrz, fForS, fRng1, fRng2, fBits, fON, fOS, fSlT, fSlL, List.set_cons_zero, List.set_cons_succ, List.length_cons, List.length_nil, endsOf, decide_eq_true_eq, true_and, and_true, at0, at1, at2, at3, at4, Bool.not_eq_true', decide_eq_false_iff_not, lg2, Int.reduceLT, ↓reduceIte, fLc, wipeE]
  have e1 : ((p : Int) + (q : Int)).toNat = p + q := by omega
  rw [e1]
  refine ⟨by omega, by omega, by rw [rng_len]; unfold most; omega, ?_⟩
  rw [rng_nat]
  unfold even at hq
  rw [List.map_map] at hq
  refine lc_map (F := fun i => nD ((i + 1) * p / (p + q) - i * p / (p + q))) _ (fun i hi K hK => ?_) _ hq
  have hi := List.mem_range.mp hi
  simp only [fSeqS, fSet, fSetN, fRet, fIfS, fNext, fBreak, fCont, fNever, fBin, fCmp, fV, fN, fC, lk, lk_z, lk_s, gAdd, gSub, gMul, gDiv, gMod, gPow, gShl, gShlW, gShr, gv, gLt, gLe, gGt, gGe, gEq, gNe, gIx, fNeg, fTV, fNot, fAnd, fOr, fAndV, fOrV, fNotV, fIf, fLN, fLC, fAN, fAC, fAB, fNV, fTup, fCB, bInt, bAbs, bLen, bMax2, bMin2, bTuple, fSeq, seqOf, fCall, fCallK, fAsg, gNm, gsNil, gsCons, gTpl, gSq, fPar, fMV, fMN, setAll, fApp, fExt, fSetIx, fFrz, fForS, fRng1, fRng2, fBits, fON, fOS, fSlT, fSlL, List.set_cons_zero, List.set_cons_succ, List.length_cons, List.length_nil, endsOf, decide_eq_true_eq, true_and, and_true, at0, at1, at2, at3, at4, Bool.not_eq_true', decide_eq_false_iff_not, lg2, Int.reduceLT, ↓reduceIte]
  have si : Sm 7 (i : Int) := sN (by omega)
  have si1 : Sm 7 ((i : Int) + 1) := Sm.nat (by omega) (by omega)
  have sp : Sm 7 (p : Int) := sN (by omega)
  have lg : ((p : Int) + (q : Int)).natAbs.log2 < 9000 := lg_small (by omega) (by omega)
  have pos : (0 : Int) < (p : Int) + (q : Int) := by omega
  refine ⟨mw si1 sp, lg, ?_⟩
  rw [if_pos pos]
  refine ⟨mw si sp, lg, ?_⟩
  rw [if_pos pos]
  have m1 : i * p / (p + q) ≤ (i + 1) * p / (p + q) := Nat.div_le_div_right (Nat.mul_le_mul_right _ (by omega))
  have e2 : (((i : Int) + 1) * (p : Int)) / ((p : Int) + (q : Int)) - ((i : Int) * (p : Int)) / ((p : Int) + (q : Int)) = (((i + 1) * p / (p + q) - i * p / (p + q) : Nat) : Int) := by
    rw [Int.natCast_sub m1, Int.natCast_ediv, Int.natCast_ediv, Int.natCast_mul, Int.natCast_mul, Int.natCast_add, Int.natCast_add]
    rfl
  rw [e2]
  exact hK
end T
end DL
namespace DL
namespace T
open PySem L2 PySem.Spec PyProof.Rows
theorem mulM_assoc (x y z : M) : mulM (mulM x y) z = mulM x (mulM y z) := by
  simp only [mulM, M.mk.injEq, Nat.add_mul, Nat.mul_add, Nat.mul_assoc]
  refine ⟨?_, ?_, ?_, ?_⟩ <;> ac_rfl
theorem mulM_one (x : M) : mulM ⟨1, 0, 0, 1⟩ x = x := by
  cases x
  simp [mulM]
theorem mulM_one' (x : M) : mulM x ⟨1, 0, 0, 1⟩ = x := by
  cases x
  simp [mulM]
theorem fold_mul : ∀ (w : W) (m : M), w.foldl (fun m l => mulM m (tL l)) m = mulM m (tab w)
  | [], m => (mulM_one' m).symm
  | l :: w, m => by
    unfold tab
    rw [List.foldl_cons, List.foldl_cons, fold_mul w, fold_mul w, mulM_one, mulM_assoc]
theorem tab_app (u v : W) : tab (u ++ v) = mulM (tab u) (tab v) := by
  unfold tab
  rw [List.foldl_append, fold_mul v]
  rfl
/-! ### all pairs, by looking at each -/
def cutB (s : Nat) (w : W) : Bool := (1).ble s && s.ble w.length && (2).ble w.length && w.length.ble 60 && w.all (fun l => l.ble 1) && (s * w.sum % w.length == 1) && (List.range s).all fun t => t == 0 || !(t * w.sum % w.length == 1)
def finB (p q : Nat) (u v : W) (U V : M) : Bool :=
  let w := u ++ v
  let m := mulM U V
  (w == even p q) && (w.length == p + q) && cutB u.length w && (U.b * U.b + V.b * V.b + m.b * m.b == 3 * U.b * V.b * m.b) && U.b.ble m.b && V.b.ble m.b && (most12.blt m.b || (wordsOf m.b == [w] && (known.map (·.1)).contains m.b))
def bdB (a b : Nat × Nat) (u v : W) : Bool := (a.1 + b.1).ble 100 && (a.2 + b.2).ble 100 && (u.length + v.length).ble 100
def chk : Nat → Nat × Nat → Nat × Nat → W → M → W → M → Nat → Nat → Bool
  | 0, _, _, _, _, _, _, _, _ => false
  | n + 1, a, b, u, U, v, V, p, q =>
    bdB a b u v && (if a.1 + b.1 = p ∧ a.2 + b.2 = q then finB p q u v U V
    else if p * (a.2 + b.2) < (a.1 + b.1) * q then chk n a (a.1 + b.1, a.2 + b.2) u U (u ++ v) (mulM U V) p q
    else chk n (a.1 + b.1, a.2 + b.2) b (u ++ v) (mulM U V) v V p q)
def chkPQ (p q : Nat) : Bool := chk 70 (0, 1) (1, 0) [0] t0 [1] t1 p q
theorem chk_all : ((List.range 60).all fun p => (List.range 60).all fun q => !((1).ble p && (1).ble q && (p + q).ble 60 && (Nat.gcd p q == 1)) || chkPQ p q) = true := by decide +kernel
end T
end DL
namespace DL
namespace T
open PySem L2 PySem.Spec PyProof.Rows
theorem cut_of {s : Nat} {w : W} (h : cutB s w = true) : Cut (w, s) := by
  unfold cutB at h
  simp only [Bool.and_eq_true, Nat.ble_eq, List.all_eq_true, beq_iff_eq, List.mem_range, Bool.or_eq_true, Bool.not_eq_true', beq_eq_false_iff_ne] at h
  obtain ⟨⟨⟨⟨⟨⟨h1, h2⟩, h3⟩, h4⟩, h5⟩, h6⟩, h7⟩ := h
  exact ⟨h1, h2, h3, ⟨h4, h5⟩, h6, fun t t1 t2 => (h7 t t2).elim (fun z => by omega) id⟩
structure Fin (p q : Nat) (u v : W) : Prop where
  w : u ++ v = even p q
  cut : Cut (even p q, u.length)
  eq : (tab u).b * (tab u).b + (tab v).b * (tab v).b + (tab (even p q)).b * (tab (even p q)).b = 3 * (tab u).b * (tab v).b * (tab (even p q)).b
  le1 : (tab u).b ≤ (tab (even p q)).b
  le2 : (tab v).b ≤ (tab (even p q)).b
  one : (tab (even p q)).b ≤ most12 → wordsOf (tab (even p q)).b = [even p q] ∧ (tab (even p q)).b ∈ known.map (·.1)
theorem fin_of {p q : Nat} {u v : W} (h : finB p q u v (tab u) (tab v) = true) : Fin p q u v := by
  unfold finB at h
  simp only [Bool.and_eq_true, beq_iff_eq, Nat.ble_eq, Bool.or_eq_true] at h
  obtain ⟨⟨⟨⟨⟨⟨h1, h2⟩, h3⟩, h4⟩, h5⟩, h6⟩, h7⟩ := h
  rw [← tab_app, h1] at h4 h5 h6 h7
  rw [h1] at h3
  refine ⟨h1, cut_of h3, h4, h5, h6, fun hz => ?_⟩
  rcases h7 with z | ⟨z1, z2⟩
  · have := Nat.blt_eq.mp z
    omega
  · exact ⟨z1, List.contains_iff_mem.mp z2⟩
theorem chk_fin : ∀ (n : Nat) (a b : Nat × Nat) (u : W) (U : M) (v : W) (V : M) (p q : Nat), chk n a b u U v V p q = true → U = tab u → V = tab v → Fin p q (parts n a b u v p q).1 (parts n a b u v p q).2
  | 0, _, _, _, _, _, _, _, _, h, _, _ => by cases h
  | n + 1, a, b, u, U, v, V, p, q, h, hU, hV => by
    unfold chk at h
    unfold parts
    rw [Bool.and_eq_true] at h
    obtain ⟨_, h⟩ := h
    split at h
    · rename_i e
      rw [if_pos e]
      subst hU hV
      exact fin_of h
    · rename_i e
      rw [if_neg e]
      split at h
      · rename_i e2
        rw [if_pos e2]
        exact chk_fin n _ _ _ _ _ _ _ _ h hU (by rw [hU, hV, tab_app])
      · rename_i e2
        rw [if_neg e2]
        exact chk_fin n _ _ _ _ _ _ _ _ h (by rw [hU, hV, tab_app]) hV
theorem pq_chk {p q : Nat} (h : PQ (p, q)) : chkPQ p q = true := by
  obtain ⟨h1, h2, h3, h4⟩ := h
  simp only at h1 h2 h3 h4
  have h5 := chk_all
  rw [List.all_eq_true] at h5
  have h6 := h5 p (List.mem_range.mpr (by omega))
  rw [List.all_eq_true] at h6
  have h7 := h6 q (List.mem_range.mpr (by omega))
  rw [Bool.or_eq_true] at h7
  rcases h7 with h7 | h7
  · exfalso
    have e : ((1).ble p && (1).ble q && (p + q).ble 60 && (Nat.gcd p q == 1)) = true := by
      simp only [Bool.and_eq_true, Nat.ble_eq, beq_iff_eq]
      exact ⟨⟨⟨h1, h2⟩, h3⟩, h4⟩
    rw [e] at h7
    cases h7
  · exact h7
theorem tab0 : t0 = tab [0] := rfl
theorem tab1 : t1 = tab [1] := rfl
theorem pq_fin {p q : Nat} (h : PQ (p, q)) : Fin p q (partsOf p q).1 (partsOf p q).2 := chk_fin 70 _ _ _ _ _ _ _ _ (pq_chk h) tab0 tab1
def pD (a : Nat × Nat) : D := .tuple [nD a.1, nD a.2]
theorem pD_eq (a : Nat × Nat) : pD a = .tuple [nD a.1, nD a.2] := rfl
theorem pair_shaped (a b : Int) : SeqAt.shaped (.tuple [.int a, .int b]) = true := by simp [SeqAt.shaped, PyData.canLay0, PyData.canLayAll0, PyData.depth, PyData.depthAll]
theorem pair_eqv (a b c d : Int) : PyData.eqv (.tuple [.int a, .int b]) (.tuple [.int c, .int d]) = decide (a = c ∧ b = d) := by
  simp [PyData.eqv, PyData.eqvAll]
  rfl
theorem wcat (u v : W) : (u.map nD) ++ (v.map nD) = (u ++ v).map nD := by rw [List.map_append]
theorem r__law_parts : ∀ ss (Q : D → Prop), S__law_parts ss Q → g__law_parts (endsOf Q) (initE N__law_parts ss) := by
  rintro ss Q ⟨⟨p, q⟩, rfl, h, hq⟩
  have hc := pq_chk h
  obtain ⟨p0, q0, hs, _⟩ := h
  simp only at p0 q0 hs
  have hq : Q (.tuple [wD (partsOf p q).1, wD (partsOf p q).2]) := hq
  simp only [N__law_parts, arPQ, initE, List.length_cons, List.length_nil, Nat.reduceAdd, Nat.reduceSub, List.replicate, List.cons_append, List.nil_append, List.append_nil]
  unfold g__law_parts
  refine seq_go ?_
  simp only [fSeqS, fSet, fSetN, fRet, fIfS, fNext, fBreak, fCont, fNever, fBin, fCmp, fV, fN, fC, lk, lk_z, lk_s, gAdd, gSub, gMul, gDiv, gMod, gPow, gShl, gShlW, gShr, gv, gLt, gLe, gGt, gGe, gEq, gNe, gIx, fNeg, fTV, fNot, fAnd, fOr, fAndV, fOrV, fNotV, fIf, fLN, fLC, fAN, fAC, fAB, fNV, fTup, fCB, bInt, bAbs, bLen, bMax2, bMin2, bTuple, fSeq, seqOf, fCall, fCallK, fAsg, gNm, gsNil, gsCons, gTpl, gSq, fPar, fMV, fMN, setAll, fApp, fExt, fSetIx, fFrz, fForS, fRng1, fRng2, fBits, fON, fOS, fSlT, fSlL, List.set_cons_zero, List.set_cons_succ, List.length_cons, List.length_nil, endsOf, decide_eq_true_eq, true_and, and_true, at0, at1, at2, at3, at4, Bool.not_eq_true', decide_eq_false_iff_not, lg2, Int.reduceLT, ↓reduceIte]
  unfold q__law_parts_3
  refine seq_go ?_
  simp only [fSeqS, fSet, fSetN, fRet, fIfS, fNext, fBreak, fCont, fNever, fBin, fCmp, fV, fN, fC, lk, lk_z, lk_s, gAdd, gSub, gMul, gDiv, gMod, gPow, gShl, gShlW, gShr, gv, gLt, gLe, gGt, gGe, gEq, gNe, gIx, fNeg, fTV, fNot, fAnd, fOr, fAndV, fOrV, fNotV, fIf, fLN, fLC, fAN, fAC, fAB, fNV, fTup, fCB, bInt, bAbs, bLen, bMax2, bMin2, bTuple, fSeq, seqOf, fCall, fCallK, fAsg, gNm, gsNil, gsCons, gTpl, gSq, fPar, fMV, fMN, setAll, fApp, fExt, fSetIx, fFrz, fForS, fRng1, fRng2, fBits, fON, fOS, fSlT, fSlL, List.set_cons_zero, List.set_cons_succ, List.length_cons, List.length_nil, endsOf, decide_eq_true_eq, true_and, and_true, at0, at1, at2, at3, at4, Bool.not_eq_true', decide_eq_false_iff_not, lg2, Int.reduceLT, ↓reduceIte]
  refine ⟨by decide, by decide, ?_⟩
  refine for_of (fun ds ρ => ∃ (a b : Nat × Nat) (u v : W) (U V : M) (s6 s7 : Sl), ρ = [.sh (nD p), .sh (nD q), .sh (pD a), .sh (pD b), .sh (wD u), .sh (wD v), s6, s7] ∧ chk ds.length a b u U v V p q = true ∧ parts ds.length a b u v p q = partsOf p q) ?_ ?_ _ _ ⟨(0, 1), (1, 0), [0], [1], t0, t1, _, _, rfl, by rw [rng_len]; exact hc, by rw [rng_len]; rfl⟩
  · rintro d ds ρ ⟨a, b, u, v, U, V, s6, s7, rfl, hk, hp⟩ K hK
    rw [List.length_cons] at hk hp
    unfold chk at hk
    unfold parts at hp
    rw [Bool.and_eq_true] at hk
    obtain ⟨hb, hk⟩ := hk
    unfold bdB at hb
    simp only [Bool.and_eq_true, Nat.ble_eq] at hb
    obtain ⟨⟨b1, b2⟩, b3⟩ := hb
    unfold q__law_parts_2
    simp only [fSeqS, fSet, fSetN, fRet, fIfS, fNext, fBreak, fCont, fNever, fBin, fCmp, fV, fN, fC, lk, lk_z, lk_s, gAdd, gSub, gMul, gDiv, gMod, gPow, gShl, gShlW, gShr, gv, gLt, gLe, gGt, gGe, gEq, gNe, gIx, fNeg, fTV, fNot, fAnd, fOr, fAndV, fOrV, fNotV, fIf, fLN, fLC, fAN, fAC, fAB, fNV, fTup, fCB, bInt, bAbs, bLen, bMax2, bMin2, bTuple, fSeq, seqOf, fCall, fCallK, fAsg, gNm, gsNil, gsCons, gTpl, gSq, fPar, fMV, fMN, setAll, fApp, fExt, fSetIx, fFrz, fForS, fRng1, fRng2, fBits, fON, fOS, fSlT, fSlL, List.set_cons_zero, List.set_cons_succ, List.length_cons, List.length_nil, endsOf, decide_eq_true_eq, true_and, and_true, at0, at1, at2, at3, at4, Bool.not_eq_true', decide_eq_false_iff_not, lg2, Int.reduceLT, ↓reduceIte]
    refine seq_go ?_
    simp only [fSeqS, fSet, fSetN, fRet, fIfS, fNext, fBreak, fCont, fNever, fBin, fCmp, fV, fN, fC, lk, lk_z, lk_s, gAdd, gSub, gMul, gDiv, gMod, gPow, gShl, gShlW, gShr, gv, gLt, gLe, gGt, gGe, gEq, gNe, gIx, fNeg, fTV, fNot, fAnd, fOr, fAndV, fOrV, fNotV, fIf, fLN, fLC, fAN, fAC, fAB, fNV, fTup, fCB, bInt, bAbs, bLen, bMax2, bMin2, bTuple, fSeq, seqOf, fCall, fCallK, fAsg, gNm, gsNil, gsCons, gTpl, gSq, fPar, fMV, fMN, setAll, fApp, fExt, fSetIx, fFrz, fForS, fRng1, fRng2, fBits, fON, fOS, fSlT, fSlL, List.set_cons_zero, List.set_cons_succ, List.length_cons, List.length_nil, endsOf, decide_eq_true_eq, true_and, and_true, at0, at1, at2, at3, at4, Bool.not_eq_true', decide_eq_false_iff_not, lg2, Int.reduceLT, ↓reduceIte, pD_eq]
    refine ⟨pair_shaped _ _, pair_shaped _ _, ?_⟩
    rw [pair_eqv]
    by_cases e : a.1 + b.1 = p ∧ a.2 + b.2 = q
    · rw [decide_eq_true (by omega), if_pos rfl]
      rw [if_pos e] at hp
      rw [← hp] at hq
      exact hq
    · rw [decide_eq_false (by omega), if_neg (by decide)]
      rw [if_neg e] at hk hp
      unfold q__law_parts_0
      have sp : Sm 7 (p : Int) := sN (by omega)
      have sq : Sm 7 (q : Int) := sN (by omega)
      have s1 : Sm 7 ((a.1 : Int) + (b.1 : Int)) := Sm.nat (by omega) (by omega)
      have s2 : Sm 7 ((a.2 : Int) + (b.2 : Int)) := Sm.nat (by omega) (by omega)
      have sz : (u.map nD).length + (v.map nD).length ≤ sizeLine := by rw [List.length_map, List.length_map, sizeLine_eq]; omega
      simp only [fSeqS, fSet, fSetN, fRet, fIfS, fNext, fBreak, fCont, fNever, fBin, fCmp, fV, fN, fC, lk, lk_z, lk_s, gAdd, gSub, gMul, gDiv, gMod, gPow, gShl, gShlW, gShr, gv, gLt, gLe, gGt, gGe, gEq, gNe, gIx, fNeg, fTV, fNot, fAnd, fOr, fAndV, fOrV, fNotV, fIf, fLN, fLC, fAN, fAC, fAB, fNV, fTup, fCB, bInt, bAbs, bLen, bMax2, bMin2, bTuple, fSeq, seqOf, fCall, fCallK, fAsg, gNm, gsNil, gsCons, gTpl, gSq, fPar, fMV, fMN, setAll, fApp, fExt, fSetIx, fFrz, fForS, fRng1, fRng2, fBits, fON, fOS, fSlT, fSlL, List.set_cons_zero, List.set_cons_succ, List.length_cons, List.length_nil, endsOf, decide_eq_true_eq, true_and, and_true, at0, at1, at2, at3, at4, Bool.not_eq_true', decide_eq_false_iff_not, lg2, Int.reduceLT, ↓reduceIte, wD]
      refine ⟨mw sp s2, mw s1 sq, ?_⟩
      have ei : ((p : Int) * ((a.2 : Int) + (b.2 : Int)) < ((a.1 : Int) + (b.1 : Int)) * (q : Int)) ↔ p * (a.2 + b.2) < (a.1 + b.1) * q := by
        rw [← Int.natCast_add, ← Int.natCast_add, ← Int.natCast_mul, ← Int.natCast_mul]
        omega
      by_cases e2 : p * (a.2 + b.2) < (a.1 + b.1) * q
      · rw [if_pos (ei.mpr e2)]
        rw [if_pos e2] at hk hp
        refine ⟨sz, ?_⟩
        rw [wcat]
        exact hK _ ⟨a, (a.1 + b.1, a.2 + b.2), u, u ++ v, _, _, _, _, rfl, hk, hp⟩
      · rw [if_neg (fun z => e2 (ei.mp z))]
        rw [if_neg e2] at hk hp
        refine ⟨sz, ?_⟩
        rw [wcat]
        exact hK _ ⟨(a.1 + b.1, a.2 + b.2), b, u ++ v, v, _, _, _, _, rfl, hk, hp⟩
  · rintro ρ ⟨a, b, u, v, U, V, s6, s7, rfl, hk, hp⟩
    cases hk
end T
end DL
namespace DL
namespace T
open PySem L2 PySem.Spec PyProof.Rows
theorem par_go {js : List Nat} {f : SM} {E : En} {ρ : Env} (h : f ρ fun ss => js.length = ss.length ∧ E.nx (setAll ρ js ss)) : fPar js f E ρ := h
theorem mv_go {fa : SE} {fr : SM} {ρ : Env} {Q : List Sl → Prop} (h : fa ρ fun d => fr ρ fun ss => Q (.sh d :: ss)) : fMV fa fr ρ Q := h
/-! ### the two walks over the tree -/
abbrev Rs := List (Tr × Nd)
def flat (rs : Rs) : List (Nat × W) := rs.flatMap fun x => x.1.pre x.2
def mus (rs : Rs) : Nat := (rs.map fun x => x.1.mu).sum
def okR (rs : Rs) : Prop := ∀ x ∈ rs, x.1.ok x.2 = true
def stk (rs : Rs) : List D := (rs.map fun x => x.2.D).reverse
theorem okR.tail {x : Tr × Nd} {rs : Rs} (h : okR (x :: rs)) : okR rs := fun y hy => h y (List.mem_cons_of_mem _ hy)
theorem stk_cons (x : Tr × Nd) (rs : Rs) : stk (x :: rs) = stk rs ++ [x.2.D] := by
  unfold stk
  rw [List.map_cons, List.reverse_cons]
theorem stk_last (x : Tr × Nd) (rs : Rs) : (stk (x :: rs)).getLast? = some x.2.D := by
  rw [stk_cons, List.getLast?_concat]
theorem stk_drop (x : Tr × Nd) (rs : Rs) : (stk (x :: rs)).dropLast = stk rs := by
  rw [stk_cons, List.dropLast_concat]
theorem stk_len (rs : Rs) : (stk rs).length = rs.length := by
  unfold stk
  rw [List.length_reverse, List.length_map]
theorem mu_pos (t : Tr) : 1 ≤ t.mu := by
  cases t
  · exact Nat.le_refl _
  · simp only [Tr.mu]; omega
theorem mus_len : ∀ rs : Rs, rs.length ≤ mus rs
  | [] => Nat.le_refl _
  | x :: rs => by
    have := mus_len rs
    have := mu_pos x.1
    unfold mus at *
    rw [List.length_cons, List.map_cons, List.sum_cons]
    omega
theorem mus_cons (x : Tr × Nd) (rs : Rs) : mus (x :: rs) = x.1.mu + mus rs := by
  unfold mus
  rw [List.map_cons, List.sum_cons]
theorem flat_cons (x : Tr × Nd) (rs : Rs) : flat (x :: rs) = x.1.pre x.2 ++ flat rs := by
  unfold flat
  rw [List.flatMap_cons]
/-- shaped things -/
structure Shp (n : Nat) (d : D) : Prop where
  cl : d.canLay0 = true
  dp : d.depth ≤ n
theorem Shp.int (i : Int) : Shp 0 (.int i) := ⟨rfl, by simp [PyData.depth]⟩
theorem ShpA : ∀ {n : Nat} {ds : List D}, (∀ d ∈ ds, Shp n d) → PyData.canLayAll0 ds = true ∧ PyData.depthAll ds ≤ n
  | n, [], _ => ⟨rfl, by simp [PyData.depthAll]⟩
  | n, d :: ds, h => by
    have h1 := h d List.mem_cons_self
    have h2 := ShpA (n := n) (ds := ds) fun e he => h e (List.mem_cons_of_mem _ he)
    have := h1.dp
    refine ⟨by simp [PyData.canLayAll0, h1.cl, h2.1], ?_⟩
    simp only [PyData.depthAll]
    omega
theorem Shp.tup {n : Nat} {ds : List D} (h : ∀ d ∈ ds, Shp n d) : Shp (n + 1) (.tuple ds) := by
  have := ShpA h
  exact ⟨by simp [PyData.canLay0, this.1], by simp only [PyData.depth]; omega⟩
theorem Shp.list {n : Nat} {ds : List D} (h : ∀ d ∈ ds, Shp n d) : Shp (n + 1) (.list ds) := by
  have := ShpA h
  exact ⟨by simp [PyData.canLay0, this.1], by simp only [PyData.depth]; omega⟩
theorem Shp.le {n m : Nat} {d : D} (h : Shp n d) (l : n ≤ m) : Shp m d := ⟨h.cl, Nat.le_trans h.dp l⟩
theorem Shp.sh {n : Nat} {d : D} (h : Shp n d) (hn : n ≤ 60) : SeqAt.shaped d = true := by
  unfold SeqAt.shaped
  rw [h.cl, Bool.true_and, decide_eq_true_eq]
  have := h.dp
  omega
theorem shp_w (w : W) : Shp 1 (wD w) := Shp.tup fun d hd => by
  obtain ⟨n, _, rfl⟩ := List.mem_map.mp hd
  exact .int _
theorem shp_M (m : M) : Shp 2 m.D := by
  refine Shp.tup fun d hd => ?_
  simp only [List.mem_cons, List.not_mem_nil, or_false] at hd
  rcases hd with rfl | rfl
  · refine Shp.tup fun d hd => ?_
    simp only [List.mem_cons, List.not_mem_nil, or_false] at hd
    rcases hd with rfl | rfl <;> exact .int _
  · refine Shp.tup fun d hd => ?_
    simp only [List.mem_cons, List.not_mem_nil, or_false] at hd
    rcases hd with rfl | rfl <;> exact .int _
theorem shp_Nd (x : Nd) : Shp 3 x.D := by
  refine Shp.tup fun d hd => ?_
  simp only [List.mem_cons, List.not_mem_nil, or_false] at hd
  rcases hd with rfl | rfl | rfl | rfl
  · exact (shp_w _).le (by decide)
  · exact shp_M _
  · exact (shp_w _).le (by decide)
  · exact shp_M _
theorem shp_stk (rs : Rs) : Shp 4 (.list (stk rs)) := Shp.list fun d hd => by
  obtain ⟨x, _, rfl⟩ := List.mem_map.mp (List.mem_reverse.mp hd)
  exact shp_Nd _
theorem nil_shp : SeqAt.shaped (.list []) = true := (Shp.list (n := 0) (ds := []) fun _ h => by cases h).sh (by decide)
theorem eqv_empty (ds : List D) : PyData.eqv (.list ds) (.list []) = ds.isEmpty := by
  cases ds <;> simp [PyData.eqv, PyData.eqvAll]
theorem sm_lt {m : M} (h : m.sm = true) : m.lt 500 := by
  unfold M.sm at h
  simp only [Bool.and_eq_true, Nat.blt_eq] at h
  obtain ⟨⟨⟨h1, h2⟩, h3⟩, h4⟩ := h
  exact (show m.lt 200 from ⟨h1, h2, h3, h4⟩).le (by decide)
theorem sm_of {x : Nd} (h : x.sm = true) : x.l.lt 500 ∧ x.r.lt 500 ∧ x.u.length + x.v.length ≤ 100 := by
  unfold Nd.sm at h
  simp only [Bool.and_eq_true, Nat.ble_eq] at h
  exact ⟨sm_lt h.1.1, sm_lt h.1.2, h.2⟩
theorem Nd.D_eq (x : Nd) : x.D = .tuple [wD x.u, x.l.D, wD x.v, x.r.D] := rfl
theorem wcatD (u v : W) {Q : D → Prop} (h : u.length + v.length ≤ 100) (hq : Q (wD (u ++ v))) : gAdd (wD u) (wD v) Q := by
  refine ⟨by rw [List.length_map, List.length_map, sizeLine_eq]; omega, ?_⟩
  rw [wcat]; exact hq
theorem r__law_all_words : ∀ ss (Q : D → Prop), S__law_all_words ss Q → g__law_all_words (endsOf Q) (initE N__law_all_words ss) := by
  rintro ss Q ⟨_, rfl, _, hq⟩
  have hq : Q (.list (known.map kD)) := hq
  simp only [N__law_all_words, initE, List.length_cons, List.length_nil, Nat.reduceAdd, Nat.reduceSub, List.replicate, List.cons_append, List.nil_append, List.append_nil]
  unfold g__law_all_words
  refine seq_go ?_
  simp only [fSeqS, fSet, fSetN, fRet, fIfS, fNext, fBreak, fCont, fNever, fBin, fCmp, fV, fN, fC, lk, lk_z, lk_s, gAdd, gSub, gMul, gDiv, gMod, gPow, gShl, gShlW, gShr, gv, gLt, gLe, gGt, gGe, gEq, gNe, gIx, fNeg, fTV, fNot, fAnd, fOr, fAndV, fOrV, fNotV, fIf, fLN, fLC, fAN, fAC, fAB, fNV, fTup, fCB, bInt, bAbs, bLen, bMax2, bMin2, bTuple, fSeq, seqOf, fCall, fCallK, fAsg, gNm, gsNil, gsCons, gTpl, gSq, fPar, fMV, fMN, setAll, fApp, fExt, fSetIx, fFrz, fForS, fRng1, fRng2, fBits, fON, fOS, fSlT, fSlL, List.set_cons_zero, List.set_cons_succ, List.length_cons, List.length_nil, endsOf, decide_eq_true_eq, true_and, and_true, at0, at1, at2, at3, at4, Bool.not_eq_true', decide_eq_false_iff_not, lg2, Int.reduceLT, ↓reduceIte]
  unfold q__law_all_words_7
  refine seq_go ?_
  simp only [fSeqS, fSet, fSetN, fRet, fIfS, fNext, fBreak, fCont, fNever, fBin, fCmp, fV, fN, fC, lk, lk_z, lk_s, gAdd, gSub, gMul, gDiv, gMod, gPow, gShl, gShlW, gShr, gv, gLt, gLe, gGt, gGe, gEq, gNe, gIx, fNeg, fTV, fNot, fAnd, fOr, fAndV, fOrV, fNotV, fIf, fLN, fLC, fAN, fAC, fAB, fNV, fTup, fCB, bInt, bAbs, bLen, bMax2, bMin2, bTuple, fSeq, seqOf, fCall, fCallK, fAsg, gNm, gsNil, gsCons, gTpl, gSq, fPar, fMV, fMN, setAll, fApp, fExt, fSetIx, fFrz, fForS, fRng1, fRng2, fBits, fON, fOS, fSlT, fSlL, List.set_cons_zero, List.set_cons_succ, List.length_cons, List.length_nil, endsOf, decide_eq_true_eq, true_and, and_true, at0, at1, at2, at3, at4, Bool.not_eq_true', decide_eq_false_iff_not, lg2, Int.reduceLT, ↓reduceIte]
  unfold q__law_all_words_6
  refine seq_go ?_
  simp only [fSeqS, fSet, fSetN, fRet, fIfS, fNext, fBreak, fCont, fNever, fBin, fCmp, fV, fN, fC, lk, lk_z, lk_s, gAdd, gSub, gMul, gDiv, gMod, gPow, gShl, gShlW, gShr, gv, gLt, gLe, gGt, gGe, gEq, gNe, gIx, fNeg, fTV, fNot, fAnd, fOr, fAndV, fOrV, fNotV, fIf, fLN, fLC, fAN, fAC, fAB, fNV, fTup, fCB, bInt, bAbs, bLen, bMax2, bMin2, bTuple, fSeq, seqOf, fCall, fCallK, fAsg, gNm, gsNil, gsCons, gTpl, gSq, fPar, fMV, fMN, setAll, fApp, fExt, fSetIx, fFrz, fForS, fRng1, fRng2, fBits, fON, fOS, fSlT, fSlL, List.set_cons_zero, List.set_cons_succ, List.length_cons, List.length_nil, endsOf, decide_eq_true_eq, true_and, and_true, at0, at1, at2, at3, at4, Bool.not_eq_true', decide_eq_false_iff_not, lg2, Int.reduceLT, ↓reduceIte]
  refine ⟨by decide, by decide, ?_⟩
  refine for_of (fun ds ρ => ∃ (fs : List (Nat × W)) (rs : Rs) (s1 s2 s5 s6 s7 s8 s9 s10 s11 : Sl), ρ = [iS 1000000000000, s1, s2, .ow (fs.map kD), .ow (stk rs), s5, s6, s7, s8, s9, s10, s11] ∧ fs ++ flat rs = known ∧ okR rs ∧ mus rs ≤ ds.length ∧ fs.length + ds.length ≤ 3000 ∧ ds.length ≤ 3000) ?_ ?_ _ _ ⟨[(1, [0]), (2, [1])], [(T0, x0)], _, _, _, _, _, _, _, _, _, rfl, ?_, ?_, ?_, ?_, ?_⟩
  · rintro d ds ρ ⟨fs, rs, s1, s2, s5, s6, s7, s8, s9, s10, s11, rfl, hk, ho, hm, hl, hl2⟩ K hK
    rw [List.length_cons] at hm hl hl2
    simp only [fSeqS, fSet, fSetN, fRet, fIfS, fNext, fBreak, fCont, fNever, fBin, fCmp, fV, fN, fC, lk, lk_z, lk_s, gAdd, gSub, gMul, gDiv, gMod, gPow, gShl, gShlW, gShr, gv, gLt, gLe, gGt, gGe, gEq, gNe, gIx, fNeg, fTV, fNot, fAnd, fOr, fAndV, fOrV, fNotV, fIf, fLN, fLC, fAN, fAC, fAB, fNV, fTup, fCB, bInt, bAbs, bLen, bMax2, bMin2, bTuple, fSeq, seqOf, fCall, fCallK, fAsg, gNm, gsNil, gsCons, gTpl, gSq, fPar, fMV, fMN, setAll, fApp, fExt, fSetIx, fFrz, fForS, fRng1, fRng2, fBits, fON, fOS, fSlT, fSlL, List.set_cons_zero, List.set_cons_succ, List.length_cons, List.length_nil, endsOf, decide_eq_true_eq, true_and, and_true, at0, at1, at2, at3, at4, Bool.not_eq_true', decide_eq_false_iff_not, lg2, Int.reduceLT, ↓reduceIte]
    unfold q__law_all_words_5
    refine seq_go ?_
    simp only [fSeqS, fSet, fSetN, fRet, fIfS, fNext, fBreak, fCont, fNever, fBin, fCmp, fV, fN, fC, lk, lk_z, lk_s, gAdd, gSub, gMul, gDiv, gMod, gPow, gShl, gShlW, gShr, gv, gLt, gLe, gGt, gGe, gEq, gNe, gIx, fNeg, fTV, fNot, fAnd, fOr, fAndV, fOrV, fNotV, fIf, fLN, fLC, fAN, fAC, fAB, fNV, fTup, fCB, bInt, bAbs, bLen, bMax2, bMin2, bTuple, fSeq, seqOf, fCall, fCallK, fAsg, gNm, gsNil, gsCons, gTpl, gSq, fPar, fMV, fMN, setAll, fApp, fExt, fSetIx, fFrz, fForS, fRng1, fRng2, fBits, fON, fOS, fSlT, fSlL, List.set_cons_zero, List.set_cons_succ, List.length_cons, List.length_nil, endsOf, decide_eq_true_eq, true_and, and_true, at0, at1, at2, at3, at4, Bool.not_eq_true', decide_eq_false_iff_not, lg2, Int.reduceLT, ↓reduceIte]
    refine ⟨(shp_stk rs).sh (by decide), nil_shp, ?_⟩
    rw [eqv_empty]
    cases rs with
    | nil =>
      rw [show (stk []).isEmpty = true from rfl, if_pos rfl]
      have hk : fs = known := by rw [← hk]; unfold flat; simp
      rw [hk]; exact hq
    | cons x rs =>
      obtain ⟨t, x⟩ := x
      have e1 : (stk ((t, x) :: rs)).isEmpty = false := by
        rw [stk_cons]; simp
      rw [e1, if_neg (by decide)]
      unfold q__law_all_words_4
      refine seq_go ?_
      simp only [fPop, fSeqS, fSet, fSetN, fRet, fIfS, fNext, fBreak, fCont, fNever, fBin, fCmp, fV, fN, fC, lk, lk_z, lk_s, gAdd, gSub, gMul, gDiv, gMod, gPow, gShl, gShlW, gShr, gv, gLt, gLe, gGt, gGe, gEq, gNe, gIx, fNeg, fTV, fNot, fAnd, fOr, fAndV, fOrV, fNotV, fIf, fLN, fLC, fAN, fAC, fAB, fNV, fTup, fCB, bInt, bAbs, bLen, bMax2, bMin2, bTuple, fSeq, seqOf, fCall, fCallK, fAsg, gNm, gsNil, gsCons, gTpl, gSq, fPar, fMV, fMN, setAll, fApp, fExt, fSetIx, fFrz, fForS, fRng1, fRng2, fBits, fON, fOS, fSlT, fSlL, List.set_cons_zero, List.set_cons_succ, List.length_cons, List.length_nil, endsOf, decide_eq_true_eq, true_and, and_true, at0, at1, at2, at3, at4, Bool.not_eq_true', decide_eq_false_iff_not, lg2, Int.reduceLT, ↓reduceIte, stk_last, stk_drop, Nd.D_eq, List.length_cons, List.length_nil]
      have hx : t.ok x = true := ho (t, x) List.mem_cons_self
      have ho' := ho.tail
      rw [mus_cons] at hm
      rw [flat_cons] at hk
      try simp only at hm hk
      have hsm : x.sm = true := by
        cases t with
        | lf => unfold Tr.ok at hx; rw [Bool.and_eq_true] at hx; exact hx.1
        | nd a b => unfold Tr.ok at hx; simp only [Bool.and_eq_true] at hx; exact hx.1.1.1.1.1
      obtain ⟨l1, l2, l3⟩ := sm_of hsm
      unfold q__law_all_words_3
      refine seq_go ?_
      simp only [fSeqS, fSet, fSetN, fRet, fIfS, fNext, fBreak, fCont, fNever, fBin, fCmp, fV, fN, fC, lk, lk_z, lk_s, gAdd, gSub, gMul, gDiv, gMod, gPow, gShl, gShlW, gShr, gv, gLt, gLe, gGt, gGe, gEq, gNe, gIx, fNeg, fTV, fNot, fAnd, fOr, fAndV, fOrV, fNotV, fIf, fLN, fLC, fAN, fAC, fAB, fNV, fTup, fCB, bInt, bAbs, bLen, bMax2, bMin2, bTuple, fSeq, seqOf, fCall, fCallK, fAsg, gNm, gsNil, gsCons, gTpl, gSq, fPar, fMV, fMN, setAll, fApp, fExt, fSetIx, fFrz, fForS, fRng1, fRng2, fBits, fON, fOS, fSlT, fSlL, List.set_cons_zero, List.set_cons_succ, List.length_cons, List.length_nil, endsOf, decide_eq_true_eq, true_and, and_true, at0, at1, at2, at3, at4, Bool.not_eq_true', decide_eq_false_iff_not, lg2, Int.reduceLT, ↓reduceIte]
      refine go__law_times l1 l2 ?_
      simp only [wD]
      refine ⟨by rw [List.length_map, List.length_map, sizeLine_eq]; omega, ?_⟩
      rw [wcat]
      unfold q__law_all_words_2
      simp only [fSeqS, fSet, fSetN, fRet, fIfS, fNext, fBreak, fCont, fNever, fBin, fCmp, fV, fN, fC, lk, lk_z, lk_s, gAdd, gSub, gMul, gDiv, gMod, gPow, gShl, gShlW, gShr, gv, gLt, gLe, gGt, gGe, gEq, gNe, gIx, fNeg, fTV, fNot, fAnd, fOr, fAndV, fOrV, fNotV, fIf, fLN, fLC, fAN, fAC, fAB, fNV, fTup, fCB, bInt, bAbs, bLen, bMax2, bMin2, bTuple, fSeq, seqOf, fCall, fCallK, fAsg, gNm, gsNil, gsCons, gTpl, gSq, fPar, fMV, fMN, setAll, fApp, fExt, fSetIx, fFrz, fForS, fRng1, fRng2, fBits, fON, fOS, fSlT, fSlL, List.set_cons_zero, List.set_cons_succ, List.length_cons, List.length_nil, endsOf, decide_eq_true_eq, true_and, and_true, at0, at1, at2, at3, at4, Bool.not_eq_true', decide_eq_false_iff_not, lg2, Int.reduceLT, ↓reduceIte, M.D_eq]
      cases t with
      | lf =>
        unfold Tr.ok at hx
        simp only [Bool.and_eq_true, Nat.blt_eq] at hx
        have hb : most12 < (mulM x.l x.r).b := hx.2
        unfold most12 at hb
        rw [if_neg (by omega)]
        exact hK _ ⟨fs, rs, _, _, _, _, _, _, _, _, _, rfl, hk, ho', by simp only [Tr.mu] at hm; omega, by omega, by omega⟩
      | nd a b =>
        unfold Tr.ok at hx
        simp only [Bool.and_eq_true, Nat.ble_eq] at hx
        obtain ⟨⟨⟨⟨⟨_, hb⟩, _⟩, _⟩, ha⟩, hbb⟩ := hx
        have hb : (mulM x.l x.r).b ≤ most12 := hb
        unfold most12 at hb
        rw [if_pos (by omega)]
        have hlen : mus rs + 2 ≤ 3000 := by
          have := mu_pos a
          have := mu_pos b
          simp only [Tr.mu] at hm
          omega
        have hrl := mus_len rs
        refine ⟨by rw [List.length_map]; unfold most; omega, ?_⟩
        unfold q__law_all_words_1
        simp only [fSeqS, fSet, fSetN, fRet, fIfS, fNext, fBreak, fCont, fNever, fBin, fCmp, fV, fN, fC, lk, lk_z, lk_s, gAdd, gSub, gMul, gDiv, gMod, gPow, gShl, gShlW, gShr, gv, gLt, gLe, gGt, gGe, gEq, gNe, gIx, fNeg, fTV, fNot, fAnd, fOr, fAndV, fOrV, fNotV, fIf, fLN, fLC, fAN, fAC, fAB, fNV, fTup, fCB, bInt, bAbs, bLen, bMax2, bMin2, bTuple, fSeq, seqOf, fCall, fCallK, fAsg, gNm, gsNil, gsCons, gTpl, gSq, fPar, fMV, fMN, setAll, fApp, fExt, fSetIx, fFrz, fForS, fRng1, fRng2, fBits, fON, fOS, fSlT, fSlL, List.set_cons_zero, List.set_cons_succ, List.length_cons, List.length_nil, endsOf, decide_eq_true_eq, true_and, and_true, at0, at1, at2, at3, at4, Bool.not_eq_true', decide_eq_false_iff_not, lg2, Int.reduceLT, ↓reduceIte]
        refine ⟨by rw [stk_len]; unfold most; omega, ?_⟩
        unfold q__law_all_words_0
        simp only [fSeqS, fSet, fSetN, fRet, fIfS, fNext, fBreak, fCont, fNever, fBin, fCmp, fV, fN, fC, lk, lk_z, lk_s, gAdd, gSub, gMul, gDiv, gMod, gPow, gShl, gShlW, gShr, gv, gLt, gLe, gGt, gGe, gEq, gNe, gIx, fNeg, fTV, fNot, fAnd, fOr, fAndV, fOrV, fNotV, fIf, fLN, fLC, fAN, fAC, fAB, fNV, fTup, fCB, bInt, bAbs, bLen, bMax2, bMin2, bTuple, fSeq, seqOf, fCall, fCallK, fAsg, gNm, gsNil, gsCons, gTpl, gSq, fPar, fMV, fMN, setAll, fApp, fExt, fSetIx, fFrz, fForS, fRng1, fRng2, fBits, fON, fOS, fSlT, fSlL, List.set_cons_zero, List.set_cons_succ, List.length_cons, List.length_nil, endsOf, decide_eq_true_eq, true_and, and_true, at0, at1, at2, at3, at4, Bool.not_eq_true', decide_eq_false_iff_not, lg2, Int.reduceLT, ↓reduceIte]
        refine ⟨by rw [List.length_append, stk_len, List.length_singleton]; unfold most; omega, ?_⟩
        have h1 : (fs ++ [(x.m.b, x.w)]) ++ flat ((b, x.rc) :: (a, x.lc) :: rs) = known := by
          rw [flat_cons, flat_cons, ← hk]
          simp only [Tr.pre, List.append_assoc, List.cons_append, List.nil_append]
        have h2 : okR ((b, x.rc) :: (a, x.lc) :: rs) := by
          intro y hy
          rcases List.mem_cons.mp hy with rfl | hy
          · exact hbb
          · rcases List.mem_cons.mp hy with rfl | hy
            · exact ha
            · exact ho' y hy
        have h3 : mus ((b, x.rc) :: (a, x.lc) :: rs) ≤ ds.length := by
          rw [mus_cons, mus_cons]
          simp only [Tr.mu] at hm
          show b.mu + (a.mu + mus rs) ≤ ds.length
          omega
        have key := fun s1 s2 s5 s6 s7 s8 s9 s10 s11 => hK _ ⟨fs ++ [(x.m.b, x.w)], (b, x.rc) :: (a, x.lc) :: rs, s1, s2, s5, s6, s7, s8, s9, s10, s11, rfl, h1, h2, h3, by rw [List.length_append, List.length_singleton]; omega, by omega⟩
        rw [stk_cons, stk_cons, List.map_append] at key
        exact key _ _ _ _ _ _ _ _ _
  · rintro ρ ⟨fs, rs, s1, s2, s5, s6, s7, s8, s9, s10, s11, rfl, hk, ho, hm, _, _⟩
    have hl := mus_len rs
    simp only [List.length_nil] at hm
    cases rs with
    | cons x rs => rw [List.length_cons] at hl; omega
    | nil =>
      have hk : fs = known := by rw [← hk]; unfold flat; simp
      simp only [fSeqS, fSet, fSetN, fRet, fIfS, fNext, fBreak, fCont, fNever, fBin, fCmp, fV, fN, fC, lk, lk_z, lk_s, gAdd, gSub, gMul, gDiv, gMod, gPow, gShl, gShlW, gShr, gv, gLt, gLe, gGt, gGe, gEq, gNe, gIx, fNeg, fTV, fNot, fAnd, fOr, fAndV, fOrV, fNotV, fIf, fLN, fLC, fAN, fAC, fAB, fNV, fTup, fCB, bInt, bAbs, bLen, bMax2, bMin2, bTuple, fSeq, seqOf, fCall, fCallK, fAsg, gNm, gsNil, gsCons, gTpl, gSq, fPar, fMV, fMN, setAll, fApp, fExt, fSetIx, fFrz, fForS, fRng1, fRng2, fBits, fON, fOS, fSlT, fSlL, List.set_cons_zero, List.set_cons_succ, List.length_cons, List.length_nil, endsOf, decide_eq_true_eq, true_and, and_true, at0, at1, at2, at3, at4, Bool.not_eq_true', decide_eq_false_iff_not, lg2, Int.reduceLT, ↓reduceIte]
      rw [hk]; exact hq
  · rfl
  · intro x hx
    rw [List.mem_singleton] at hx
    subst hx
    exact T0_ok
  · have := T0_mu
    rw [rng_len]
    unfold mus
    simp only [List.map_cons, List.map_nil, List.sum_cons, List.sum_nil]
    omega
  · rw [rng_len]; decide
  · rw [rng_len]; decide
end T
end DL
namespace DL
namespace T
open PySem L2 PySem.Spec PyProof.Rows
theorem known_nodup : (known.map (·.1)).Nodup := by decide +kernel
theorem one_word : ∀ (l : List (Nat × W)) (n : Nat), (l.map (·.1)).Nodup → (l.filter fun p => p.1 == n).length ≤ 1
  | [], _, _ => Nat.zero_le _
  | p :: l, n, h => by
    rw [List.map_cons, List.nodup_cons] at h
    by_cases e : p.1 = n
    · rw [List.filter_cons_of_pos (by simpa using e)]
      have : l.filter (fun p => p.1 == n) = [] := by
        rw [List.filter_eq_nil_iff]
        intro q hq z
        have z : q.1 = n := by simpa using z
        exact h.1 (by rw [e, ← z]; exact List.mem_map_of_mem hq)
      rw [this]
      exact Nat.le_refl _
    · rw [List.filter_cons_of_neg (by simpa using e)]
      exact one_word l n h.2
theorem wordsOf_len (n : Nat) : (wordsOf n).length ≤ 1 := by
  unfold wordsOf
  rw [List.length_map]
  exact one_word _ _ known_nodup
theorem pre_ge : ∀ (t : Tr) (x : Nd), t.ok x = true → ∀ p ∈ t.pre x, x.m.b ≤ p.1
  | .lf, _, _, p, h => by cases h
  | .nd a b, x, h, p, hp => by
    unfold Tr.ok at h
    simp only [Bool.and_eq_true, Nat.ble_eq] at h
    obtain ⟨⟨⟨⟨⟨_, _⟩, h1⟩, h2⟩, ha⟩, hb⟩ := h
    unfold Tr.pre at hp
    rcases List.mem_cons.mp hp with rfl | hp
    · exact Nat.le_refl _
    · rcases List.mem_append.mp hp with hp | hp
      · exact Nat.le_trans h2 (pre_ge b _ hb p hp)
      · exact Nat.le_trans h1 (pre_ge a _ ha p hp)
theorem cut_off {n : Nat} {t : Tr} {x : Nd} (h : t.ok x = true) (hn : n < x.m.b) : (t.pre x).filter (fun p => p.1 == n) = [] := by
  rw [List.filter_eq_nil_iff]
  intro p hp z
  have z : p.1 = n := by simpa using z
  have := pre_ge t x h p hp
  omega
theorem wD_eq (w : W) : wD w = .tuple (w.map nD) := rfl
/-- what is left of the walk for n -/
def left (n : Nat) (rs : Rs) : List W := ((flat rs).filter fun p => p.1 == n).map (·.2)
theorem left_nil (n : Nat) : left n [] = [] := rfl
theorem left_cons (n : Nat) (x : Tr × Nd) (rs : Rs) : left n (x :: rs) = ((x.1.pre x.2).filter fun p => p.1 == n).map (·.2) ++ left n rs := by
  unfold left
  rw [flat_cons, List.filter_append, List.map_append]
theorem left_nd (n : Nat) (a b : Tr) (x : Nd) (rs : Rs) : left n ((.nd a b, x) :: rs) = (if x.m.b = n then [x.w] else []) ++ left n ((b, x.rc) :: (a, x.lc) :: rs) := by
  rw [left_cons, left_cons, left_cons]
  simp only [Tr.pre]
  by_cases e : x.m.b = n
  · rw [List.filter_cons_of_pos (by simpa using e), if_pos e, List.filter_append, List.map_cons, List.map_append, List.cons_append, List.append_assoc]
    rfl
  · rw [List.filter_cons_of_neg (by simpa using e), if_neg e, List.filter_append, List.map_append, List.append_assoc]
    rfl
theorem ext_go {i : Nat} {fa : SE} {E : En} {ρ : Env} {ds : List D} (es : List D) (h : lk ρ i = .ow ds) (hfa : ∀ P : D → Prop, P (.list es) → fa ρ P) (len : ds.length + es.length ≤ most) (k : E.nx (ρ.set i (.ow (ds ++ es)))) : fExt i fa E ρ := by
  unfold fExt
  rw [h]
  exact hfa _ ⟨len, k⟩
theorem r_words_of_number : ∀ ss (Q : D → Prop), S_words_of_number ss Q → g_words_of_number (endsOf Q) (initE N_words_of_number ss) := by
  rintro ss Q ⟨n, rfl, ⟨hn1, hn2⟩, hq⟩
  have hq : Q (.tuple ((wordsOf n).map wD)) := hq
  unfold most12 at hn2
  simp only [N_words_of_number, initE, List.length_cons, List.length_nil, Nat.reduceAdd, Nat.reduceSub, List.replicate, List.cons_append, List.nil_append, List.append_nil]
  unfold g_words_of_number
  refine seq_go ?_
  simp only [fSeqS, fSet, fSetN, fRet, fIfS, fNext, fBreak, fCont, fNever, fBin, fCmp, fV, fN, fC, lk, lk_z, lk_s, gAdd, gSub, gMul, gDiv, gMod, gPow, gShl, gShlW, gShr, gv, gLt, gLe, gGt, gGe, gEq, gNe, gIx, fNeg, fTV, fNot, fAnd, fOr, fAndV, fOrV, fNotV, fIf, fLN, fLC, fAN, fAC, fAB, fNV, fTup, fCB, bInt, bAbs, bLen, bMax2, bMin2, bTuple, fSeq, seqOf, fCall, fCallK, fAsg, gNm, gsNil, gsCons, gTpl, gSq, fPar, fMV, fMN, setAll, fApp, fExt, fSetIx, fFrz, fForS, fRng1, fRng2, fBits, fON, fOS, fSlT, fSlL, List.set_cons_zero, List.set_cons_succ, List.length_cons, List.length_nil, endsOf, decide_eq_true_eq, true_and, and_true, at0, at1, at2, at3, at4, Bool.not_eq_true', decide_eq_false_iff_not, lg2, Int.reduceLT, ↓reduceIte, fLc, wipeE]
  refine ⟨by simp only [List.length_cons, List.length_nil, most]; decide, ?_⟩
  refine lc_filter (f := wD) (F := wD) (c := fun w => (tab w).b == n) [[0], [1]] (fun w hw K J h1 h2 => ?_) _ ?_
  · have hl : w.length ≤ 100 := by
      simp only [List.mem_cons, List.not_mem_nil, or_false] at hw
      rcases hw with rfl | rfl <;> decide
    simp only [fSeqS, fSet, fSetN, fRet, fIfS, fNext, fBreak, fCont, fNever, fBin, fCmp, fV, fN, fC, lk, lk_z, lk_s, gAdd, gSub, gMul, gDiv, gMod, gPow, gShl, gShlW, gShr, gv, gLt, gLe, gGt, gGe, gEq, gNe, gIx, fNeg, fTV, fNot, fAnd, fOr, fAndV, fOrV, fNotV, fIf, fLN, fLC, fAN, fAC, fAB, fNV, fTup, fCB, bInt, bAbs, bLen, bMax2, bMin2, bTuple, fSeq, seqOf, fCall, fCallK, fAsg, gNm, gsNil, gsCons, gTpl, gSq, fPar, fMV, fMN, setAll, fApp, fExt, fSetIx, fFrz, fForS, fRng1, fRng2, fBits, fON, fOS, fSlT, fSlL, List.set_cons_zero, List.set_cons_succ, List.length_cons, List.length_nil, endsOf, decide_eq_true_eq, true_and, and_true, at0, at1, at2, at3, at4, Bool.not_eq_true', decide_eq_false_iff_not, lg2, Int.reduceLT, ↓reduceIte]
    refine go_markoff_number hl ?_
    simp only [fSeqS, fSet, fSetN, fRet, fIfS, fNext, fBreak, fCont, fNever, fBin, fCmp, fV, fN, fC, lk, lk_z, lk_s, gAdd, gSub, gMul, gDiv, gMod, gPow, gShl, gShlW, gShr, gv, gLt, gLe, gGt, gGe, gEq, gNe, gIx, fNeg, fTV, fNot, fAnd, fOr, fAndV, fOrV, fNotV, fIf, fLN, fLC, fAN, fAC, fAB, fNV, fTup, fCB, bInt, bAbs, bLen, bMax2, bMin2, bTuple, fSeq, seqOf, fCall, fCallK, fAsg, gNm, gsNil, gsCons, gTpl, gSq, fPar, fMV, fMN, setAll, fApp, fExt, fSetIx, fFrz, fForS, fRng1, fRng2, fBits, fON, fOS, fSlT, fSlL, List.set_cons_zero, List.set_cons_succ, List.length_cons, List.length_nil, endsOf, decide_eq_true_eq, true_and, and_true, at0, at1, at2, at3, at4, Bool.not_eq_true', decide_eq_false_iff_not, lg2, Int.reduceLT, ↓reduceIte]
    by_cases e : (tab w).b = n
    · rw [if_pos (by omega)]
      exact h1 (by simpa using e)
    · rw [if_neg (by omega)]
      exact h2 (by simpa using e)
  have e0 : ([[0], [1]] : List W).filter (fun w => (tab w).b == n) = (([(1, [0]), (2, [1])] : List (Nat × W)).filter fun p => p.1 == n).map (·.2) := by
    have a0 : (tab [0]).b = 1 := rfl
    have a1 : (tab [1]).b = 2 := rfl
    by_cases h1 : 1 = n
    · subst h1; rfl
    · by_cases h2 : 2 = n
      · subst h2; rfl
      · rw [List.filter_cons_of_neg (by rw [a0]; simpa using h1), List.filter_cons_of_neg (by rw [a1]; simpa using h2), List.filter_cons_of_neg (by simpa using h1), List.filter_cons_of_neg (by simpa using h2)]
        rfl
  rw [e0]
  unfold q_words_of_number_5
  refine seq_go ?_
  simp only [fSeqS, fSet, fSetN, fRet, fIfS, fNext, fBreak, fCont, fNever, fBin, fCmp, fV, fN, fC, lk, lk_z, lk_s, gAdd, gSub, gMul, gDiv, gMod, gPow, gShl, gShlW, gShr, gv, gLt, gLe, gGt, gGe, gEq, gNe, gIx, fNeg, fTV, fNot, fAnd, fOr, fAndV, fOrV, fNotV, fIf, fLN, fLC, fAN, fAC, fAB, fNV, fTup, fCB, bInt, bAbs, bLen, bMax2, bMin2, bTuple, fSeq, seqOf, fCall, fCallK, fAsg, gNm, gsNil, gsCons, gTpl, gSq, fPar, fMV, fMN, setAll, fApp, fExt, fSetIx, fFrz, fForS, fRng1, fRng2, fBits, fON, fOS, fSlT, fSlL, List.set_cons_zero, List.set_cons_succ, List.length_cons, List.length_nil, endsOf, decide_eq_true_eq, true_and, and_true, at0, at1, at2, at3, at4, Bool.not_eq_true', decide_eq_false_iff_not, lg2, Int.reduceLT, ↓reduceIte]
  refine go_word_table (w := [0]) (by decide) ?_
  try simp only [fSeqS, fSet, fSetN, fRet, fIfS, fNext, fBreak, fCont, fNever, fBin, fCmp, fV, fN, fC, lk, lk_z, lk_s, gAdd, gSub, gMul, gDiv, gMod, gPow, gShl, gShlW, gShr, gv, gLt, gLe, gGt, gGe, gEq, gNe, gIx, fNeg, fTV, fNot, fAnd, fOr, fAndV, fOrV, fNotV, fIf, fLN, fLC, fAN, fAC, fAB, fNV, fTup, fCB, bInt, bAbs, bLen, bMax2, bMin2, bTuple, fSeq, seqOf, fCall, fCallK, fAsg, gNm, gsNil, gsCons, gTpl, gSq, fPar, fMV, fMN, setAll, fApp, fExt, fSetIx, fFrz, fForS, fRng1, fRng2, fBits, fON, fOS, fSlT, fSlL, List.set_cons_zero, List.set_cons_succ, List.length_cons, List.length_nil, endsOf, decide_eq_true_eq, true_and, and_true, at0, at1, at2, at3, at4, Bool.not_eq_true', decide_eq_false_iff_not, lg2, Int.reduceLT, ↓reduceIte]
  refine go_word_table (w := [1]) (by decide) ?_
  try simp only [fSeqS, fSet, fSetN, fRet, fIfS, fNext, fBreak, fCont, fNever, fBin, fCmp, fV, fN, fC, lk, lk_z, lk_s, gAdd, gSub, gMul, gDiv, gMod, gPow, gShl, gShlW, gShr, gv, gLt, gLe, gGt, gGe, gEq, gNe, gIx, fNeg, fTV, fNot, fAnd, fOr, fAndV, fOrV, fNotV, fIf, fLN, fLC, fAN, fAC, fAB, fNV, fTup, fCB, bInt, bAbs, bLen, bMax2, bMin2, bTuple, fSeq, seqOf, fCall, fCallK, fAsg, gNm, gsNil, gsCons, gTpl, gSq, fPar, fMV, fMN, setAll, fApp, fExt, fSetIx, fFrz, fForS, fRng1, fRng2, fBits, fON, fOS, fSlT, fSlL, List.set_cons_zero, List.set_cons_succ, List.length_cons, List.length_nil, endsOf, decide_eq_true_eq, true_and, and_true, at0, at1, at2, at3, at4, Bool.not_eq_true', decide_eq_false_iff_not, lg2, Int.reduceLT, ↓reduceIte]
  unfold q_words_of_number_4
  refine seq_go ?_
  refine while_of (fun m ρ => ∃ (fs : List W) (rs : Rs) (s2 s4 s5 s6 s7 s8 : Sl), ρ = [.sh (nD n), .ow (fs.map wD), s2, .ow (stk rs), s4, s5, s6, s7, s8] ∧ fs ++ left n rs = wordsOf n ∧ okR rs ∧ m = mus rs ∧ fs.length + mus rs ≤ 2000) ?_ _ _ ⟨(([(1, [0]), (2, [1])] : List (Nat × W)).filter fun p => p.1 == n).map (·.2), [(T0, x0)], _, _, _, _, _, _, rfl, ?_, ?_, rfl, ?_⟩
  · rintro m ρ ⟨fs, rs, s2, s4, s5, s6, s7, s8, rfl, hk, ho, rfl, hlen⟩ K hK
    simp only [fSeqS, fSet, fSetN, fRet, fIfS, fNext, fBreak, fCont, fNever, fBin, fCmp, fV, fN, fC, lk, lk_z, lk_s, gAdd, gSub, gMul, gDiv, gMod, gPow, gShl, gShlW, gShr, gv, gLt, gLe, gGt, gGe, gEq, gNe, gIx, fNeg, fTV, fNot, fAnd, fOr, fAndV, fOrV, fNotV, fIf, fLN, fLC, fAN, fAC, fAB, fNV, fTup, fCB, bInt, bAbs, bLen, bMax2, bMin2, bTuple, fSeq, seqOf, fCall, fCallK, fAsg, gNm, gsNil, gsCons, gTpl, gSq, fPar, fMV, fMN, setAll, fApp, fExt, fSetIx, fFrz, fForS, fRng1, fRng2, fBits, fON, fOS, fSlT, fSlL, List.set_cons_zero, List.set_cons_succ, List.length_cons, List.length_nil, endsOf, decide_eq_true_eq, true_and, and_true, at0, at1, at2, at3, at4, Bool.not_eq_true', decide_eq_false_iff_not, lg2, Int.reduceLT, ↓reduceIte]
    refine ⟨(shp_stk rs).sh (by decide), nil_shp, ?_⟩
    rw [eqv_empty]
    cases rs with
    | nil =>
      rw [if_neg (by rw [show (stk []).isEmpty = true from rfl]; decide)]
      have hk : fs = wordsOf n := by rw [← hk, left_nil, List.append_nil]
      simp only [fSrt, fSeqS, fSet, fSetN, fRet, fIfS, fNext, fBreak, fCont, fNever, fBin, fCmp, fV, fN, fC, lk, lk_z, lk_s, gAdd, gSub, gMul, gDiv, gMod, gPow, gShl, gShlW, gShr, gv, gLt, gLe, gGt, gGe, gEq, gNe, gIx, fNeg, fTV, fNot, fAnd, fOr, fAndV, fOrV, fNotV, fIf, fLN, fLC, fAN, fAC, fAB, fNV, fTup, fCB, bInt, bAbs, bLen, bMax2, bMin2, bTuple, fSeq, seqOf, fCall, fCallK, fAsg, gNm, gsNil, gsCons, gTpl, gSq, fPar, fMV, fMN, setAll, fApp, fExt, fSetIx, fFrz, fForS, fRng1, fRng2, fBits, fON, fOS, fSlT, fSlL, List.set_cons_zero, List.set_cons_succ, List.length_cons, List.length_nil, endsOf, decide_eq_true_eq, true_and, and_true, at0, at1, at2, at3, at4, Bool.not_eq_true', decide_eq_false_iff_not, lg2, Int.reduceLT, ↓reduceIte]
      refine .inr ⟨?_, ?_⟩
      · rw [List.length_map, hk]; exact wordsOf_len n
      · rw [hk]; exact hq
    | cons x rs =>
      obtain ⟨t, x⟩ := x
      rw [if_pos (by rw [stk_cons]; simp)]
      unfold q_words_of_number_3
      refine seq_go ?_
      simp only [fPop, fSeqS, fSet, fSetN, fRet, fIfS, fNext, fBreak, fCont, fNever, fBin, fCmp, fV, fN, fC, lk, lk_z, lk_s, gAdd, gSub, gMul, gDiv, gMod, gPow, gShl, gShlW, gShr, gv, gLt, gLe, gGt, gGe, gEq, gNe, gIx, fNeg, fTV, fNot, fAnd, fOr, fAndV, fOrV, fNotV, fIf, fLN, fLC, fAN, fAC, fAB, fNV, fTup, fCB, bInt, bAbs, bLen, bMax2, bMin2, bTuple, fSeq, seqOf, fCall, fCallK, fAsg, gNm, gsNil, gsCons, gTpl, gSq, fPar, fMV, fMN, setAll, fApp, fExt, fSetIx, fFrz, fForS, fRng1, fRng2, fBits, fON, fOS, fSlT, fSlL, List.set_cons_zero, List.set_cons_succ, List.length_cons, List.length_nil, endsOf, decide_eq_true_eq, true_and, and_true, at0, at1, at2, at3, at4, Bool.not_eq_true', decide_eq_false_iff_not, lg2, Int.reduceLT, ↓reduceIte, stk_last, stk_drop, Nd.D_eq, List.length_cons, List.length_nil]
      have hx : t.ok x = true := ho (t, x) List.mem_cons_self
      have ho' := ho.tail
      rw [mus_cons] at hlen hK
      try simp only at hlen hK
      have hsm : x.sm = true := by
        cases t with
        | lf => unfold Tr.ok at hx; rw [Bool.and_eq_true] at hx; exact hx.1
        | nd a b => unfold Tr.ok at hx; simp only [Bool.and_eq_true] at hx; exact hx.1.1.1.1.1
      obtain ⟨l1, l2, l3⟩ := sm_of hsm
      have hmt := mu_pos t
      have hrl := mus_len rs
      unfold q_words_of_number_2
      refine seq_go ?_
      simp only [fSeqS, fSet, fSetN, fRet, fIfS, fNext, fBreak, fCont, fNever, fBin, fCmp, fV, fN, fC, lk, lk_z, lk_s, gAdd, gSub, gMul, gDiv, gMod, gPow, gShl, gShlW, gShr, gv, gLt, gLe, gGt, gGe, gEq, gNe, gIx, fNeg, fTV, fNot, fAnd, fOr, fAndV, fOrV, fNotV, fIf, fLN, fLC, fAN, fAC, fAB, fNV, fTup, fCB, bInt, bAbs, bLen, bMax2, bMin2, bTuple, fSeq, seqOf, fCall, fCallK, fAsg, gNm, gsNil, gsCons, gTpl, gSq, fPar, fMV, fMN, setAll, fApp, fExt, fSetIx, fFrz, fForS, fRng1, fRng2, fBits, fON, fOS, fSlT, fSlL, List.set_cons_zero, List.set_cons_succ, List.length_cons, List.length_nil, endsOf, decide_eq_true_eq, true_and, and_true, at0, at1, at2, at3, at4, Bool.not_eq_true', decide_eq_false_iff_not, lg2, Int.reduceLT, ↓reduceIte, wD]
      refine ⟨by rw [List.length_map, List.length_map, sizeLine_eq]; omega, ?_⟩
      refine go_table_times l1 l2 ?_
      rw [wcat]
      unfold q_words_of_number_1
      simp only [fSeqS, fSet, fSetN, fRet, fIfS, fNext, fBreak, fCont, fNever, fBin, fCmp, fV, fN, fC, lk, lk_z, lk_s, gAdd, gSub, gMul, gDiv, gMod, gPow, gShl, gShlW, gShr, gv, gLt, gLe, gGt, gGe, gEq, gNe, gIx, fNeg, fTV, fNot, fAnd, fOr, fAndV, fOrV, fNotV, fIf, fLN, fLC, fAN, fAC, fAB, fNV, fTup, fCB, bInt, bAbs, bLen, bMax2, bMin2, bTuple, fSeq, seqOf, fCall, fCallK, fAsg, gNm, gsNil, gsCons, gTpl, gSq, fPar, fMV, fMN, setAll, fApp, fExt, fSetIx, fFrz, fForS, fRng1, fRng2, fBits, fON, fOS, fSlT, fSlL, List.set_cons_zero, List.set_cons_succ, List.length_cons, List.length_nil, endsOf, decide_eq_true_eq, true_and, and_true, at0, at1, at2, at3, at4, Bool.not_eq_true', decide_eq_false_iff_not, lg2, Int.reduceLT, ↓reduceIte, M.D_eq]
      by_cases hb : (mulM x.l x.r).b ≤ n
      · rw [if_pos (by omega)]
        cases t with
        | lf =>
          exfalso
          unfold Tr.ok at hx
          simp only [Bool.and_eq_true, Nat.blt_eq] at hx
          have := hx.2
          have : most12 < (mulM x.l x.r).b := this
          unfold most12 at this
          omega
        | nd a b =>
          rw [left_nd] at hk
          unfold Tr.ok at hx
          simp only [Bool.and_eq_true, Nat.ble_eq] at hx
          obtain ⟨⟨⟨⟨⟨_, _⟩, _⟩, _⟩, ha⟩, hbb⟩ := hx
          simp only [Tr.mu] at hlen hK
          have h2 : okR ((b, x.rc) :: (a, x.lc) :: rs) := by
            intro y hy
            rcases List.mem_cons.mp hy with rfl | hy
            · exact hbb
            · rcases List.mem_cons.mp hy with rfl | hy
              · exact ha
              · exact ho' y hy
          have h3 : mus ((b, x.rc) :: (a, x.lc) :: rs) = b.mu + (a.mu + mus rs) := by
            rw [mus_cons, mus_cons]
          have go : ∀ fs' : List W, fs'.length ≤ fs.length + 1 → fs' ++ left n ((b, x.rc) :: (a, x.lc) :: rs) = wordsOf n → ∀ (bk : Env → Prop), q_words_of_number_0 ⟨K, Q, bk, K⟩ [.sh (nD n), .ow (fs'.map wD), .sh (wD x.w), .ow (stk rs), .sh (wD x.u), .sh x.l.D, .sh (wD x.v), .sh x.r.D, .sh x.m.D] := by
            intro fs' hl hw bk
            unfold q_words_of_number_0
            refine ext_go [x.lc.D, x.rc.D] rfl (fun P h => by simp only [fSeqS, fSet, fSetN, fRet, fIfS, fNext, fBreak, fCont, fNever, fBin, fCmp, fV, fN, fC, lk, lk_z, lk_s, gAdd, gSub, gMul, gDiv, gMod, gPow, gShl, gShlW, gShr, gv, gLt, gLe, gGt, gGe, gEq, gNe, gIx, fNeg, fTV, fNot, fAnd, fOr, fAndV, fOrV, fNotV, fIf, fLN, fLC, fAN, fAC, fAB, fNV, fTup, fCB, bInt, bAbs, bLen, bMax2, bMin2, bTuple, fSeq, seqOf, fCall, fCallK, fAsg, gNm, gsNil, gsCons, gTpl, gSq, fPar, fMV, fMN, setAll, fApp, fExt, fSetIx, fFrz, fForS, fRng1, fRng2, fBits, fON, fOS, fSlT, fSlL, List.set_cons_zero, List.set_cons_succ, List.length_cons, List.length_nil, endsOf, decide_eq_true_eq, true_and, and_true, at0, at1, at2, at3, at4, Bool.not_eq_true', decide_eq_false_iff_not, lg2, Int.reduceLT, ↓reduceIte]; exact h) (by rw [stk_len]; simp only [List.length_cons, List.length_nil]; unfold most; omega) ?_
            simp only [List.set_cons_succ, List.set_cons_zero]
            have key := fun s2 s4 s5 s6 s7 s8 => hK (mus ((b, x.rc) :: (a, x.lc) :: rs)) _ (by omega) ⟨fs', (b, x.rc) :: (a, x.lc) :: rs, s2, s4, s5, s6, s7, s8, rfl, hw, h2, rfl, by omega⟩
            rw [stk_cons, stk_cons, List.append_assoc] at key
            exact key _ _ _ _ _ _
          by_cases e : (mulM x.l x.r).b = n
          · rw [if_pos (by omega)]
            refine ⟨by rw [List.length_map]; unfold most; omega, ?_⟩
            have e' : x.m.b = n := e
            rw [if_pos e'] at hk
            have := go (fs ++ [x.w]) (by rw [List.length_append, List.length_singleton]; omega) (by rw [List.append_assoc]; exact hk) (fRet (fCB bTuple (fLC (fNV (fSrt (fN 1))) fLN)) { nx := fun _ => Q PyData.none, rt := Q, bk := fun _ => False, ct := fun _ => False })
            rw [List.map_append] at this
            exact this
          · rw [if_neg (by omega)]
            refine ⟨by rw [List.length_map]; unfold most; omega, ?_⟩
            have e' : ¬ x.m.b = n := e
            rw [if_neg e', List.nil_append] at hk
            rw [List.append_nil]
            exact go fs (by omega) hk (fRet (fCB bTuple (fLC (fNV (fSrt (fN 1))) fLN)) { nx := fun _ => Q PyData.none, rt := Q, bk := fun _ => False, ct := fun _ => False })
      · rw [if_neg (by omega)]
        have hk' : fs ++ left n rs = wordsOf n := by
          rw [left_cons, cut_off hx (by show n < (mulM x.l x.r).b; omega)] at hk
          exact hk
        exact hK (mus rs) _ (by omega) ⟨fs, rs, _, _, _, _, _, _, rfl, hk', ho', rfl, by omega⟩
  · unfold left wordsOf known
    rw [← List.map_append, ← List.filter_append]
    unfold flat
    simp
  · intro x hx
    rw [List.mem_singleton] at hx
    subst hx
    exact T0_ok
  · have := T0_mu
    have : ((([(1, [0]), (2, [1])] : List (Nat × W)).filter fun p => p.1 == n).map (·.2)).length ≤ 2 := by
      rw [List.length_map]
      exact List.length_filter_le _ _
    unfold mus
    simp only [List.map_cons, List.map_nil, List.sum_cons, List.sum_nil]
    omega
end T
end DL
namespace DL
namespace T
open PySem L2 PySem.Spec PyProof.Rows
theorem ni_nat {n : Nat} (h : n < 2 ^ 500) : Ni 0 600 (nD n) := Ni.int (by rw [Int.natAbs_natCast]; exact Nat.lt_of_lt_of_le h (Nat.pow_le_pow_right (by decide) (by decide)))
theorem ni_M {m : M} (h : m.lt 500) : Ni 2 4000 m.D := by
  obtain ⟨h1, h2, h3, h4⟩ := h
  exact (Ni.tup ((NiA.cons (Ni.tup (NiA.cons (ni_nat h1) (NiA.cons (ni_nat h2) (NiA.nil (w := 0))))) (NiA.cons (Ni.tup (NiA.cons (ni_nat h3) (NiA.cons (ni_nat h4) (NiA.nil (w := 0))))) (NiA.nil (w := 0)))).le (m := 1) (v := 3990) (by decide) (by decide))).le (by decide) (by decide)
theorem ni_w {w : W} (h : w.length ≤ 120) (hl : ∀ l ∈ w, l < 2 ^ 500) : Ni 1 80000 (wD w) := by
  have := Ni.tup (NiA.all (n := 0) (w := 600) (ds := w.map nD) fun d hd => by
    obtain ⟨l, h1, rfl⟩ := List.mem_map.mp hd
    exact ni_nat (hl l h1))
  refine this.le (by decide) ?_
  rw [List.length_map]; omega
theorem wok_ni {w : W} (h : WOk w) : Ni 1 80000 (wD w) := ni_w (by have := h.1; omega) fun l hl => by
  have := h.2 l hl
  exact Nat.lt_of_le_of_lt this (by decide)
theorem Shp.ne {n : Nat} {d : D} (h : Shp n d) (hn : n ≤ 60) {Q : Bool → Prop} (q : Q false) : gNe d d Q := by
  have gen : SeqAt.shaped d = true ∧ SeqAt.shaped d = true ∧ Q (!PyData.eqv d d) := ⟨h.sh hn, h.sh hn, by rw [SeqAt.eqv_refl d h.cl]; exact q⟩
  cases d with
  | int i => show Q (!decide (i = i)); simpa using q
  | str i => show Q (!decide (i = i)); simpa using q
  | bool i => show Q (!decide (i = i)); simpa using q
  | none => exact gen
  | list ds => exact gen
  | tuple ds => exact gen
  | dict ds => exact gen
theorem str_eq {x : Str} {Q : D → Prop} (q : Q (.bool true)) : gv gEq (.str x) (.str x) Q := by
  show Q (.bool (decide (x = x)))
  rw [decide_eq_true rfl]; exact q
theorem str_ne {x : Str} {Q : Bool → Prop} (q : Q false) : gNe (.str x) (.str x) Q := by
  show Q (!decide (x = x))
  rw [decide_eq_true rfl]; exact q
theorem tab500 {w : W} (h : w.length ≤ 100) : (tab w).lt 500 := (tab_lt w).le (by omega)
theorem r__law_is_word_right : ∀ ss (Q : D → Prop), S__law_is_word_right ss Q → g__law_is_word_right (endsOf Q) (initE N__law_is_word_right ss) := by
  rintro ss Q ⟨⟨w, b⟩, rfl, h, hq⟩
  have hl : w.length ≤ 60 := h.1
  have hq : Q (.bool true) := hq
  simp only [N__law_is_word_right, initE, List.length_cons, List.length_nil, Nat.reduceAdd, Nat.reduceSub, List.replicate, List.cons_append, List.nil_append, List.append_nil]
  unfold g__law_is_word_right
  refine seq_go ?_
  simp only [fSeqS, fSet, fSetN, fRet, fIfS, fNext, fBreak, fCont, fNever, fBin, fCmp, fV, fN, fC, lk, lk_z, lk_s, gAdd, gSub, gMul, gDiv, gMod, gPow, gShl, gShlW, gShr, gv, gLt, gLe, gGt, gGe, gIx, fNeg, fTV, fNot, fAnd, fOr, fAndV, fOrV, fNotV, fIf, fLN, fLC, fAN, fAC, fAB, fNV, fTup, fCB, bInt, bAbs, bLen, bMax2, bMin2, bTuple, fSeq, seqOf, fCall, fCallK, fAsg, gNm, gsNil, gsCons, gTpl, gSq, fPar, fMV, fMN, setAll, fApp, fExt, fSetIx, fFrz, fForS, fRng1, fRng2, fBits, fON, fOS, fSlT, fSlL, List.set_cons_zero, List.set_cons_succ, List.length_cons, List.length_nil, endsOf, decide_eq_true_eq, true_and, and_true, at0, at1, at2, at3, at4, Bool.not_eq_true', decide_eq_false_iff_not, lg2, Int.reduceLT, ↓reduceIte]
  refine go__law_table (by omega) ?_
  have t5 := tab500 (w := w) (by omega)
  have ni : Ni 3 6000 (.list [(tab w).D, nD (tab w).b]) := (Ni.list ((NiA.cons (ni_M t5) (NiA.cons ((ni_nat t5.2.1).le (Nat.zero_le _) (Nat.le_refl _)) (NiA.nil (w := 0)))).le (m := 2) (v := 5900) (by decide) (by decide))).le (by decide) (by decide)
  simp only [M.D_eq, fSeqS, fSet, fSetN, fRet, fIfS, fNext, fBreak, fCont, fNever, fBin, fCmp, fV, fN, fC, lk, lk_z, lk_s, gAdd, gSub, gMul, gDiv, gMod, gPow, gShl, gShlW, gShr, gv, gLt, gLe, gGt, gGe, gIx, fNeg, fTV, fNot, fAnd, fOr, fAndV, fOrV, fNotV, fIf, fLN, fLC, fAN, fAC, fAB, fNV, fTup, fCB, bInt, bAbs, bLen, bMax2, bMin2, bTuple, fSeq, seqOf, fCall, fCallK, fAsg, gNm, gsNil, gsCons, gTpl, gSq, fPar, fMV, fMN, setAll, fApp, fExt, fSetIx, fFrz, fForS, fRng1, fRng2, fBits, fON, fOS, fSlT, fSlL, List.set_cons_zero, List.set_cons_succ, List.length_cons, List.length_nil, endsOf, decide_eq_true_eq, true_and, and_true, at0, at1, at2, at3, at4, Bool.not_eq_true', decide_eq_false_iff_not, lg2, Int.reduceLT, ↓reduceIte]
  split
  · refine go_word_table (w := w) (by omega) ?_
    refine go_markoff_number (w := w) (by omega) ?_
    refine ni.repr (by decide) (by decide) ?_
    rw [M.D_eq] at ni
    refine ni.repr (by decide) (by decide) ?_
    exact str_eq hq
  · refine go_word_table (w := w) (by omega) ?_
    refine go_markoff_number (w := w) (by omega) ?_
    refine ni.repr (by decide) (by decide) ?_
    rw [M.D_eq] at ni
    refine ni.repr (by decide) (by decide) ?_
    exact str_eq hq
theorem go__law_is_word_right {w : W} {b : Bool} {Q : D → Prop} (h : WOk w) (hq : Q (.bool true)) : S__law_is_word_right [.sh (wD w), .sh (.bool b)] Q := ⟨(w, b), rfl, h, hq⟩
end T
end DL
namespace DL
namespace T
open PySem L2 PySem.Spec PyProof.Rows
theorem known_all : (known.all fun p => (1).ble p.1 && p.1.ble most12 && p.2.length.ble 60 && p.2.all (fun l => l.ble 1) && (tab p.2).b == p.1) = true := by decide +kernel
theorem known_len : known.length ≤ 300 := by decide +kernel
theorem known_pos : 1 ≤ known.length := by decide +kernel
theorem known_ok {p : Nat × W} (h : p ∈ known) : 1 ≤ p.1 ∧ p.1 ≤ most12 ∧ WOk p.2 ∧ (tab p.2).b = p.1 := by
  have := known_all
  rw [List.all_eq_true] at this
  have := this p h
  simp only [Bool.and_eq_true, Nat.ble_eq, List.all_eq_true, beq_iff_eq] at this
  obtain ⟨⟨⟨⟨h1, h2⟩, h3⟩, h4⟩, h5⟩ := this
  exact ⟨h1, h2, ⟨h3, h4⟩, h5⟩
theorem isort3 {x y z : Nat} (h1 : x ≤ z) (h2 : y ≤ z) : ∃ a b, isort [x, y, z] = [a, b, z] ∧ ((a = x ∧ b = y) ∨ (a = y ∧ b = x)) := by
  simp only [isort, ins]
  rw [if_pos h2]
  unfold ins
  by_cases e : x ≤ y
  · rw [if_pos e]
    exact ⟨x, y, rfl, .inl ⟨rfl, rfl⟩⟩
  · rw [if_neg e]
    simp only [ins]
    rw [if_pos h1]
    exact ⟨y, x, rfl, .inr ⟨rfl, rfl⟩⟩
theorem go_own_pair {Q : D → Prop} (hq : ∀ p q : Nat, PQ (p, q) → Q (.tuple [nD p, nD q])) : S__law_own_pair [.bg] Q := ⟨(), rfl, trivial, fun x h => hq x.1 x.2 h⟩
theorem go_parts {p q : Nat} {Q : D → Prop} (h : PQ (p, q)) (hq : Q (.tuple [wD (partsOf p q).1, wD (partsOf p q).2])) : S__law_parts [.sh (nD p), .sh (nD q)] Q := ⟨(p, q), rfl, h, hq⟩
theorem go_even {p q : Nat} {Q : D → Prop} (h : PQ (p, q)) (hq : Q (wD (even p q))) : S__law_even_word [.sh (nD p), .sh (nD q)] Q := ⟨(p, q), rfl, h, hq⟩
theorem go_word_triple {w : W} {s : Nat} {Q : D → Prop} (h : Cut (w, s)) (hq : Q (.tuple ((isort [(tab (w.take s)).b, (tab (w.drop s)).b, (tab w).b]).map nD))) : S_word_triple [.sh (wD w)] Q := ⟨(w, s), rfl, h, hq⟩
theorem go_words {n : Nat} {Q : D → Prop} (h1 : 1 ≤ n) (h2 : n ≤ most12) (hq : Q (.tuple ((wordsOf n).map wD))) : S_words_of_number [.sh (nD n)] Q := ⟨n, rfl, ⟨h1, h2⟩, hq⟩
theorem shp_nums (l : List (Nat × W)) : Shp 1 (.list (l.map fun p => nD p.1)) := Shp.list fun d hd => by
  obtain ⟨p, _, rfl⟩ := List.mem_map.mp hd
  exact .int _
theorem any_num {l : List (Nat × W)} {n : Nat} (h : n ∈ l.map (·.1)) : (l.map fun p => nD p.1).any (fun z => PyData.eqv z (nD n)) = true := by
  rw [List.any_eq_true]
  obtain ⟨p, hp, e⟩ := List.mem_map.mp h
  refine ⟨nD p.1, List.mem_map_of_mem hp, ?_⟩
  rw [eqv_int, e, decide_eq_true rfl]
theorem srt_eq (ns : List Nat) {ns' : List Int} (p : ns'.Perm (ns.map fun n => ((n : Nat) : Int))) (s : ns'.Pairwise (· ≤ ·)) : ns'.map PyData.int = (isort ns).map nD := by
  have e : ns' = (isort ns).map fun n => ((n : Nat) : Int) := by
    refine sorted_unique _ _ (p.trans ((isort_perm ns).symm.map _)) s ?_
    exact List.pairwise_map.mpr ((isort_sorted ns).imp fun h => by omega)
  subst e
  rw [← map_int]
/-- places of a row -/
def Ks (ds : List D) : Prop := ∀ d ∈ ds, ∃ i : Int, d = .int i
theorem ks_rng (lo : Int) (n : Nat) : Ks (rng lo n) := fun d hd => by
  unfold rng at hd
  obtain ⟨i, _, rfl⟩ := List.mem_map.mp hd
  exact ⟨_, rfl⟩
theorem gNe_int {i j : Int} {Q : Bool → Prop} (h : i = j) (q : Q false) : gNe (.int i) (.int j) Q := by
  show Q (!decide (i = j))
  rw [decide_eq_true h]; exact q
theorem r__law_are_triples_right : ∀ ss (Q : D → Prop), S__law_are_triples_right ss Q → g__law_are_triples_right (endsOf Q) (initE N__law_are_triples_right ss) := by
  rintro ss Q ⟨_, rfl, _, hq⟩
  have hq : Q (.bool true) := hq
  have kl := known_len
  simp only [N__law_are_triples_right, initE, List.length_cons, List.length_nil, Nat.reduceAdd, Nat.reduceSub, List.replicate, List.cons_append, List.nil_append, List.append_nil]
  unfold g__law_are_triples_right
  refine seq_go ?_
  simp only [fSeqS, fSet, fSetN, fRet, fIfS, fNext, fBreak, fCont, fNever, fBin, fCmp, fV, fN, fC, lk, lk_z, lk_s, gAdd, gSub, gMul, gDiv, gMod, gPow, gShl, gShlW, gShr, gv, gLt, gLe, gGt, gGe, gIx, fNeg, fTV, fNot, fAnd, fOr, fAndV, fOrV, fNotV, fIf, fLN, fLC, fAN, fAC, fAB, fNV, fTup, fCB, bInt, bAbs, bLen, bMax2, bMin2, bTuple, fSeq, seqOf, fCall, fCallK, fAsg, gNm, gsNil, gsCons, gTpl, gSq, fPar, fMV, fMN, setAll, fApp, fExt, fSetIx, fFrz, fForS, fRng1, fRng2, fBits, fON, fOS, fSlT, fSlL, List.set_cons_zero, List.set_cons_succ, List.length_cons, List.length_nil, endsOf, decide_eq_true_eq, true_and, and_true, at0, at1, at2, at3, at4, Bool.not_eq_true', decide_eq_false_iff_not, lg2, Int.reduceLT, ↓reduceIte, fLc, wipeE]
  refine ⟨by rw [List.length_map]; unfold most; omega, ?_⟩
  refine lc_map (f := kD) (F := fun p => nD p.1) known (fun p hp K hK => ?_) _ ?_
  · simp only [fSeqS, fSet, fSetN, fRet, fIfS, fNext, fBreak, fCont, fNever, fBin, fCmp, fV, fN, fC, lk, lk_z, lk_s, gAdd, gSub, gMul, gDiv, gMod, gPow, gShl, gShlW, gShr, gv, gLt, gLe, gGt, gGe, gIx, fNeg, fTV, fNot, fAnd, fOr, fAndV, fOrV, fNotV, fIf, fLN, fLC, fAN, fAC, fAB, fNV, fTup, fCB, bInt, bAbs, bLen, bMax2, bMin2, bTuple, fSeq, seqOf, fCall, fCallK, fAsg, gNm, gsNil, gsCons, gTpl, gSq, fPar, fMV, fMN, setAll, fApp, fExt, fSetIx, fFrz, fForS, fRng1, fRng2, fBits, fON, fOS, fSlT, fSlL, List.set_cons_zero, List.set_cons_succ, List.length_cons, List.length_nil, endsOf, decide_eq_true_eq, true_and, and_true, at0, at1, at2, at3, at4, Bool.not_eq_true', decide_eq_false_iff_not, lg2, Int.reduceLT, ↓reduceIte, kD]
    exact hK
  unfold q__law_are_triples_right_8
  refine seq_go ?_
  simp only [fSeqS, fSet, fSetN, fRet, fIfS, fNext, fBreak, fCont, fNever, fBin, fCmp, fV, fN, fC, lk, lk_z, lk_s, gAdd, gSub, gMul, gDiv, gMod, gPow, gShl, gShlW, gShr, gv, gLt, gLe, gGt, gGe, gIx, fNeg, fTV, fNot, fAnd, fOr, fAndV, fOrV, fNotV, fIf, fLN, fLC, fAN, fAC, fAB, fNV, fTup, fCB, bInt, bAbs, bLen, bMax2, bMin2, bTuple, fSeq, seqOf, fCall, fCallK, fAsg, gNm, gsNil, gsCons, gTpl, gSq, fPar, fMV, fMN, setAll, fApp, fExt, fSetIx, fFrz, fForS, fRng1, fRng2, fBits, fON, fOS, fSlT, fSlL, List.set_cons_zero, List.set_cons_succ, List.length_cons, List.length_nil, endsOf, decide_eq_true_eq, true_and, and_true, at0, at1, at2, at3, at4, Bool.not_eq_true', decide_eq_false_iff_not, lg2, Int.reduceLT, ↓reduceIte]
  refine ⟨by decide, by decide, ?_⟩
  refine for_of (fun ds ρ => ∃ (s3 s4 s5 s6 s7 s8 s9 s10 s11 s12 s13 : Sl), ρ = [.bg, .sh kn, .ow (known.map fun p => nD p.1), s3, s4, s5, s6, s7, s8, s9, s10, s11, s12, s13] ∧ Ks ds) ?_ ?_ _ _ ⟨_, _, _, _, _, _, _, _, _, _, _, rfl, ks_rng _ _⟩
  · rintro d ds ρ ⟨s3, s4, s5, s6, s7, s8, s9, s10, s11, s12, s13, rfl, hd⟩ K hK
    obtain ⟨k, rfl⟩ := hd d List.mem_cons_self
    have hd' : Ks ds := fun e he => hd e (List.mem_cons_of_mem _ he)
    simp only [fSeqS, fSet, fSetN, fRet, fIfS, fNext, fBreak, fCont, fNever, fBin, fCmp, fV, fN, fC, lk, lk_z, lk_s, gAdd, gSub, gMul, gDiv, gMod, gPow, gShl, gShlW, gShr, gv, gLt, gLe, gGt, gGe, gIx, fNeg, fTV, fNot, fAnd, fOr, fAndV, fOrV, fNotV, fIf, fLN, fLC, fAN, fAC, fAB, fNV, fTup, fCB, bInt, bAbs, bLen, bMax2, bMin2, bTuple, fSeq, seqOf, fCall, fCallK, fAsg, gNm, gsNil, gsCons, gTpl, gSq, fPar, fMV, fMN, setAll, fApp, fExt, fSetIx, fFrz, fForS, fRng1, fRng2, fBits, fON, fOS, fSlT, fSlL, List.set_cons_zero, List.set_cons_succ, List.length_cons, List.length_nil, endsOf, decide_eq_true_eq, true_and, and_true, at0, at1, at2, at3, at4, Bool.not_eq_true', decide_eq_false_iff_not, lg2, Int.reduceLT, ↓reduceIte]
    unfold q__law_are_triples_right_7
    refine seq_go ?_
    simp only [fSeqS, fSet, fSetN, fRet, fIfS, fNext, fBreak, fCont, fNever, fBin, fCmp, fV, fN, fC, lk, lk_z, lk_s, gAdd, gSub, gMul, gDiv, gMod, gPow, gShl, gShlW, gShr, gv, gLt, gLe, gGt, gGe, gIx, fNeg, fTV, fNot, fAnd, fOr, fAndV, fOrV, fNotV, fIf, fLN, fLC, fAN, fAC, fAB, fNV, fTup, fCB, bInt, bAbs, bLen, bMax2, bMin2, bTuple, fSeq, seqOf, fCall, fCallK, fAsg, gNm, gsNil, gsCons, gTpl, gSq, fPar, fMV, fMN, setAll, fApp, fExt, fSetIx, fFrz, fForS, fRng1, fRng2, fBits, fON, fOS, fSlT, fSlL, List.set_cons_zero, List.set_cons_succ, List.length_cons, List.length_nil, endsOf, decide_eq_true_eq, true_and, and_true, at0, at1, at2, at3, at4, Bool.not_eq_true', decide_eq_false_iff_not, lg2, Int.reduceLT, ↓reduceIte]
    refine go_own_pair fun p q h => ?_
    have F := pq_fin h
    try simp only [fSeqS, fSet, fSetN, fRet, fIfS, fNext, fBreak, fCont, fNever, fBin, fCmp, fV, fN, fC, lk, lk_z, lk_s, gAdd, gSub, gMul, gDiv, gMod, gPow, gShl, gShlW, gShr, gv, gLt, gLe, gGt, gGe, gEq, gNe, gIx, fNeg, fTV, fNot, fAnd, fOr, fAndV, fOrV, fNotV, fIf, fLN, fLC, fAN, fAC, fAB, fNV, fTup, fCB, bInt, bAbs, bLen, bMax2, bMin2, bTuple, fSeq, seqOf, fCall, fCallK, fAsg, gNm, gsNil, gsCons, gTpl, gSq, fPar, fMV, fMN, setAll, fApp, fExt, fSetIx, fFrz, fForS, fRng1, fRng2, fBits, fON, fOS, fSlT, fSlL, List.set_cons_zero, List.set_cons_succ, List.length_cons, List.length_nil, endsOf, decide_eq_true_eq, true_and, and_true, at0, at1, at2, at3, at4, Bool.not_eq_true', decide_eq_false_iff_not, lg2, Int.reduceLT, ↓reduceIte]
    unfold q__law_are_triples_right_6
    refine seq_go ?_
    simp only [fSeqS, fSet, fSetN, fRet, fIfS, fNext, fBreak, fCont, fNever, fBin, fCmp, fV, fN, fC, lk, lk_z, lk_s, gAdd, gSub, gMul, gDiv, gMod, gPow, gShl, gShlW, gShr, gv, gLt, gLe, gGt, gGe, gIx, fNeg, fTV, fNot, fAnd, fOr, fAndV, fOrV, fNotV, fIf, fLN, fLC, fAN, fAC, fAB, fNV, fTup, fCB, bInt, bAbs, bLen, bMax2, bMin2, bTuple, fSeq, seqOf, fCall, fCallK, fAsg, gNm, gsNil, gsCons, gTpl, gSq, fPar, fMV, fMN, setAll, fApp, fExt, fSetIx, fFrz, fForS, fRng1, fRng2, fBits, fON, fOS, fSlT, fSlL, List.set_cons_zero, List.set_cons_succ, List.length_cons, List.length_nil, endsOf, decide_eq_true_eq, true_and, and_true, at0, at1, at2, at3, at4, Bool.not_eq_true', decide_eq_false_iff_not, lg2, Int.reduceLT, ↓reduceIte]
    refine go_parts h ?_
    generalize (partsOf p q).1 = u at F
    generalize (partsOf p q).2 = v at F
    simp only [fSeqS, fSet, fSetN, fRet, fIfS, fNext, fBreak, fCont, fNever, fBin, fCmp, fV, fN, fC, lk, lk_z, lk_s, gAdd, gSub, gMul, gDiv, gMod, gPow, gShl, gShlW, gShr, gv, gLt, gLe, gGt, gGe, gIx, fNeg, fTV, fNot, fAnd, fOr, fAndV, fOrV, fNotV, fIf, fLN, fLC, fAN, fAC, fAB, fNV, fTup, fCB, bInt, bAbs, bLen, bMax2, bMin2, bTuple, fSeq, seqOf, fCall, fCallK, fAsg, gNm, gsNil, gsCons, gTpl, gSq, fPar, fMV, fMN, setAll, fApp, fExt, fSetIx, fFrz, fForS, fRng1, fRng2, fBits, fON, fOS, fSlT, fSlL, List.set_cons_zero, List.set_cons_succ, List.length_cons, List.length_nil, endsOf, decide_eq_true_eq, true_and, and_true, at0, at1, at2, at3, at4, Bool.not_eq_true', decide_eq_false_iff_not, lg2, Int.reduceLT, ↓reduceIte]
    unfold q__law_are_triples_right_5
    refine seq_go ?_
    simp only [fSeqS, fSet, fSetN, fRet, fIfS, fNext, fBreak, fCont, fNever, fBin, fCmp, fV, fN, fC, lk, lk_z, lk_s, gAdd, gSub, gMul, gDiv, gMod, gPow, gShl, gShlW, gShr, gv, gLt, gLe, gGt, gGe, gIx, fNeg, fTV, fNot, fAnd, fOr, fAndV, fOrV, fNotV, fIf, fLN, fLC, fAN, fAC, fAB, fNV, fTup, fCB, bInt, bAbs, bLen, bMax2, bMin2, bTuple, fSeq, seqOf, fCall, fCallK, fAsg, gNm, gsNil, gsCons, gTpl, gSq, fPar, fMV, fMN, setAll, fApp, fExt, fSetIx, fFrz, fForS, fRng1, fRng2, fBits, fON, fOS, fSlT, fSlL, List.set_cons_zero, List.set_cons_succ, List.length_cons, List.length_nil, endsOf, decide_eq_true_eq, true_and, and_true, at0, at1, at2, at3, at4, Bool.not_eq_true', decide_eq_false_iff_not, lg2, Int.reduceLT, ↓reduceIte]
    refine go_even h ?_
    obtain ⟨Fw, Fcut, Feq, Fle1, Fle2, Fone⟩ := F
    generalize even p q = w at Fw Fcut Feq Fle1 Fle2 Fone
    have hw : WOk w := Fcut.2.2.2.1
    have hwl := hw.1
    have hul : u.length + v.length = w.length := by rw [← Fw, List.length_append]
    unfold q__law_are_triples_right_4
    refine seq_go ?_
    simp only [fSeqS, fSet, fSetN, fRet, fIfS, fNext, fBreak, fCont, fNever, fBin, fCmp, fV, fN, fC, lk, lk_z, lk_s, gAdd, gSub, gMul, gDiv, gMod, gPow, gShl, gShlW, gShr, gv, gLt, gLe, gGt, gGe, gIx, fNeg, fTV, fNot, fAnd, fOr, fAndV, fOrV, fNotV, fIf, fLN, fLC, fAN, fAC, fAB, fNV, fTup, fCB, bInt, bAbs, bLen, bMax2, bMin2, bTuple, fSeq, seqOf, fCall, fCallK, fAsg, gNm, gsNil, gsCons, gTpl, gSq, fPar, fMV, fMN, setAll, fApp, fExt, fSetIx, fFrz, fForS, fRng1, fRng2, fBits, fON, fOS, fSlT, fSlL, List.set_cons_zero, List.set_cons_succ, List.length_cons, List.length_nil, endsOf, decide_eq_true_eq, true_and, and_true, at0, at1, at2, at3, at4, Bool.not_eq_true', decide_eq_false_iff_not, lg2, Int.reduceLT, ↓reduceIte, fSrt]
    refine go__law_table (w := u) (by omega) ?_
    simp only [fSeqS, fSet, fSetN, fRet, fIfS, fNext, fBreak, fCont, fNever, fBin, fCmp, fV, fN, fC, lk, lk_z, lk_s, gAdd, gSub, gMul, gDiv, gMod, gPow, gShl, gShlW, gShr, gv, gLt, gLe, gGt, gGe, gIx, fNeg, fTV, fNot, fAnd, fOr, fAndV, fOrV, fNotV, fIf, fLN, fLC, fAN, fAC, fAB, fNV, fTup, fCB, bInt, bAbs, bLen, bMax2, bMin2, bTuple, fSeq, seqOf, fCall, fCallK, fAsg, gNm, gsNil, gsCons, gTpl, gSq, fPar, fMV, fMN, setAll, fApp, fExt, fSetIx, fFrz, fForS, fRng1, fRng2, fBits, fON, fOS, fSlT, fSlL, List.set_cons_zero, List.set_cons_succ, List.length_cons, List.length_nil, endsOf, decide_eq_true_eq, true_and, and_true, at0, at1, at2, at3, at4, Bool.not_eq_true', decide_eq_false_iff_not, lg2, Int.reduceLT, ↓reduceIte, M.D_eq]
    refine go__law_table (w := v) (by omega) ?_
    simp only [fSeqS, fSet, fSetN, fRet, fIfS, fNext, fBreak, fCont, fNever, fBin, fCmp, fV, fN, fC, lk, lk_z, lk_s, gAdd, gSub, gMul, gDiv, gMod, gPow, gShl, gShlW, gShr, gv, gLt, gLe, gGt, gGe, gIx, fNeg, fTV, fNot, fAnd, fOr, fAndV, fOrV, fNotV, fIf, fLN, fLC, fAN, fAC, fAB, fNV, fTup, fCB, bInt, bAbs, bLen, bMax2, bMin2, bTuple, fSeq, seqOf, fCall, fCallK, fAsg, gNm, gsNil, gsCons, gTpl, gSq, fPar, fMV, fMN, setAll, fApp, fExt, fSetIx, fFrz, fForS, fRng1, fRng2, fBits, fON, fOS, fSlT, fSlL, List.set_cons_zero, List.set_cons_succ, List.length_cons, List.length_nil, endsOf, decide_eq_true_eq, true_and, and_true, at0, at1, at2, at3, at4, Bool.not_eq_true', decide_eq_false_iff_not, lg2, Int.reduceLT, ↓reduceIte, M.D_eq]
    refine go__law_table (w := w) (by omega) ?_
    simp only [fSeqS, fSet, fSetN, fRet, fIfS, fNext, fBreak, fCont, fNever, fBin, fCmp, fV, fN, fC, lk, lk_z, lk_s, gAdd, gSub, gMul, gDiv, gMod, gPow, gShl, gShlW, gShr, gv, gLt, gLe, gGt, gGe, gIx, fNeg, fTV, fNot, fAnd, fOr, fAndV, fOrV, fNotV, fIf, fLN, fLC, fAN, fAC, fAB, fNV, fTup, fCB, bInt, bAbs, bLen, bMax2, bMin2, bTuple, fSeq, seqOf, fCall, fCallK, fAsg, gNm, gsNil, gsCons, gTpl, gSq, fPar, fMV, fMN, setAll, fApp, fExt, fSetIx, fFrz, fForS, fRng1, fRng2, fBits, fON, fOS, fSlT, fSlL, List.set_cons_zero, List.set_cons_succ, List.length_cons, List.length_nil, endsOf, decide_eq_true_eq, true_and, and_true, at0, at1, at2, at3, at4, Bool.not_eq_true', decide_eq_false_iff_not, lg2, Int.reduceLT, ↓reduceIte, M.D_eq]
    refine .inl ⟨[((tab u).b : Int), ((tab v).b : Int), ((tab w).b : Int)], rfl, fun ns' p1 p2 => ?_⟩
    rw [srt_eq [(tab u).b, (tab v).b, (tab w).b] p1 p2]
    have hcut := go_word_triple (w := w) (s := u.length) (Q := fun d => d = .tuple ((isort [(tab u).b, (tab v).b, (tab w).b]).map nD)) Fcut
    have ht : w.take u.length = u := by rw [← Fw]; simp
    have hd2 : w.drop u.length = v := by rw [← Fw]; simp
    obtain ⟨x, y, ei, hxy⟩ := isort3 Fle1 Fle2
    have hz : (tab w).lt 500 := tab500 (by omega)
    have hu5 : (tab u).lt 500 := tab500 (by omega)
    have hv5 : (tab v).lt 500 := tab500 (by omega)
    have go3 : ∀ {Q : D → Prop}, Q (.tuple [nD x, nD y, nD (tab w).b]) → S_word_triple [.sh (wD w)] Q := fun {Q} hq => go_word_triple (s := u.length) Fcut (by rw [ht, hd2, ei]; exact hq)
    rw [ei]
    have hx5 : x < 2 ^ 500 ∧ y < 2 ^ 500 := by
      rcases hxy with ⟨rfl, rfl⟩ | ⟨rfl, rfl⟩
      · exact ⟨hu5.2.1, hv5.2.1⟩
      · exact ⟨hv5.2.1, hu5.2.1⟩
    have Feq' : x * x + y * y + (tab w).b * (tab w).b = 3 * x * y * (tab w).b := by
      rcases hxy with ⟨rfl, rfl⟩ | ⟨rfl, rfl⟩
      · exact Feq
      · rw [Nat.add_comm ((tab v).b * (tab v).b), Feq, Nat.mul_right_comm 3]
    generalize hzz : (tab w).b = z at Feq' Fone
    have z5 : z < 2 ^ 500 := by rw [← hzz]; exact hz.2.1
    rw [hzz] at go3
    unfold q__law_are_triples_right_3
    refine seq_go ?_
    have ni3 : Ni 2 4000 (.tuple [nD x, nD y, nD z]) := (Ni.tup (NiA.cons (ni_nat hx5.1) (NiA.cons (ni_nat hx5.2) (NiA.cons (ni_nat z5) (NiA.nil (w := 0)))))).le (by decide) (by decide)
    simp only [fSeqS, fSet, fSetN, fRet, fIfS, fNext, fBreak, fCont, fNever, fBin, fCmp, fV, fN, fC, lk, lk_z, lk_s, gAdd, gSub, gMul, gDiv, gMod, gPow, gShl, gShlW, gShr, gv, gLt, gLe, gGt, gGe, gIx, fNeg, fTV, fNot, fAnd, fOr, fAndV, fOrV, fNotV, fIf, fLN, fLC, fAN, fAC, fAB, fNV, fTup, fCB, bInt, bAbs, bLen, bMax2, bMin2, bTuple, fSeq, seqOf, fCall, fCallK, fAsg, gNm, gsNil, gsCons, gTpl, gSq, fPar, fMV, fMN, setAll, fApp, fExt, fSetIx, fFrz, fForS, fRng1, fRng2, fBits, fON, fOS, fSlT, fSlL, List.set_cons_zero, List.set_cons_succ, List.length_cons, List.length_nil, endsOf, decide_eq_true_eq, true_and, and_true, at0, at1, at2, at3, at4, Bool.not_eq_true', decide_eq_false_iff_not, lg2, Int.reduceLT, ↓reduceIte, wD, List.map_cons, List.map_nil]
    refine ⟨by rw [List.length_map, List.length_map, sizeLine_eq]; omega, ?_⟩
    rw [wcat, Fw]
    refine (shp_w w).ne (by decide) ?_
    rw [if_neg (by decide)]
    have br : ∀ {R : Bool → Prop}, R false → bRepr [.tuple [nD x, nD y, nD z]] fun d => bRepr [.tuple [nD x, nD y, nD z]] fun e => gNe d e R := fun h => ni3.repr (by decide) (by decide) (ni3.repr (by decide) (by decide) (str_ne h))
    have fin : ∀ bk : Env → Prop, q__law_are_triples_right_2 ⟨K, Q, bk, K⟩ [.bg, .sh kn, .ow (known.map fun p => nD p.1), s3, .sh (wD w), .sh (.int k), .sh (nD p), .sh (nD q), .sh (wD u), .sh (wD v), .sh (.list [nD x, nD y, nD z]), s11, s12, s13] := by
      intro bk
      unfold q__law_are_triples_right_2
      refine seq_go ?_
      simp only [fSeqS, fSet, fSetN, fRet, fIfS, fNext, fBreak, fCont, fNever, fBin, fCmp, fV, fN, fC, lk, lk_z, lk_s, gAdd, gSub, gMul, gDiv, gMod, gPow, gShl, gShlW, gShr, gv, gLt, gLe, gGt, gGe, gIx, fNeg, fTV, fNot, fAnd, fOr, fAndV, fOrV, fNotV, fIf, fLN, fLC, fAN, fAC, fAB, fNV, fTup, fCB, bInt, bAbs, bLen, bMax2, bMin2, bTuple, fSeq, seqOf, fCall, fCallK, fAsg, gNm, gsNil, gsCons, gTpl, gSq, fPar, fMV, fMN, setAll, fApp, fExt, fSetIx, fFrz, fForS, fRng1, fRng2, fBits, fON, fOS, fSlT, fSlL, List.set_cons_zero, List.set_cons_succ, List.length_cons, List.length_nil, endsOf, decide_eq_true_eq, true_and, and_true, at0, at1, at2, at3, at4, Bool.not_eq_true', decide_eq_false_iff_not, lg2, Int.reduceLT, ↓reduceIte]
      unfold q__law_are_triples_right_1
      refine seq_go ?_
      simp only [fSeqS, fSet, fSetN, fRet, fIfS, fNext, fBreak, fCont, fNever, fBin, fCmp, fV, fN, fC, lk, lk_z, lk_s, gAdd, gSub, gMul, gDiv, gMod, gPow, gShl, gShlW, gShr, gv, gLt, gLe, gGt, gGe, gIx, fNeg, fTV, fNot, fAnd, fOr, fAndV, fOrV, fNotV, fIf, fLN, fLC, fAN, fAC, fAB, fNV, fTup, fCB, bInt, bAbs, bLen, bMax2, bMin2, bTuple, fSeq, seqOf, fCall, fCallK, fAsg, gNm, gsNil, gsCons, gTpl, gSq, fPar, fMV, fMN, setAll, fApp, fExt, fSetIx, fFrz, fForS, fRng1, fRng2, fBits, fON, fOS, fSlT, fSlL, List.set_cons_zero, List.set_cons_succ, List.length_cons, List.length_nil, endsOf, decide_eq_true_eq, true_and, and_true, at0, at1, at2, at3, at4, Bool.not_eq_true', decide_eq_false_iff_not, lg2, Int.reduceLT, ↓reduceIte]
      have sx : Sm 500 (x : Int) := sN hx5.1
      have sy : Sm 500 (y : Int) := sN hx5.2
      have sz : Sm 500 (z : Int) := sN z5
      have s3 : Sm 2 (3 : Int) := (by decide : (3 : Int).natAbs < 2 ^ 2)
      refine ⟨mw sx sx, mw sy sy, mw sz sz, mw s3 sx, mw (s3.mul sx) sy, mw ((s3.mul sx).mul sy) sz, ?_⟩
      refine gNe_int (by exact_mod_cast Feq') ?_
      rw [if_neg (by decide)]
      show S__law_is_word_right [.sh (wD w), .sh (.bool (decide (k = 2)))] _
      refine go__law_is_word_right hw ?_
      show (if true = false then _ else _)
      rw [if_neg (by decide)]
      unfold q__law_are_triples_right_0
      simp only [fSeqS, fSet, fSetN, fRet, fIfS, fNext, fBreak, fCont, fNever, fBin, fCmp, fV, fN, fC, lk, lk_z, lk_s, gAdd, gSub, gMul, gDiv, gMod, gPow, gShl, gShlW, gShr, gv, gLt, gLe, gGt, gGe, gIx, fNeg, fTV, fNot, fAnd, fOr, fAndV, fOrV, fNotV, fIf, fLN, fLC, fAN, fAC, fAB, fNV, fTup, fCB, bInt, bAbs, bLen, bMax2, bMin2, bTuple, fSeq, seqOf, fCall, fCallK, fAsg, gNm, gsNil, gsCons, gTpl, gSq, fPar, fMV, fMN, setAll, fApp, fExt, fSetIx, fFrz, fForS, fRng1, fRng2, fBits, fON, fOS, fSlT, fSlL, List.set_cons_zero, List.set_cons_succ, List.length_cons, List.length_nil, endsOf, decide_eq_true_eq, true_and, and_true, at0, at1, at2, at3, at4, Bool.not_eq_true', decide_eq_false_iff_not, lg2, Int.reduceLT, ↓reduceIte, pw12, tp12]
      by_cases hb : z ≤ most12
      · obtain ⟨f1, f2⟩ := Fone hb
        unfold most12 at hb
        have z1 : 1 ≤ z := by
          obtain ⟨p, hp, e⟩ := List.mem_map.mp f2
          have := (known_ok hp).1
          omega
        rw [if_pos (by omega)]
        show SeqAt.shaped (nD z) = true ∧ SeqAt.shaped (.list (known.map fun p => nD p.1)) = true ∧ (if (!((known.map fun p => nD p.1).any fun d => PyData.eqv d (nD z))) = true then _ else _)
        refine ⟨shaped_int _, (shp_nums _).sh (by decide), ?_⟩
        rw [any_num f2, if_neg (by decide)]
        have niw : Ni 2 90000 (.tuple [wD w]) := (Ni.tup (NiA.cons (wok_ni hw) (NiA.nil (w := 0)))).le (by decide) (by decide)
        refine go_words z1 hb ?_
        rw [f1]
        refine niw.repr (by decide) (by decide) (niw.repr (by decide) (by decide) (str_ne ?_))
        rw [if_neg (by decide)]
        exact hK _ ⟨_, _, _, _, _, _, _, _, _, _, _, rfl, hd'⟩
      · unfold most12 at hb
        rw [if_neg (by omega)]
        exact hK _ ⟨_, _, _, _, _, _, _, _, _, _, _, rfl, hd'⟩
    show (if decide (k = 1) = true then _ else _)
    split
    · exact go3 (br (by rw [if_neg (by decide)]; exact fin _))
    · exact go3 (br (by rw [if_neg (by decide)]; exact fin _))
  · rintro ρ ⟨s3, s4, s5, s6, s7, s8, s9, s10, s11, s12, s13, rfl, _⟩
    simp only [fSeqS, fSet, fSetN, fRet, fIfS, fNext, fBreak, fCont, fNever, fBin, fCmp, fV, fN, fC, lk, lk_z, lk_s, gAdd, gSub, gMul, gDiv, gMod, gPow, gShl, gShlW, gShr, gv, gLt, gLe, gGt, gGe, gIx, fNeg, fTV, fNot, fAnd, fOr, fAndV, fOrV, fNotV, fIf, fLN, fLC, fAN, fAC, fAB, fNV, fTup, fCB, bInt, bAbs, bLen, bMax2, bMin2, bTuple, fSeq, seqOf, fCall, fCallK, fAsg, gNm, gsNil, gsCons, gTpl, gSq, fPar, fMV, fMN, setAll, fApp, fExt, fSetIx, fFrz, fForS, fRng1, fRng2, fBits, fON, fOS, fSlT, fSlL, List.set_cons_zero, List.set_cons_succ, List.length_cons, List.length_nil, endsOf, decide_eq_true_eq, true_and, and_true, at0, at1, at2, at3, at4, Bool.not_eq_true', decide_eq_false_iff_not, lg2, Int.reduceLT, ↓reduceIte]
    exact hq
end T
end DL
namespace DL
namespace T
open PySem L2 PySem.Spec PyProof.Rows
theorem str_eqB {x : Str} {Q : Bool → Prop} (q : Q true) : gEq (.str x) (.str x) Q := by
  show Q (decide (x = x))
  rw [decide_eq_true rfl]; exact q
theorem min12 {n : Nat} : ∃ m : Nat, (if (1000000000000 : Int) < (n : Int) then (1000000000000 : Int) else (n : Int)) = (m : Int) ∧ (1 ≤ n → 1 ≤ m) ∧ m ≤ 1000000000000 := by
  by_cases h : (1000000000000 : Int) < (n : Int)
  · exact ⟨1000000000000, by rw [if_pos h]; rfl, fun _ => by omega, by omega⟩
  · exact ⟨n, by rw [if_neg h], fun h => h, by omega⟩
/-- pairs of a place and a number from 1 on -/
def Es (ds : List D) : Prop := ∀ d ∈ ds, ∃ (i : Int) (n : Nat), d = .tuple [.int i, nD n] ∧ 1 ≤ n
def Ns (ds : List D) : Prop := ∀ d ∈ ds, ∃ n : Nat, d = nD n ∧ 1 ≤ n
theorem es_enum : ∀ (ds : List D) (i : Nat), Ns ds → Es (enumD i ds)
  | [], _, _, d, h => by cases h
  | e :: ds, i, hn, d, h => by
    unfold enumD at h
    rcases List.mem_cons.mp h with rfl | h
    · obtain ⟨n, rfl, h1⟩ := hn e List.mem_cons_self
      exact ⟨_, n, rfl, h1⟩
    · exact es_enum ds (i + 1) (fun x hx => hn x (List.mem_cons_of_mem _ hx)) d h
theorem ni_words {ws : List W} (h : ∀ w ∈ ws, WOk w) (hl : ws.length ≤ 100) : NiA 1 9000000 (ws.map wD) := by
  refine (NiA.all (n := 1) (w := 80000) fun d hd => ?_).le (Nat.le_refl _) ?_
  · obtain ⟨w, hw, rfl⟩ := List.mem_map.mp hd
    exact wok_ni (h w hw)
  · rw [List.length_map]; omega
theorem words_ok {n : Nat} : ∀ w ∈ wordsOf n, WOk w := fun w hw => by
  unfold wordsOf at hw
  obtain ⟨p, hp, rfl⟩ := List.mem_map.mp hw
  exact (known_ok (List.mem_filter.mp hp).1).2.2.1
theorem r__law_are_numbers_right : ∀ ss (Q : D → Prop), S__law_are_numbers_right ss Q → g__law_are_numbers_right (endsOf Q) (initE N__law_are_numbers_right ss) := by
  rintro ss Q ⟨_, rfl, _, hq⟩
  have hq : Q (.bool true) := hq
  have kl := known_len
  have kp := known_pos
  have kne : known.map kD ≠ [] := fun z => by
    have := congrArg List.length z
    rw [List.length_map] at this
    simp only [List.length_nil] at this
    omega
  simp only [N__law_are_numbers_right, initE, List.length_cons, List.length_nil, Nat.reduceAdd, Nat.reduceSub, List.replicate, List.cons_append, List.nil_append, List.append_nil]
  unfold g__law_are_numbers_right
  refine seq_go ?_
  simp only [fSeqS, fSet, fSetN, fRet, fIfS, fNext, fBreak, fCont, fNever, fBin, fCmp, fV, fN, fC, lk, lk_z, lk_s, gAdd, gSub, gMul, gDiv, gMod, gPow, gShl, gShlW, gShr, gv, gLt, gLe, gGt, gGe, gIx, fNeg, fTV, fNot, fAnd, fOr, fAndV, fOrV, fNotV, fIf, fLN, fLC, fAN, fAC, fAB, fNV, fTup, fCB, bInt, bAbs, bLen, bMax2, bMin2, bTuple, fSeq, seqOf, fCall, fCallK, fAsg, gNm, gsNil, gsCons, gTpl, gSq, fPar, fMV, fMN, setAll, fApp, fExt, fSetIx, fFrz, fForS, fRng1, fRng2, fBits, fON, fOS, fSlT, fSlL, List.set_cons_zero, List.set_cons_succ, List.length_cons, List.length_nil, endsOf, decide_eq_true_eq, true_and, and_true, at0, at1, at2, at3, at4, Bool.not_eq_true', decide_eq_false_iff_not, lg2, Int.reduceLT, ↓reduceIte]
  refine go_pick kne (by rw [List.length_map]; omega) fun d hd => ?_
  obtain ⟨⟨num, w⟩, hp, rfl⟩ := List.mem_map.mp hd
  obtain ⟨n1, n2, hw, ht⟩ := known_ok hp
  simp only at n1 n2 hw ht
  simp only [fSeqS, fSet, fSetN, fRet, fIfS, fNext, fBreak, fCont, fNever, fBin, fCmp, fV, fN, fC, lk, lk_z, lk_s, gAdd, gSub, gMul, gDiv, gMod, gPow, gShl, gShlW, gShr, gv, gLt, gLe, gGt, gGe, gIx, fNeg, fTV, fNot, fAnd, fOr, fAndV, fOrV, fNotV, fIf, fLN, fLC, fAN, fAC, fAB, fNV, fTup, fCB, bInt, bAbs, bLen, bMax2, bMin2, bTuple, fSeq, seqOf, fCall, fCallK, fAsg, gNm, gsNil, gsCons, gTpl, gSq, fPar, fMV, fMN, setAll, fApp, fExt, fSetIx, fFrz, fForS, fRng1, fRng2, fBits, fON, fOS, fSlT, fSlL, List.set_cons_zero, List.set_cons_succ, List.length_cons, List.length_nil, endsOf, decide_eq_true_eq, true_and, and_true, at0, at1, at2, at3, at4, Bool.not_eq_true', decide_eq_false_iff_not, lg2, Int.reduceLT, ↓reduceIte, kD]
  unfold q__law_are_numbers_right_8
  refine seq_go ?_
  simp only [fSeqS, fSet, fSetN, fRet, fIfS, fNext, fBreak, fCont, fNever, fBin, fCmp, fV, fN, fC, lk, lk_z, lk_s, gAdd, gSub, gMul, gDiv, gMod, gPow, gShl, gShlW, gShr, gv, gLt, gLe, gGt, gGe, gIx, fNeg, fTV, fNot, fAnd, fOr, fAndV, fOrV, fNotV, fIf, fLN, fLC, fAN, fAC, fAB, fNV, fTup, fCB, bInt, bAbs, bLen, bMax2, bMin2, bTuple, fSeq, seqOf, fCall, fCallK, fAsg, gNm, gsNil, gsCons, gTpl, gSq, fPar, fMV, fMN, setAll, fApp, fExt, fSetIx, fFrz, fForS, fRng1, fRng2, fBits, fON, fOS, fSlT, fSlL, List.set_cons_zero, List.set_cons_succ, List.length_cons, List.length_nil, endsOf, decide_eq_true_eq, true_and, and_true, at0, at1, at2, at3, at4, Bool.not_eq_true', decide_eq_false_iff_not, lg2, Int.reduceLT, ↓reduceIte]
  refine go_pick kne (by rw [List.length_map]; omega) fun d hd => ?_
  obtain ⟨⟨oth, w2⟩, hp2, rfl⟩ := List.mem_map.mp hd
  obtain ⟨o1, o2, _, _⟩ := known_ok hp2
  simp only at o1 o2
  simp only [fSeqS, fSet, fSetN, fRet, fIfS, fNext, fBreak, fCont, fNever, fBin, fCmp, fV, fN, fC, lk, lk_z, lk_s, gAdd, gSub, gMul, gDiv, gMod, gPow, gShl, gShlW, gShr, gv, gLt, gLe, gGt, gGe, gIx, fNeg, fTV, fNot, fAnd, fOr, fAndV, fOrV, fNotV, fIf, fLN, fLC, fAN, fAC, fAB, fNV, fTup, fCB, bInt, bAbs, bLen, bMax2, bMin2, bTuple, fSeq, seqOf, fCall, fCallK, fAsg, gNm, gsNil, gsCons, gTpl, gSq, fPar, fMV, fMN, setAll, fApp, fExt, fSetIx, fFrz, fForS, fRng1, fRng2, fBits, fON, fOS, fSlT, fSlL, List.set_cons_zero, List.set_cons_succ, List.length_cons, List.length_nil, endsOf, decide_eq_true_eq, true_and, and_true, at0, at1, at2, at3, at4, Bool.not_eq_true', decide_eq_false_iff_not, lg2, Int.reduceLT, ↓reduceIte, kD]
  unfold q__law_are_numbers_right_7
  refine seq_go ?_
  simp only [fSeqS, fSet, fSetN, fRet, fIfS, fNext, fBreak, fCont, fNever, fBin, fCmp, fV, fN, fC, lk, lk_z, lk_s, gAdd, gSub, gMul, gDiv, gMod, gPow, gShl, gShlW, gShr, gv, gLt, gLe, gGt, gGe, gIx, fNeg, fTV, fNot, fAnd, fOr, fAndV, fOrV, fNotV, fIf, fLN, fLC, fAN, fAC, fAB, fNV, fTup, fCB, bInt, bAbs, bLen, bMax2, bMin2, bTuple, fSeq, seqOf, fCall, fCallK, fAsg, gNm, gsNil, gsCons, gTpl, gSq, fPar, fMV, fMN, setAll, fApp, fExt, fSetIx, fFrz, fForS, fRng1, fRng2, fBits, fON, fOS, fSlT, fSlL, List.set_cons_zero, List.set_cons_succ, List.length_cons, List.length_nil, endsOf, decide_eq_true_eq, true_and, and_true, at0, at1, at2, at3, at4, Bool.not_eq_true', decide_eq_false_iff_not, lg2, Int.reduceLT, ↓reduceIte, pw12, tp12]
  refine go_draw (by decide) (by decide) fun a a0 a1 => ?_
  try simp only [fSeqS, fSet, fSetN, fRet, fIfS, fNext, fBreak, fCont, fNever, fBin, fCmp, fV, fN, fC, lk, lk_z, lk_s, gAdd, gSub, gMul, gDiv, gMod, gPow, gShl, gShlW, gShr, gv, gLt, gLe, gGt, gGe, gEq, gNe, gIx, fNeg, fTV, fNot, fAnd, fOr, fAndV, fOrV, fNotV, fIf, fLN, fLC, fAN, fAC, fAB, fNV, fTup, fCB, bInt, bAbs, bLen, bMax2, bMin2, bTuple, fSeq, seqOf, fCall, fCallK, fAsg, gNm, gsNil, gsCons, gTpl, gSq, fPar, fMV, fMN, setAll, fApp, fExt, fSetIx, fFrz, fForS, fRng1, fRng2, fBits, fON, fOS, fSlT, fSlL, List.set_cons_zero, List.set_cons_succ, List.length_cons, List.length_nil, endsOf, decide_eq_true_eq, true_and, and_true, at0, at1, at2, at3, at4, Bool.not_eq_true', decide_eq_false_iff_not, lg2, Int.reduceLT, ↓reduceIte]
  refine go_draw (by decide) (lg_small (by decide) (by decide)) fun b b0 b1 => ?_
  try simp only [fSeqS, fSet, fSetN, fRet, fIfS, fNext, fBreak, fCont, fNever, fBin, fCmp, fV, fN, fC, lk, lk_z, lk_s, gAdd, gSub, gMul, gDiv, gMod, gPow, gShl, gShlW, gShr, gv, gLt, gLe, gGt, gGe, gEq, gNe, gIx, fNeg, fTV, fNot, fAnd, fOr, fAndV, fOrV, fNotV, fIf, fLN, fLC, fAN, fAC, fAB, fNV, fTup, fCB, bInt, bAbs, bLen, bMax2, bMin2, bTuple, fSeq, seqOf, fCall, fCallK, fAsg, gNm, gsNil, gsCons, gTpl, gSq, fPar, fMV, fMN, setAll, fApp, fExt, fSetIx, fFrz, fForS, fRng1, fRng2, fBits, fON, fOS, fSlT, fSlL, List.set_cons_zero, List.set_cons_succ, List.length_cons, List.length_nil, endsOf, decide_eq_true_eq, true_and, and_true, at0, at1, at2, at3, at4, Bool.not_eq_true', decide_eq_false_iff_not, lg2, Int.reduceLT, ↓reduceIte]
  unfold q__law_are_numbers_right_6
  refine seq_go ?_
  simp only [fSeqS, fSet, fSetN, fRet, fIfS, fNext, fBreak, fCont, fNever, fBin, fCmp, fV, fN, fC, lk, lk_z, lk_s, gAdd, gSub, gMul, gDiv, gMod, gPow, gShl, gShlW, gShr, gv, gLt, gLe, gGt, gGe, gIx, fNeg, fTV, fNot, fAnd, fOr, fAndV, fOrV, fNotV, fIf, fLN, fLC, fAN, fAC, fAB, fNV, fTup, fCB, bInt, bAbs, bLen, bMax2, bMin2, bTuple, fSeq, seqOf, fCall, fCallK, fAsg, gNm, gsNil, gsCons, gTpl, gSq, fPar, fMV, fMN, setAll, fApp, fExt, fSetIx, fFrz, fForS, fRng1, fRng2, fBits, fON, fOS, fSlT, fSlL, List.set_cons_zero, List.set_cons_succ, List.length_cons, List.length_nil, endsOf, decide_eq_true_eq, true_and, and_true, at0, at1, at2, at3, at4, Bool.not_eq_true', decide_eq_false_iff_not, lg2, Int.reduceLT, ↓reduceIte, pw12, tp12]
  refine go_pick (by simp) (by simp) fun d hd => ?_
  obtain ⟨f, rfl, f1⟩ : ∃ f : Nat, d = nD f ∧ 1 ≤ f := by
    simp only [List.mem_cons, List.not_mem_nil, or_false] at hd
    rcases hd with rfl | rfl | rfl | rfl | rfl
    · exact ⟨1, rfl, by decide⟩
    · exact ⟨2, rfl, by decide⟩
    · exact ⟨5, rfl, by decide⟩
    · exact ⟨1000000000000, rfl, by decide⟩
    · exact ⟨999999999999, rfl, by decide⟩
  refine ⟨by rw [sizeLine_eq]; decide, ?_⟩
  have hns : Ns ([nD num, PyData.int ((num : Int) + 1), PyData.int (if (oth : Int) - 1 > 1 then (oth : Int) - 1 else 1), PyData.int (1 + a), PyData.int (1 + b), nD oth] ++ [nD f, nD num]) := by
    intro d hd
    simp only [List.mem_append, List.mem_cons, List.not_mem_nil, or_false] at hd
    rcases hd with (rfl | rfl | rfl | rfl | rfl | rfl) | rfl | rfl
    · exact ⟨_, rfl, n1⟩
    · exact ⟨num + 1, rfl, by omega⟩
    · refine ⟨(if (oth : Int) - 1 > 1 then (oth : Int) - 1 else 1).toNat, ?_, ?_⟩
      · simp only [nD]; congr 1; split <;> omega
      · split <;> omega
    · exact ⟨(1 + a).toNat, by simp only [nD]; congr 1; omega, by omega⟩
    · exact ⟨(1 + b).toNat, by simp only [nD]; congr 1; omega, by omega⟩
    · exact ⟨_, rfl, o1⟩
    · exact ⟨_, rfl, f1⟩
    · exact ⟨_, rfl, n1⟩
  generalize ([nD num, PyData.int ((num : Int) + 1), PyData.int (if (oth : Int) - 1 > 1 then (oth : Int) - 1 else 1), PyData.int (1 + a), PyData.int (1 + b), nD oth] ++ [nD f, nD num]) = L at hns
  unfold q__law_are_numbers_right_5
  refine seq_go ?_
  simp only [fSeqS, fSet, fSetN, fRet, fIfS, fNext, fBreak, fCont, fNever, fBin, fCmp, fV, fN, fC, lk, lk_z, lk_s, gAdd, gSub, gMul, gDiv, gMod, gPow, gShl, gShlW, gShr, gv, gLt, gLe, gGt, gGe, gIx, fNeg, fTV, fNot, fAnd, fOr, fAndV, fOrV, fNotV, fIf, fLN, fLC, fAN, fAC, fAB, fNV, fTup, fCB, bInt, bAbs, bLen, bMax2, bMin2, bTuple, fSeq, seqOf, fCall, fCallK, fAsg, gNm, gsNil, gsCons, gTpl, gSq, fPar, fMV, fMN, setAll, fApp, fExt, fSetIx, fFrz, fForS, fRng1, fRng2, fBits, fON, fOS, fSlT, fSlL, List.set_cons_zero, List.set_cons_succ, List.length_cons, List.length_nil, endsOf, decide_eq_true_eq, true_and, and_true, at0, at1, at2, at3, at4, Bool.not_eq_true', decide_eq_false_iff_not, lg2, Int.reduceLT, ↓reduceIte, fEnum]
  refine for_of (fun ds ρ => ∃ (s6 s7 s8 s9 s10 s11 : Sl), ρ = [.bg, .sh kn, .sh (nD num), .sh (wD w), .sh (nD oth), .sh (.list L), s6, s7, s8, s9, s10, s11] ∧ Es ds) ?_ ?_ _ _ ⟨_, _, _, _, _, _, rfl, es_enum L 0 hns⟩
  · rintro d ds ρ ⟨s6, s7, s8, s9, s10, s11, rfl, he⟩ K hK
    obtain ⟨i, n, rfl, hn⟩ := he d List.mem_cons_self
    have he' : Es ds := fun e h => he e (List.mem_cons_of_mem _ h)
    simp only [fSeqS, fSet, fSetN, fRet, fIfS, fNext, fBreak, fCont, fNever, fBin, fCmp, fV, fN, fC, lk, lk_z, lk_s, gAdd, gSub, gMul, gDiv, gMod, gPow, gShl, gShlW, gShr, gv, gLt, gLe, gGt, gGe, gIx, fNeg, fTV, fNot, fAnd, fOr, fAndV, fOrV, fNotV, fIf, fLN, fLC, fAN, fAC, fAB, fNV, fTup, fCB, bInt, bAbs, bLen, bMax2, bMin2, bTuple, fSeq, seqOf, fCall, fCallK, fAsg, gNm, gsNil, gsCons, gTpl, gSq, fPar, fMV, fMN, setAll, fApp, fExt, fSetIx, fFrz, fForS, fRng1, fRng2, fBits, fON, fOS, fSlT, fSlL, List.set_cons_zero, List.set_cons_succ, List.length_cons, List.length_nil, endsOf, decide_eq_true_eq, true_and, and_true, at0, at1, at2, at3, at4, Bool.not_eq_true', decide_eq_false_iff_not, lg2, Int.reduceLT, ↓reduceIte]
    unfold q__law_are_numbers_right_3
    refine seq_go ?_
    simp only [fSeqS, fSet, fSetN, fRet, fIfS, fNext, fBreak, fCont, fNever, fBin, fCmp, fV, fN, fC, lk, lk_z, lk_s, gAdd, gSub, gMul, gDiv, gMod, gPow, gShl, gShlW, gShr, gv, gLt, gLe, gGt, gGe, gIx, fNeg, fTV, fNot, fAnd, fOr, fAndV, fOrV, fNotV, fIf, fLN, fLC, fAN, fAC, fAB, fNV, fTup, fCB, bInt, bAbs, bLen, bMax2, bMin2, bTuple, fSeq, seqOf, fCall, fCallK, fAsg, gNm, gsNil, gsCons, gTpl, gSq, fPar, fMV, fMN, setAll, fApp, fExt, fSetIx, fFrz, fForS, fRng1, fRng2, fBits, fON, fOS, fSlT, fSlL, List.set_cons_zero, List.set_cons_succ, List.length_cons, List.length_nil, endsOf, decide_eq_true_eq, true_and, and_true, at0, at1, at2, at3, at4, Bool.not_eq_true', decide_eq_false_iff_not, lg2, Int.reduceLT, ↓reduceIte, pw12, tp12]
    obtain ⟨m, em, m1, m2⟩ := min12 (n := n)
    rw [em]
    have m1 := m1 hn
    unfold q__law_are_numbers_right_2
    refine seq_go ?_
    simp only [fSeqS, fSet, fSetN, fRet, fIfS, fNext, fBreak, fCont, fNever, fBin, fCmp, fV, fN, fC, lk, lk_z, lk_s, gAdd, gSub, gMul, gDiv, gMod, gPow, gShl, gShlW, gShr, gv, gLt, gLe, gGt, gGe, gEq, gNe, gIx, fNeg, fTV, fNot, fAnd, fOr, fAndV, fOrV, fNotV, fIf, fLN, fLC, fAN, fAC, fAB, fNV, fTup, fCB, bInt, bAbs, bLen, bMax2, bMin2, bTuple, fSeq, seqOf, fCall, fCallK, fAsg, gNm, gsNil, gsCons, gTpl, gSq, fPar, fMV, fMN, setAll, fApp, fExt, fSetIx, fFrz, fForS, fRng1, fRng2, fBits, fON, fOS, fSlT, fSlL, List.set_cons_zero, List.set_cons_succ, List.length_cons, List.length_nil, endsOf, decide_eq_true_eq, true_and, and_true, at0, at1, at2, at3, at4, Bool.not_eq_true', decide_eq_false_iff_not, lg2, Int.reduceLT, ↓reduceIte, fSrt, fLc, wipeE]
    refine ⟨by rw [List.length_map]; unfold most; omega, ?_⟩
    refine lc_filter (f := kD) (F := fun p => wD p.2) (c := fun p => p.1 == m) known (fun p hp K J h1 h2 => ?_) _ ?_
    · simp only [fSeqS, fSet, fSetN, fRet, fIfS, fNext, fBreak, fCont, fNever, fBin, fCmp, fV, fN, fC, lk, lk_z, lk_s, gAdd, gSub, gMul, gDiv, gMod, gPow, gShl, gShlW, gShr, gv, gLt, gLe, gGt, gGe, gEq, gNe, gIx, fNeg, fTV, fNot, fAnd, fOr, fAndV, fOrV, fNotV, fIf, fLN, fLC, fAN, fAC, fAB, fNV, fTup, fCB, bInt, bAbs, bLen, bMax2, bMin2, bTuple, fSeq, seqOf, fCall, fCallK, fAsg, gNm, gsNil, gsCons, gTpl, gSq, fPar, fMV, fMN, setAll, fApp, fExt, fSetIx, fFrz, fForS, fRng1, fRng2, fBits, fON, fOS, fSlT, fSlL, List.set_cons_zero, List.set_cons_succ, List.length_cons, List.length_nil, endsOf, decide_eq_true_eq, true_and, and_true, at0, at1, at2, at3, at4, Bool.not_eq_true', decide_eq_false_iff_not, lg2, Int.reduceLT, ↓reduceIte, kD]
      by_cases e : p.1 = m
      · rw [if_pos (by omega)]
        exact h1 (by simpa using e)
      · rw [if_neg (by omega)]
        exact h2 (by simpa using e)
    · have ew : (known.filter fun p => p.1 == m).map (fun p => wD p.2) = (wordsOf m).map wD := by
        unfold wordsOf
        rw [List.map_map]
        rfl
      rw [ew]
      refine .inr ⟨by rw [List.length_map]; exact wordsOf_len m, ?_⟩
      have niw : Ni 2 9000003 (.tuple ((wordsOf m).map wD)) := Ni.tup (ni_words words_ok (by have := wordsOf_len m; omega))
      have fin : ∀ (bk : Env → Prop) (s9 s10 : Sl), q__law_are_numbers_right_0 ⟨K, Q, bk, K⟩ [.bg, .sh kn, .sh (nD num), .sh (wD w), .sh (nD oth), .sh (.list L), .sh (.int i), .sh (nD m), .sh (.tuple ((wordsOf m).map wD)), s9, s10, .sh (.tuple ((wordsOf m).map wD))] := by
        intro bk s9 s10
        unfold q__law_are_numbers_right_0
        simp only [fSeqS, fSet, fSetN, fRet, fIfS, fNext, fBreak, fCont, fNever, fBin, fCmp, fV, fN, fC, lk, lk_z, lk_s, gAdd, gSub, gMul, gDiv, gMod, gPow, gShl, gShlW, gShr, gv, gLt, gLe, gGt, gGe, gIx, fNeg, fTV, fNot, fAnd, fOr, fAndV, fOrV, fNotV, fIf, fLN, fLC, fAN, fAC, fAB, fNV, fTup, fCB, bInt, bAbs, bLen, bMax2, bMin2, bTuple, fSeq, seqOf, fCall, fCallK, fAsg, gNm, gsNil, gsCons, gTpl, gSq, fPar, fMV, fMN, setAll, fApp, fExt, fSetIx, fFrz, fForS, fRng1, fRng2, fBits, fON, fOS, fSlT, fSlL, List.set_cons_zero, List.set_cons_succ, List.length_cons, List.length_nil, endsOf, decide_eq_true_eq, true_and, and_true, at0, at1, at2, at3, at4, Bool.not_eq_true', decide_eq_false_iff_not, lg2, Int.reduceLT, ↓reduceIte]
        refine niw.repr (by decide) (by decide) (niw.repr (by decide) (by decide) (str_ne ?_))
        rw [if_neg (by decide)]
        exact hK _ ⟨_, _, _, _, _, _, rfl, he'⟩
      unfold q__law_are_numbers_right_1
      refine seq_go ?_
      simp only [fSeqS, fSet, fSetN, fRet, fIfS, fNext, fBreak, fCont, fNever, fBin, fCmp, fV, fN, fC, lk, lk_z, lk_s, gAdd, gSub, gMul, gDiv, gMod, gPow, gShl, gShlW, gShr, gv, gLt, gLe, gGt, gGe, gEq, gNe, gIx, fNeg, fTV, fNot, fAnd, fOr, fAndV, fOrV, fNotV, fIf, fLN, fLC, fAN, fAC, fAB, fNV, fTup, fCB, bInt, bAbs, bLen, bMax2, bMin2, bTuple, fSeq, seqOf, fCall, fCallK, fAsg, gNm, gsNil, gsCons, gTpl, gSq, fPar, fMV, fMN, setAll, fApp, fExt, fSetIx, fFrz, fForS, fRng1, fRng2, fBits, fON, fOS, fSlT, fSlL, List.set_cons_zero, List.set_cons_succ, List.length_cons, List.length_nil, endsOf, decide_eq_true_eq, true_and, and_true, at0, at1, at2, at3, at4, Bool.not_eq_true', decide_eq_false_iff_not, lg2, Int.reduceLT, ↓reduceIte]
      split
      · exact go_words m1 m2 (fin _ _ _)
      · exact go_words m1 m2 (fin _ _ _)
  · rintro ρ ⟨s6, s7, s8, s9, s10, s11, rfl, _⟩
    unfold q__law_are_numbers_right_4
    have hl := hw.1
    simp only [fSeqS, fSet, fSetN, fRet, fIfS, fNext, fBreak, fCont, fNever, fBin, fCmp, fV, fN, fC, lk, lk_z, lk_s, gAdd, gSub, gMul, gDiv, gMod, gPow, gShl, gShlW, gShr, gv, gLt, gLe, gGt, gGe, gIx, fNeg, fTV, fNot, fAnd, fOr, fAndV, fOrV, fNotV, fIf, fLN, fLC, fAN, fAC, fAB, fNV, fTup, fCB, bInt, bAbs, bLen, bMax2, bMin2, bTuple, fSeq, seqOf, fCall, fCallK, fAsg, gNm, gsNil, gsCons, gTpl, gSq, fPar, fMV, fMN, setAll, fApp, fExt, fSetIx, fFrz, fForS, fRng1, fRng2, fBits, fON, fOS, fSlT, fSlL, List.set_cons_zero, List.set_cons_succ, List.length_cons, List.length_nil, endsOf, decide_eq_true_eq, true_and, and_true, at0, at1, at2, at3, at4, Bool.not_eq_true', decide_eq_false_iff_not, lg2, Int.reduceLT, ↓reduceIte]
    have t5 := tab500 (w := w) (by omega)
    have ni := ni_M t5
    have n5 : num < 2 ^ 500 := by rw [← ht]; exact t5.2.1
    have last : bRepr [nD num] fun d => bRepr [nD num] fun e => gEq d e fun b => Q (.bool b) := (ni_nat n5).repr (by decide) (by decide) ((ni_nat n5).repr (by decide) (by decide) (str_eqB hq))
    rw [← ht] at last
    have l2 : S_markoff_number [.sh (wD w)] fun d => bRepr [d] fun d => bRepr [nD num] fun e => gEq d e fun b => Q (.bool b) := go_markoff_number (by omega) (by rw [← ht]; exact last)
    generalize hM : (tab w).D = m at ni
    have l3 : ∀ x : Str, S__law_table [.sh (wD w)] fun d_1 => bRepr [d_1] fun e => gEq (.str m.shown) e fun b => if b = true then S_markoff_number [.sh (wD w)] fun d => bRepr [d] fun d => bRepr [nD num] fun e => gEq d e fun b => Q (.bool b) else Q (.bool false) := fun _ => go__law_table (by omega) (by
      rw [hM]
      exact ni.repr (by decide) (by decide) (str_eqB (by rw [if_pos rfl]; exact l2)))
    refine go_word_table (by omega) ?_
    rw [hM]
    exact ni.repr (by decide) (by decide) (l3 default)
end T
end DL
namespace DL
namespace T
open PySem L2 PySem.Spec PyProof.Rows
def Ws (ds : List D) : Prop := ∀ d ∈ ds, ∃ w : W, d = wD w ∧ WOk w
def Ew (ds : List D) : Prop := ∀ d ∈ ds, ∃ (i : Int) (w : W), d = .tuple [.int i, wD w] ∧ WOk w
theorem ew_enum : ∀ (ds : List D) (i : Nat), Ws ds → Ew (enumD i ds)
  | [], _, _, d, h => by cases h
  | e :: ds, i, hn, d, h => by
    unfold enumD at h
    rcases List.mem_cons.mp h with rfl | h
    · obtain ⟨n, rfl, h1⟩ := hn e List.mem_cons_self
      exact ⟨_, n, rfl, h1⟩
    · exact ew_enum ds (i + 1) (fun x hx => hn x (List.mem_cons_of_mem _ hx)) d h
theorem ws_ni {ds : List D} (h : Ws ds) (hl : ds.length ≤ 100) : Ni 2 9000003 (.list ds) := by
  refine Ni.list ((NiA.all (n := 1) (w := 80000) fun d hd => ?_).le (Nat.le_refl _) ?_)
  · obtain ⟨w, rfl, hw⟩ := h d hd
    exact wok_ni hw
  · omega
theorem go_own_word {Q : D → Prop} (hq : ∀ w : W, WOk w → Q (wD w)) : S__law_own_word [.bg] Q := ⟨(), rfl, trivial, hq⟩
theorem lc_words {e : SE} {g : GT} {ρ : Env} (he : ∀ d (K : DL.D → Prop), (∀ w : W, WOk w → K (wD w)) → g d ρ fun ρ1 => e ρ1 K) : ∀ (ds : List DL.D) (Q : List DL.D → Prop), (∀ ws, Ws ws → ws.length = ds.length → Q ws) → lcRun g fYes e ρ ds Q
  | [], Q, h => h [] (fun d hd => by cases hd) rfl
  | d :: ds, Q, h => by
    have := he d (fun y => lcRun g fYes e ρ ds fun ys => Q (y :: ys)) fun w hw => lc_words he ds _ fun ws h1 h2 => h (wD w :: ws) (fun x hx => by
      rcases List.mem_cons.mp hx with rfl | hx
      · exact ⟨w, rfl, hw⟩
      · exact h1 x hx) (by rw [List.length_cons, List.length_cons, h2])
    exact this
theorem r_law : gLaw 5 g_law := by
  unfold gLaw
  simp only [List.replicate]
  unfold g_law
  refine seq_go ?_
  simp only [fSeqS, fSet, fSetN, fRet, fIfS, fNext, fBreak, fCont, fNever, fBin, fCmp, fV, fN, fC, lk, lk_z, lk_s, gAdd, gSub, gMul, gDiv, gMod, gPow, gShl, gShlW, gShr, gv, gLt, gLe, gGt, gGe, gIx, fNeg, fTV, fNot, fAnd, fOr, fAndV, fOrV, fNotV, fIf, fLN, fLC, fAN, fAC, fAB, fNV, fTup, fCB, bInt, bAbs, bLen, bMax2, bMin2, bTuple, fSeq, seqOf, fCall, fCallK, fAsg, gNm, gsNil, gsCons, gTpl, gSq, fPar, fMV, fMN, setAll, fApp, fExt, fSetIx, fFrz, fForS, fRng1, fRng2, fBits, fON, fOS, fSlT, fSlL, List.set_cons_zero, List.set_cons_succ, List.length_cons, List.length_nil, endsOf, decide_eq_true_eq, true_and, and_true, at0, at1, at2, at3, at4, Bool.not_eq_true', decide_eq_false_iff_not, lg2, Int.reduceLT, ↓reduceIte, pw12, tp12]
  refine ⟨(), rfl, trivial, ?_⟩
  unfold q_law_4
  refine seq_go ?_
  simp only [fSeqS, fSet, fSetN, fRet, fIfS, fNext, fBreak, fCont, fNever, fBin, fCmp, fV, fN, fC, lk, lk_z, lk_s, gAdd, gSub, gMul, gDiv, gMod, gPow, gShl, gShlW, gShr, gv, gLt, gLe, gGt, gGe, gIx, fNeg, fTV, fNot, fAnd, fOr, fAndV, fOrV, fNotV, fIf, fLN, fLC, fAN, fAC, fAB, fNV, fTup, fCB, bInt, bAbs, bLen, bMax2, bMin2, bTuple, fSeq, seqOf, fCall, fCallK, fAsg, gNm, gsNil, gsCons, gTpl, gSq, fPar, fMV, fMN, setAll, fApp, fExt, fSetIx, fFrz, fForS, fRng1, fRng2, fBits, fON, fOS, fSlT, fSlL, List.set_cons_zero, List.set_cons_succ, List.length_cons, List.length_nil, endsOf, decide_eq_true_eq, true_and, and_true, at0, at1, at2, at3, at4, Bool.not_eq_true', decide_eq_false_iff_not, lg2, Int.reduceLT, ↓reduceIte, fLc, wipeE]
  refine ⟨by decide, by decide, by rw [rng_len]; decide, ?_⟩
  refine lc_words (fun d K hK => ?_) _ _ fun ws hws hl => ?_
  · simp only [fSeqS, fSet, fSetN, fRet, fIfS, fNext, fBreak, fCont, fNever, fBin, fCmp, fV, fN, fC, lk, lk_z, lk_s, gAdd, gSub, gMul, gDiv, gMod, gPow, gShl, gShlW, gShr, gv, gLt, gLe, gGt, gGe, gIx, fNeg, fTV, fNot, fAnd, fOr, fAndV, fOrV, fNotV, fIf, fLN, fLC, fAN, fAC, fAB, fNV, fTup, fCB, bInt, bAbs, bLen, bMax2, bMin2, bTuple, fSeq, seqOf, fCall, fCallK, fAsg, gNm, gsNil, gsCons, gTpl, gSq, fPar, fMV, fMN, setAll, fApp, fExt, fSetIx, fFrz, fForS, fRng1, fRng2, fBits, fON, fOS, fSlT, fSlL, List.set_cons_zero, List.set_cons_succ, List.length_cons, List.length_nil, endsOf, decide_eq_true_eq, true_and, and_true, at0, at1, at2, at3, at4, Bool.not_eq_true', decide_eq_false_iff_not, lg2, Int.reduceLT, ↓reduceIte]
    exact go_own_word hK
  rw [rng_len] at hl
  have hl4 : ws.length = 4 := hl
  refine ⟨by rw [hl4, sizeLine_eq]; decide, ?_⟩
  have hL : Ws (ws ++ [PyData.tuple [], PyData.tuple [PyData.int 0], PyData.tuple [PyData.int 1]]) := by
    intro d hd
    rcases List.mem_append.mp hd with hd | hd
    · exact hws d hd
    · simp only [List.mem_cons, List.not_mem_nil, or_false] at hd
      rcases hd with rfl | rfl | rfl
      · exact ⟨[], rfl, by decide, by simp⟩
      · exact ⟨[0], rfl, by decide, by simp⟩
      · exact ⟨[1], rfl, by decide, by simp⟩
  have hL7 : (ws ++ [PyData.tuple [], PyData.tuple [PyData.int 0], PyData.tuple [PyData.int 1]]).length = 7 := by
    rw [List.length_append, hl4]; rfl
  generalize ws ++ [PyData.tuple [], PyData.tuple [PyData.int 0], PyData.tuple [PyData.int 1]] = L at hL hL7
  have ni := ws_ni hL (by omega)
  refine ni.repr (by decide) (by decide) ?_
  generalize hx : (PyData.list L).shown = x
  unfold q_law_3
  refine seq_go ?_
  simp only [fSeqS, fSet, fSetN, fRet, fIfS, fNext, fBreak, fCont, fNever, fBin, fCmp, fV, fN, fC, lk, lk_z, lk_s, gAdd, gSub, gMul, gDiv, gMod, gPow, gShl, gShlW, gShr, gv, gLt, gLe, gGt, gGe, gIx, fNeg, fTV, fNot, fAnd, fOr, fAndV, fOrV, fNotV, fIf, fLN, fLC, fAN, fAC, fAB, fNV, fTup, fCB, bInt, bAbs, bLen, bMax2, bMin2, bTuple, fSeq, seqOf, fCall, fCallK, fAsg, gNm, gsNil, gsCons, gTpl, gSq, fPar, fMV, fMN, setAll, fApp, fExt, fSetIx, fFrz, fForS, fRng1, fRng2, fBits, fON, fOS, fSlT, fSlL, List.set_cons_zero, List.set_cons_succ, List.length_cons, List.length_nil, endsOf, decide_eq_true_eq, true_and, and_true, at0, at1, at2, at3, at4, Bool.not_eq_true', decide_eq_false_iff_not, lg2, Int.reduceLT, ↓reduceIte, fEnum]
  have hcut : Ws (cutD L none (some 1)) := fun d hd => hL d (by
    unfold cutD at hd
    exact List.mem_of_mem_drop (List.mem_of_mem_take hd))
  refine ⟨?_, ?_⟩
  · have : (cutD L none (some 1)).length ≤ 7 := by
      unfold cutD
      rw [List.length_take, List.length_drop]
      omega
    rw [sizeLine_eq]; omega
  have hall : Ws (L ++ cutD L none (some 1)) := fun d hd => (List.mem_append.mp hd).elim (hL d) (hcut d)
  generalize L ++ cutD L none (some 1) = A at hall
  refine for_of (fun ds ρ => ∃ (s4 s6 : Sl), ρ = [.un, .bg, .sh kn, .sh (.list L), s4, .sh (.str x), s6] ∧ Ew ds) ?_ ?_ _ _ ⟨_, _, rfl, ew_enum _ _ hall⟩
  · rintro d ds ρ ⟨s4, s6, rfl, he⟩ K hK
    obtain ⟨i, w, rfl, hw⟩ := he d List.mem_cons_self
    have he' : Ew ds := fun e h => he e (List.mem_cons_of_mem _ h)
    simp only [fSeqS, fSet, fSetN, fRet, fIfS, fNext, fBreak, fCont, fNever, fBin, fCmp, fV, fN, fC, lk, lk_z, lk_s, gAdd, gSub, gMul, gDiv, gMod, gPow, gShl, gShlW, gShr, gv, gLt, gLe, gGt, gGe, gIx, fNeg, fTV, fNot, fAnd, fOr, fAndV, fOrV, fNotV, fIf, fLN, fLC, fAN, fAC, fAB, fNV, fTup, fCB, bInt, bAbs, bLen, bMax2, bMin2, bTuple, fSeq, seqOf, fCall, fCallK, fAsg, gNm, gsNil, gsCons, gTpl, gSq, fPar, fMV, fMN, setAll, fApp, fExt, fSetIx, fFrz, fForS, fRng1, fRng2, fBits, fON, fOS, fSlT, fSlL, List.set_cons_zero, List.set_cons_succ, List.length_cons, List.length_nil, endsOf, decide_eq_true_eq, true_and, and_true, at0, at1, at2, at3, at4, Bool.not_eq_true', decide_eq_false_iff_not, lg2, Int.reduceLT, ↓reduceIte]
    unfold q_law_0
    simp only [fSeqS, fSet, fSetN, fRet, fIfS, fNext, fBreak, fCont, fNever, fBin, fCmp, fV, fN, fC, lk, lk_z, lk_s, gAdd, gSub, gMul, gDiv, gMod, gPow, gShl, gShlW, gShr, gv, gLt, gLe, gGt, gGe, gEq, gNe, gIx, fNeg, fTV, fNot, fAnd, fOr, fAndV, fOrV, fNotV, fIf, fLN, fLC, fAN, fAC, fAB, fNV, fTup, fCB, bInt, bAbs, bLen, bMax2, bMin2, bTuple, fSeq, seqOf, fCall, fCallK, fAsg, gNm, gsNil, gsCons, gTpl, gSq, fPar, fMV, fMN, setAll, fApp, fExt, fSetIx, fFrz, fForS, fRng1, fRng2, fBits, fON, fOS, fSlT, fSlL, List.set_cons_zero, List.set_cons_succ, List.length_cons, List.length_nil, endsOf, decide_eq_true_eq, true_and, and_true, at0, at1, at2, at3, at4, Bool.not_eq_true', decide_eq_false_iff_not, lg2, Int.reduceLT, ↓reduceIte]
    refine go__law_is_word_right hw ?_
    show (if true = false then _ else _)
    rw [if_neg (by decide)]
    exact hK _ ⟨_, _, rfl, he'⟩
  · rintro ρ ⟨s4, s6, rfl, _⟩
    simp only [fSeqS, fSet, fSetN, fRet, fIfS, fNext, fBreak, fCont, fNever, fBin, fCmp, fV, fN, fC, lk, lk_z, lk_s, gAdd, gSub, gMul, gDiv, gMod, gPow, gShl, gShlW, gShr, gv, gLt, gLe, gGt, gGe, gIx, fNeg, fTV, fNot, fAnd, fOr, fAndV, fOrV, fNotV, fIf, fLN, fLC, fAN, fAC, fAB, fNV, fTup, fCB, bInt, bAbs, bLen, bMax2, bMin2, bTuple, fSeq, seqOf, fCall, fCallK, fAsg, gNm, gsNil, gsCons, gTpl, gSq, fPar, fMV, fMN, setAll, fApp, fExt, fSetIx, fFrz, fForS, fRng1, fRng2, fBits, fON, fOS, fSlT, fSlL, List.set_cons_zero, List.set_cons_succ, List.length_cons, List.length_nil, endsOf, decide_eq_true_eq, true_and, and_true, at0, at1, at2, at3, at4, Bool.not_eq_true', decide_eq_false_iff_not, lg2, Int.reduceLT, ↓reduceIte]
    unfold q_law_2
    refine seq_go ?_
    simp only [fSeqS, fSet, fSetN, fRet, fIfS, fNext, fBreak, fCont, fNever, fBin, fCmp, fV, fN, fC, lk, lk_z, lk_s, gAdd, gSub, gMul, gDiv, gMod, gPow, gShl, gShlW, gShr, gv, gLt, gLe, gGt, gGe, gIx, fNeg, fTV, fNot, fAnd, fOr, fAndV, fOrV, fNotV, fIf, fLN, fLC, fAN, fAC, fAB, fNV, fTup, fCB, bInt, bAbs, bLen, bMax2, bMin2, bTuple, fSeq, seqOf, fCall, fCallK, fAsg, gNm, gsNil, gsCons, gTpl, gSq, fPar, fMV, fMN, setAll, fApp, fExt, fSetIx, fFrz, fForS, fRng1, fRng2, fBits, fON, fOS, fSlT, fSlL, List.set_cons_zero, List.set_cons_succ, List.length_cons, List.length_nil, endsOf, decide_eq_true_eq, true_and, and_true, at0, at1, at2, at3, at4, Bool.not_eq_true', decide_eq_false_iff_not, lg2, Int.reduceLT, ↓reduceIte]
    refine ⟨(), rfl, trivial, ?_⟩
    simp only [fSeqS, fSet, fSetN, fRet, fIfS, fNext, fBreak, fCont, fNever, fBin, fCmp, fV, fN, fC, lk, lk_z, lk_s, gAdd, gSub, gMul, gDiv, gMod, gPow, gShl, gShlW, gShr, gv, gLt, gLe, gGt, gGe, gIx, fNeg, fTV, fNot, fAnd, fOr, fAndV, fOrV, fNotV, fIf, fLN, fLC, fAN, fAC, fAB, fNV, fTup, fCB, bInt, bAbs, bLen, bMax2, bMin2, bTuple, fSeq, seqOf, fCall, fCallK, fAsg, gNm, gsNil, gsCons, gTpl, gSq, fPar, fMV, fMN, setAll, fApp, fExt, fSetIx, fFrz, fForS, fRng1, fRng2, fBits, fON, fOS, fSlT, fSlL, List.set_cons_zero, List.set_cons_succ, List.length_cons, List.length_nil, endsOf, decide_eq_true_eq, true_and, and_true, at0, at1, at2, at3, at4, Bool.not_eq_true', decide_eq_false_iff_not, lg2, Int.reduceLT, ↓reduceIte]
    rw [if_neg (by decide)]
    refine ⟨(), rfl, trivial, ?_⟩
    simp only [fSeqS, fSet, fSetN, fRet, fIfS, fNext, fBreak, fCont, fNever, fBin, fCmp, fV, fN, fC, lk, lk_z, lk_s, gAdd, gSub, gMul, gDiv, gMod, gPow, gShl, gShlW, gShr, gv, gLt, gLe, gGt, gGe, gIx, fNeg, fTV, fNot, fAnd, fOr, fAndV, fOrV, fNotV, fIf, fLN, fLC, fAN, fAC, fAB, fNV, fTup, fCB, bInt, bAbs, bLen, bMax2, bMin2, bTuple, fSeq, seqOf, fCall, fCallK, fAsg, gNm, gsNil, gsCons, gTpl, gSq, fPar, fMV, fMN, setAll, fApp, fExt, fSetIx, fFrz, fForS, fRng1, fRng2, fBits, fON, fOS, fSlT, fSlL, List.set_cons_zero, List.set_cons_succ, List.length_cons, List.length_nil, endsOf, decide_eq_true_eq, true_and, and_true, at0, at1, at2, at3, at4, Bool.not_eq_true', decide_eq_false_iff_not, lg2, Int.reduceLT, ↓reduceIte]
    rw [if_neg (by decide)]
    unfold q_law_1
    have h0 : 0 < L.length := by omega
    have e0 : atI L (0 : Int) = some L[0] := atI_nat (j := 0) (List.getElem?_eq_getElem h0)
    obtain ⟨w, ew, hw⟩ := hL L[0] (List.getElem_mem h0)
    rw [ew] at e0
    simp only [fSeqS, fSet, fSetN, fRet, fIfS, fNext, fBreak, fCont, fNever, fBin, fCmp, fV, fN, fC, lk, lk_z, lk_s, gAdd, gSub, gMul, gDiv, gMod, gPow, gShl, gShlW, gShr, gv, gLt, gLe, gGt, gGe, gEq, gNe, gIx, fNeg, fTV, fNot, fAnd, fOr, fAndV, fOrV, fNotV, fIf, fLN, fLC, fAN, fAC, fAB, fNV, fTup, fCB, bInt, bAbs, bLen, bMax2, bMin2, bTuple, fSeq, seqOf, fCall, fCallK, fAsg, gNm, gsNil, gsCons, gTpl, gSq, fPar, fMV, fMN, setAll, fApp, fExt, fSetIx, fFrz, fForS, fRng1, fRng2, fBits, fON, fOS, fSlT, fSlL, List.set_cons_zero, List.set_cons_succ, List.length_cons, List.length_nil, endsOf, decide_eq_true_eq, true_and, and_true, at0, at1, at2, at3, at4, Bool.not_eq_true', decide_eq_false_iff_not, lg2, Int.reduceLT, ↓reduceIte, e0]
    refine go__law_is_word_right hw ?_
    rw [← hx]
    have fin : bRepr [PyData.list L] fun d => gEq d (.str (PyData.list L).shown) fun b => PyData.bool b = PyData.bool true := ni.repr (by decide) (by decide) (str_eqB rfl)
    show (if true = true then _ else _)
    rw [if_pos rfl]
    exact fin
end T
end DL
namespace DL
namespace T
open PySem L2 PySem.Spec PyProof.Rows
def top (i : Nat) : Stmt := PySem.Challenge.pw_linecuts_k47_whole_markoff_words.main.body.getD i (.Pass ⟨0, 0, 0, 0⟩)
abbrev s_factor_pair : Stmt := top 1
abbrev s_table_times : Stmt := top 3
abbrev s_word_table : Stmt := top 4
abbrev s_markoff_number : Stmt := top 5
abbrev s_word_triple : Stmt := top 6
abbrev s_words_of_number : Stmt := top 7
abbrev s__law_own_bag : Stmt := top 9
abbrev s__law_draw : Stmt := top 10
abbrev s__law_pick : Stmt := top 11
abbrev s__law_lowest_pair : Stmt := top 12
abbrev s__law_even_word : Stmt := top 13
abbrev s__law_times : Stmt := top 14
abbrev s__law_table : Stmt := top 15
abbrev s__law_parts : Stmt := top 16
abbrev s__law_all_words : Stmt := top 17
abbrev s__law_own_word : Stmt := top 18
abbrev s__law_own_pair : Stmt := top 19
abbrev s__law_is_word_right : Stmt := top 20
abbrev s__law_are_triples_right : Stmt := top 21
abbrev s__law_are_numbers_right : Stmt := top 22
abbrev s_law : Stmt := top 23
structure Bl (mg : Str → Option Value) : Prop where
  len : mg "len" = none
  sum : mg "sum" = none
  sorted : mg "sorted" = none
  tuple : mg "tuple" = none
  int : mg "int" = none
  abs : mg "abs" = none
  list : mg "list" = none
  reversed : mg "reversed" = none
  range : mg "range" = none
  repr : mg "repr" = none
  max : mg "max" = none
  enumerate : mg "enumerate" = none
  min : mg "min" = none
theorem m_factor_pair : ∀ ss (Q Q' : D → Prop), (∀ d, Q d → Q' d) → S_factor_pair ss Q → S_factor_pair ss Q' := spE_mono
theorem l_factor_pair : ∀ ss (Q : D → Prop), S_factor_pair ss Q → ss.length = 1 := spE_len fun _ => rfl
theorem m_table_times : ∀ ss (Q Q' : D → Prop), (∀ d, Q d → Q' d) → S_table_times ss Q → S_table_times ss Q' := spE_mono
theorem l_table_times : ∀ ss (Q : D → Prop), S_table_times ss Q → ss.length = 2 := spE_len fun _ => rfl
theorem m__law_own_bag : ∀ ss (Q Q' : D → Prop), (∀ d, Q d → Q' d) → S__law_own_bag ss Q → S__law_own_bag ss Q' := spOwn_mono
theorem l__law_own_bag : ∀ ss (Q : D → Prop), S__law_own_bag ss Q → ss.length = 1 := spOwn_len
theorem m__law_even_word : ∀ ss (Q Q' : D → Prop), (∀ d, Q d → Q' d) → S__law_even_word ss Q → S__law_even_word ss Q' := spE_mono
theorem l__law_even_word : ∀ ss (Q : D → Prop), S__law_even_word ss Q → ss.length = 2 := spE_len fun _ => rfl
theorem m__law_times : ∀ ss (Q Q' : D → Prop), (∀ d, Q d → Q' d) → S__law_times ss Q → S__law_times ss Q' := spE_mono
theorem l__law_times : ∀ ss (Q : D → Prop), S__law_times ss Q → ss.length = 2 := spE_len fun _ => rfl
theorem m__law_parts : ∀ ss (Q Q' : D → Prop), (∀ d, Q d → Q' d) → S__law_parts ss Q → S__law_parts ss Q' := spE_mono
theorem l__law_parts : ∀ ss (Q : D → Prop), S__law_parts ss Q → ss.length = 2 := spE_len fun _ => rfl
theorem m_word_table : ∀ ss (Q Q' : D → Prop), (∀ d, Q d → Q' d) → S_word_table ss Q → S_word_table ss Q' := spE_mono
theorem l_word_table : ∀ ss (Q : D → Prop), S_word_table ss Q → ss.length = 1 := spE_len fun _ => rfl
theorem m__law_pick : ∀ ss (Q Q' : D → Prop), (∀ d, Q d → Q' d) → S__law_pick ss Q → S__law_pick ss Q' := spA_mono
theorem l__law_pick : ∀ ss (Q : D → Prop), S__law_pick ss Q → ss.length = 2 := spA_len fun _ => rfl
theorem m__law_lowest_pair : ∀ ss (Q Q' : D → Prop), (∀ d, Q d → Q' d) → S__law_lowest_pair ss Q → S__law_lowest_pair ss Q' := spA_mono
theorem l__law_lowest_pair : ∀ ss (Q : D → Prop), S__law_lowest_pair ss Q → ss.length = 2 := spA_len fun _ => rfl
theorem m__law_table : ∀ ss (Q Q' : D → Prop), (∀ d, Q d → Q' d) → S__law_table ss Q → S__law_table ss Q' := spE_mono
theorem l__law_table : ∀ ss (Q : D → Prop), S__law_table ss Q → ss.length = 1 := spE_len fun _ => rfl
theorem m__law_all_words : ∀ ss (Q Q' : D → Prop), (∀ d, Q d → Q' d) → S__law_all_words ss Q → S__law_all_words ss Q' := spE_mono
theorem l__law_all_words : ∀ ss (Q : D → Prop), S__law_all_words ss Q → ss.length = 1 := spE_len fun _ => rfl
theorem m_markoff_number : ∀ ss (Q Q' : D → Prop), (∀ d, Q d → Q' d) → S_markoff_number ss Q → S_markoff_number ss Q' := spE_mono
theorem l_markoff_number : ∀ ss (Q : D → Prop), S_markoff_number ss Q → ss.length = 1 := spE_len fun _ => rfl
theorem m__law_own_word : ∀ ss (Q Q' : D → Prop), (∀ d, Q d → Q' d) → S__law_own_word ss Q → S__law_own_word ss Q' := spA_mono
theorem l__law_own_word : ∀ ss (Q : D → Prop), S__law_own_word ss Q → ss.length = 1 := spA_len fun _ => rfl
theorem m__law_own_pair : ∀ ss (Q Q' : D → Prop), (∀ d, Q d → Q' d) → S__law_own_pair ss Q → S__law_own_pair ss Q' := spA_mono
theorem l__law_own_pair : ∀ ss (Q : D → Prop), S__law_own_pair ss Q → ss.length = 1 := spA_len fun _ => rfl
theorem m_word_triple : ∀ ss (Q Q' : D → Prop), (∀ d, Q d → Q' d) → S_word_triple ss Q → S_word_triple ss Q' := spE_mono
theorem l_word_triple : ∀ ss (Q : D → Prop), S_word_triple ss Q → ss.length = 1 := spE_len fun _ => rfl
theorem m_words_of_number : ∀ ss (Q Q' : D → Prop), (∀ d, Q d → Q' d) → S_words_of_number ss Q → S_words_of_number ss Q' := spE_mono
theorem l_words_of_number : ∀ ss (Q : D → Prop), S_words_of_number ss Q → ss.length = 1 := spE_len fun _ => rfl
theorem m__law_is_word_right : ∀ ss (Q Q' : D → Prop), (∀ d, Q d → Q' d) → S__law_is_word_right ss Q → S__law_is_word_right ss Q' := spE_mono
theorem l__law_is_word_right : ∀ ss (Q : D → Prop), S__law_is_word_right ss Q → ss.length = 2 := spE_len fun _ => rfl
theorem m__law_are_triples_right : ∀ ss (Q Q' : D → Prop), (∀ d, Q d → Q' d) → S__law_are_triples_right ss Q → S__law_are_triples_right ss Q' := spE_mono
theorem l__law_are_triples_right : ∀ ss (Q : D → Prop), S__law_are_triples_right ss Q → ss.length = 2 := spE_len fun _ => rfl
theorem m__law_are_numbers_right : ∀ ss (Q Q' : D → Prop), (∀ d, Q d → Q' d) → S__law_are_numbers_right ss Q → S__law_are_numbers_right ss Q' := spE_mono
theorem l__law_are_numbers_right : ∀ ss (Q : D → Prop), S__law_are_numbers_right ss Q → ss.length = 2 := spE_len fun _ => rfl
theorem sc_factor_pair : FnScope N_factor_pair ["word"] (defScope s_factor_pair) := ⟨rfl, rfl, rfl, by decide +kernel, rfl, by decide +kernel, by decide +kernel⟩
theorem der_factor_pair {P : Program} {w : World} {K : PySem.W.Frag} {mg : Str → Option Value} {base : Heap} {f : Addr} {cdv : Value} {A : Around} {outer : List PySem.Env} {s : Shared} {c : C} (bl : Bl mg)  (hG : IsLst c) (hgd : A.guards = some []) (hr : Room 0 (A.deeper (envOfC "factor_pair" (defScope s_factor_pair) s.heap.objs.size f cdv))) : PSsd (XX P w K mg base N_factor_pair "factor_pair" s_factor_pair f cdv A outer s c.H0) c (defBody s_factor_pair) g_factor_pair := by
  have hN : (XX P w K mg base N_factor_pair "factor_pair" s_factor_pair f cdv A outer s c.H0).N.Nodup := sc_factor_pair.nd
  have hc : (XX P w K mg base N_factor_pair "factor_pair" s_factor_pair f cdv A outer s c.H0).calm = true := rfl
  have hx : ∀ e s1, ¬ (XX P w K mg base N_factor_pair "factor_pair" s_factor_pair f cdv A outer s c.H0).xe e s1 := fun _ _ z => z
  have hp : PassesOwn (model P w) (XX P w K mg base N_factor_pair "factor_pair" s_factor_pair f cdv A outer s c.H0).A (XX P w K mg base N_factor_pair "factor_pair" s_factor_pair f cdv A outer s c.H0).env (XX P w K mg base N_factor_pair "factor_pair" s_factor_pair f cdv A outer s c.H0).xe := PassesOwn.never
  have hu : (XX P w K mg base N_factor_pair "factor_pair" s_factor_pair f cdv A outer s c.H0).A.units + 64 < cLine := units_of hr
  have hu5 : (XX P w K mg base N_factor_pair "factor_pair" s_factor_pair f cdv A outer s c.H0).A.units + 65 < cLine := units65 hr
  exact (ss_cons (s_par 1 2 hc hN (m_v (v_callB (c_sumT hc) bl.sum (bb_cons (b_name 0) bb_nil)) (m_v (v_callB c_len bl.len (bb_cons (b_name 0) bb_nil)) m_nil))) (ss_cons (s_par 3 4 hc hN (m_v v_int (m_v (v_name 1) m_nil))) (ss_cons (s_while hp (t_cmp (o_ne hu) (PV.b (v_bin o_mod (b_name 4) (b_name 2))) (PV.b v_int)) (ss_one (s_par 3 4 hc hN (m_v (v_bin o_add (b_name 3) (PV.b v_int)) (m_v (v_bin o_add (b_name 4) (b_name 1)) m_nil))))) (ss_one (s_ret (v_tup (d_cons (v_slT (b_name 0) po_n (po_s (b_name 3))) (d_cons (v_slT (b_name 0) (po_s (b_name 3)) po_n) d_nil))))))))
theorem ok_factor_pair {P : Program} {w : World} {K : PySem.W.Frag} {mg : Str → Option Value} {base : Heap} {f : Addr} {fd : FuncData} (F : Fun K "factor_pair" "factor_pair" s_factor_pair f fd) (bl : Bl mg)  : FnG IsLst P w K mg base 1 f fd ["word"] S_factor_pair :=
  fng_of F sc_factor_pair m_factor_pair l_factor_pair fun cdv A outer s c hG hgd hr => ⟨g_factor_pair, der_factor_pair bl  hG hgd hr, r_factor_pair⟩
theorem sc_table_times : FnScope N_table_times ["one", "other"] (defScope s_table_times) := ⟨rfl, rfl, rfl, by decide +kernel, rfl, by decide +kernel, by decide +kernel⟩
theorem der_table_times {P : Program} {w : World} {K : PySem.W.Frag} {mg : Str → Option Value} {base : Heap} {f : Addr} {cdv : Value} {A : Around} {outer : List PySem.Env} {s : Shared} {c : C} (bl : Bl mg)  (hG : IsLst c) (hgd : A.guards = some []) (hr : Room 0 (A.deeper (envOfC "table_times" (defScope s_table_times) s.heap.objs.size f cdv))) : PSsd (XX P w K mg base N_table_times "table_times" s_table_times f cdv A outer s c.H0) c (defBody s_table_times) g_table_times := by
  have hN : (XX P w K mg base N_table_times "table_times" s_table_times f cdv A outer s c.H0).N.Nodup := sc_table_times.nd
  have hc : (XX P w K mg base N_table_times "table_times" s_table_times f cdv A outer s c.H0).calm = true := rfl
  have hx : ∀ e s1, ¬ (XX P w K mg base N_table_times "table_times" s_table_times f cdv A outer s c.H0).xe e s1 := fun _ _ z => z
  have hp : PassesOwn (model P w) (XX P w K mg base N_table_times "table_times" s_table_times f cdv A outer s c.H0).A (XX P w K mg base N_table_times "table_times" s_table_times f cdv A outer s c.H0).env (XX P w K mg base N_table_times "table_times" s_table_times f cdv A outer s c.H0).xe := PassesOwn.never
  have hu : (XX P w K mg base N_table_times "table_times" s_table_times f cdv A outer s c.H0).A.units + 64 < cLine := units_of hr
  have hu5 : (XX P w K mg base N_table_times "table_times" s_table_times f cdv A outer s c.H0).A.units + 65 < cLine := units65 hr
  exact (ss_cons (s_asg (v_name 0) (g_sq hc (gs_cons (g_sq hc (gs_cons (g_nm 2 hN) (gs_cons (g_nm 3 hN) gs_nil))) (gs_cons (g_sq hc (gs_cons (g_nm 4 hN) (gs_cons (g_nm 5 hN) gs_nil))) gs_nil)))) (ss_cons (s_asg (v_name 1) (g_sq hc (gs_cons (g_sq hc (gs_cons (g_nm 6 hN) (gs_cons (g_nm 7 hN) gs_nil))) (gs_cons (g_sq hc (gs_cons (g_nm 8 hN) (gs_cons (g_nm 9 hN) gs_nil))) gs_nil)))) (ss_one (s_ret (v_tup (d_cons (v_tup (d_cons (v_bin o_add (PV.b (v_bin o_mul (b_name 2) (b_name 6))) (PV.b (v_bin o_mul (b_name 3) (b_name 8)))) (d_cons (v_bin o_add (PV.b (v_bin o_mul (b_name 2) (b_name 7))) (PV.b (v_bin o_mul (b_name 3) (b_name 9)))) d_nil))) (d_cons (v_tup (d_cons (v_bin o_add (PV.b (v_bin o_mul (b_name 4) (b_name 6))) (PV.b (v_bin o_mul (b_name 5) (b_name 8)))) (d_cons (v_bin o_add (PV.b (v_bin o_mul (b_name 4) (b_name 7))) (PV.b (v_bin o_mul (b_name 5) (b_name 9)))) d_nil))) d_nil)))))))
theorem ok_table_times {P : Program} {w : World} {K : PySem.W.Frag} {mg : Str → Option Value} {base : Heap} {f : Addr} {fd : FuncData} (F : Fun K "table_times" "table_times" s_table_times f fd) (bl : Bl mg)  : FnG IsLst P w K mg base 1 f fd ["one", "other"] S_table_times :=
  fng_of F sc_table_times m_table_times l_table_times fun cdv A outer s c hG hgd hr => ⟨g_table_times, der_table_times bl  hG hgd hr, r_table_times⟩
theorem sc__law_own_bag : FnScope N__law_own_bag ["script"] (defScope s__law_own_bag) := ⟨rfl, rfl, rfl, by decide +kernel, rfl, by decide +kernel, by decide +kernel⟩
theorem der__law_own_bag {P : Program} {w : World} {K : PySem.W.Frag} {mg : Str → Option Value} {base : Heap} {f : Addr} {cdv : Value} {A : Around} {outer : List PySem.Env} {s : Shared} {c : C} (bl : Bl mg)  (hG : GOwn K c) (hgd : A.guards = some []) (hr : Room 0 (A.deeper (envOfC "_law_own_bag" (defScope s__law_own_bag) s.heap.objs.size f cdv))) : PSsd (XX P w K mg base N__law_own_bag "_law_own_bag" s__law_own_bag f cdv A outer s c.H0) c (defBody s__law_own_bag) g__law_own_bag := by
  have hN : (XX P w K mg base N__law_own_bag "_law_own_bag" s__law_own_bag f cdv A outer s c.H0).N.Nodup := sc__law_own_bag.nd
  have hc : (XX P w K mg base N__law_own_bag "_law_own_bag" s__law_own_bag f cdv A outer s c.H0).calm = true := rfl
  have hx : ∀ e s1, ¬ (XX P w K mg base N__law_own_bag "_law_own_bag" s__law_own_bag f cdv A outer s c.H0).xe e s1 := fun _ _ z => z
  have hp : PassesOwn (model P w) (XX P w K mg base N__law_own_bag "_law_own_bag" s__law_own_bag f cdv A outer s c.H0).A (XX P w K mg base N__law_own_bag "_law_own_bag" s__law_own_bag f cdv A outer s c.H0).env (XX P w K mg base N__law_own_bag "_law_own_bag" s__law_own_bag f cdv A outer s c.H0).xe := PassesOwn.never
  have hu : (XX P w K mg base N__law_own_bag "_law_own_bag" s__law_own_bag f cdv A outer s c.H0).A.units + 64 < cLine := units_of hr
  have hu5 : (XX P w K mg base N__law_own_bag "_law_own_bag" s__law_own_bag f cdv A outer s c.H0).A.units + 65 < cLine := units65 hr
  exact (ss_cons (s_lc 1 hc hN (own := [("cell", 2)]) (by first | rfl | decide +kernel) (i_seq (PN.v (n_script (l := none) (h := some 63) hG po_n (po_s (PV.b v_int))))) (fun _ _ _ _ _ => (g_nm 2 (by exact hN))) (fun _ _ _ _ _ => ts_nil) (fun _ _ _ _ _ => (v_callB c_abs bl.abs (bb_cons (PV.b (v_callT c_int bl.int (bb_cons (b_name 2) bb_nil))) bb_nil)))) (ss_cons (s_set 3 hN (v_bin o_add (PV.b v_int) (PV.b (v_callB c_len bl.len (bb_cons (b_name 1) bb_nil))))) (ss_cons (s_frz 1 (s_for hp hc (i_seq (v_name 1)) (g_nm 2 hN) (ss_one (s_set 3 hN (v_bin o_mod (PV.b (v_callT c_int bl.int (bb_cons (PV.b (v_bin o_add (PV.b (v_bin o_add (PV.b (v_bin o_mul (b_name 3) (PV.b v_int))) (PV.b (v_bin o_mod (PV.b (v_callT c_int bl.int (bb_cons (b_name 2) bb_nil))) (PV.b v_int))))) (PV.b v_int))) bb_nil))) (PV.b v_int)))))) (ss_one (s_ret (PN.v (n_lst (d_cons (PN.v (n_listRev hc bl.list bl.reversed (PV.b (PN.v (n_list bl.list (b_name 1)))))) (d_cons v_int (d_cons (v_name 3) d_nil))))))))))
theorem ok__law_own_bag {P : Program} {w : World} {K : PySem.W.Frag} {mg : Str → Option Value} {base : Heap} {f : Addr} {fd : FuncData} (F : Fun K "_law_own_bag" "_law_own_bag" s__law_own_bag f fd) (bl : Bl mg)  : FnG (GOwn K) P w K mg base 1 f fd ["script"] S__law_own_bag :=
  fng_of F sc__law_own_bag m__law_own_bag l__law_own_bag fun cdv A outer s c hG hgd hr => ⟨g__law_own_bag, der__law_own_bag bl  hG hgd hr, r__law_own_bag⟩
theorem sc__law_even_word : FnScope N__law_even_word ["p", "q"] (defScope s__law_even_word) := ⟨rfl, rfl, rfl, by decide +kernel, rfl, by decide +kernel, by decide +kernel⟩
theorem der__law_even_word {P : Program} {w : World} {K : PySem.W.Frag} {mg : Str → Option Value} {base : Heap} {f : Addr} {cdv : Value} {A : Around} {outer : List PySem.Env} {s : Shared} {c : C} (bl : Bl mg)  (hG : IsLst c) (hgd : A.guards = some []) (hr : Room 0 (A.deeper (envOfC "_law_even_word" (defScope s__law_even_word) s.heap.objs.size f cdv))) : PSsd (XX P w K mg base N__law_even_word "_law_even_word" s__law_even_word f cdv A outer s c.H0) c (defBody s__law_even_word) g__law_even_word := by
  have hN : (XX P w K mg base N__law_even_word "_law_even_word" s__law_even_word f cdv A outer s c.H0).N.Nodup := sc__law_even_word.nd
  have hc : (XX P w K mg base N__law_even_word "_law_even_word" s__law_even_word f cdv A outer s c.H0).calm = true := rfl
  have hx : ∀ e s1, ¬ (XX P w K mg base N__law_even_word "_law_even_word" s__law_even_word f cdv A outer s c.H0).xe e s1 := fun _ _ z => z
  have hp : PassesOwn (model P w) (XX P w K mg base N__law_even_word "_law_even_word" s__law_even_word f cdv A outer s c.H0).A (XX P w K mg base N__law_even_word "_law_even_word" s__law_even_word f cdv A outer s c.H0).env (XX P w K mg base N__law_even_word "_law_even_word" s__law_even_word f cdv A outer s c.H0).xe := PassesOwn.never
  have hu : (XX P w K mg base N__law_even_word "_law_even_word" s__law_even_word f cdv A outer s c.H0).A.units + 64 < cLine := units_of hr
  have hu5 : (XX P w K mg base N__law_even_word "_law_even_word" s__law_even_word f cdv A outer s c.H0).A.units + 65 < cLine := units65 hr
  exact (ss_one (s_ret (v_callT c_tuple bl.tuple (bb_cons (PV.b (PN.v (n_lc hc hN (own := [("i", 2)]) (by first | rfl | decide +kernel) (i_rng1 bl.range (PV.b (v_bin o_add (b_name 0) (b_name 1)))) (fun _ _ _ _ _ => (g_nm 2 (by exact hN))) (fun _ _ _ _ _ => ts_nil) (fun _ _ _ _ _ => (v_bin o_sub (PV.b (v_bin o_div (PV.b (v_bin o_mul (PV.b (v_bin o_add (b_name 2) (PV.b v_int))) (b_name 0))) (PV.b (v_bin o_add (b_name 0) (b_name 1))))) (PV.b (v_bin o_div (PV.b (v_bin o_mul (b_name 2) (b_name 0))) (PV.b (v_bin o_add (b_name 0) (b_name 1)))))))))) bb_nil))))
theorem ok__law_even_word {P : Program} {w : World} {K : PySem.W.Frag} {mg : Str → Option Value} {base : Heap} {f : Addr} {fd : FuncData} (F : Fun K "_law_even_word" "_law_even_word" s__law_even_word f fd) (bl : Bl mg)  : FnG IsLst P w K mg base 1 f fd ["p", "q"] S__law_even_word :=
  fng_of F sc__law_even_word m__law_even_word l__law_even_word fun cdv A outer s c hG hgd hr => ⟨g__law_even_word, der__law_even_word bl  hG hgd hr, r__law_even_word⟩
theorem sc__law_times : FnScope N__law_times ["one", "other"] (defScope s__law_times) := ⟨rfl, rfl, rfl, by decide +kernel, rfl, by decide +kernel, by decide +kernel⟩
theorem der__law_times {P : Program} {w : World} {K : PySem.W.Frag} {mg : Str → Option Value} {base : Heap} {f : Addr} {cdv : Value} {A : Around} {outer : List PySem.Env} {s : Shared} {c : C} (bl : Bl mg)  (hG : IsLst c) (hgd : A.guards = some []) (hr : Room 0 (A.deeper (envOfC "_law_times" (defScope s__law_times) s.heap.objs.size f cdv))) : PSsd (XX P w K mg base N__law_times "_law_times" s__law_times f cdv A outer s c.H0) c (defBody s__law_times) g__law_times := by
  have hN : (XX P w K mg base N__law_times "_law_times" s__law_times f cdv A outer s c.H0).N.Nodup := sc__law_times.nd
  have hc : (XX P w K mg base N__law_times "_law_times" s__law_times f cdv A outer s c.H0).calm = true := rfl
  have hx : ∀ e s1, ¬ (XX P w K mg base N__law_times "_law_times" s__law_times f cdv A outer s c.H0).xe e s1 := fun _ _ z => z
  have hp : PassesOwn (model P w) (XX P w K mg base N__law_times "_law_times" s__law_times f cdv A outer s c.H0).A (XX P w K mg base N__law_times "_law_times" s__law_times f cdv A outer s c.H0).env (XX P w K mg base N__law_times "_law_times" s__law_times f cdv A outer s c.H0).xe := PassesOwn.never
  have hu : (XX P w K mg base N__law_times "_law_times" s__law_times f cdv A outer s c.H0).A.units + 64 < cLine := units_of hr
  have hu5 : (XX P w K mg base N__law_times "_law_times" s__law_times f cdv A outer s c.H0).A.units + 65 < cLine := units65 hr
  exact (ss_cons (s_asg (v_name 0) (g_sq hc (gs_cons (g_sq hc (gs_cons (g_nm 2 hN) (gs_cons (g_nm 3 hN) gs_nil))) (gs_cons (g_sq hc (gs_cons (g_nm 4 hN) (gs_cons (g_nm 5 hN) gs_nil))) gs_nil)))) (ss_cons (s_asg (v_name 1) (g_sq hc (gs_cons (g_sq hc (gs_cons (g_nm 6 hN) (gs_cons (g_nm 7 hN) gs_nil))) (gs_cons (g_sq hc (gs_cons (g_nm 8 hN) (gs_cons (g_nm 9 hN) gs_nil))) gs_nil)))) (ss_one (s_ret (v_tup (d_cons (v_tup (d_cons (v_bin o_add (PV.b (v_bin o_mul (b_name 2) (b_name 6))) (PV.b (v_bin o_mul (b_name 3) (b_name 8)))) (d_cons (v_bin o_add (PV.b (v_bin o_mul (b_name 2) (b_name 7))) (PV.b (v_bin o_mul (b_name 3) (b_name 9)))) d_nil))) (d_cons (v_tup (d_cons (v_bin o_add (PV.b (v_bin o_mul (b_name 4) (b_name 6))) (PV.b (v_bin o_mul (b_name 5) (b_name 8)))) (d_cons (v_bin o_add (PV.b (v_bin o_mul (b_name 4) (b_name 7))) (PV.b (v_bin o_mul (b_name 5) (b_name 9)))) d_nil))) d_nil)))))))
theorem ok__law_times {P : Program} {w : World} {K : PySem.W.Frag} {mg : Str → Option Value} {base : Heap} {f : Addr} {fd : FuncData} (F : Fun K "_law_times" "_law_times" s__law_times f fd) (bl : Bl mg)  : FnG IsLst P w K mg base 1 f fd ["one", "other"] S__law_times :=
  fng_of F sc__law_times m__law_times l__law_times fun cdv A outer s c hG hgd hr => ⟨g__law_times, der__law_times bl  hG hgd hr, r__law_times⟩
theorem sc__law_parts : FnScope N__law_parts ["p", "q"] (defScope s__law_parts) := ⟨rfl, rfl, rfl, by decide +kernel, rfl, by decide +kernel, by decide +kernel⟩
theorem der__law_parts {P : Program} {w : World} {K : PySem.W.Frag} {mg : Str → Option Value} {base : Heap} {f : Addr} {cdv : Value} {A : Around} {outer : List PySem.Env} {s : Shared} {c : C} (bl : Bl mg)  (hG : IsLst c) (hgd : A.guards = some []) (hr : Room 0 (A.deeper (envOfC "_law_parts" (defScope s__law_parts) s.heap.objs.size f cdv))) : PSsd (XX P w K mg base N__law_parts "_law_parts" s__law_parts f cdv A outer s c.H0) c (defBody s__law_parts) g__law_parts := by
  have hN : (XX P w K mg base N__law_parts "_law_parts" s__law_parts f cdv A outer s c.H0).N.Nodup := sc__law_parts.nd
  have hc : (XX P w K mg base N__law_parts "_law_parts" s__law_parts f cdv A outer s c.H0).calm = true := rfl
  have hx : ∀ e s1, ¬ (XX P w K mg base N__law_parts "_law_parts" s__law_parts f cdv A outer s c.H0).xe e s1 := fun _ _ z => z
  have hp : PassesOwn (model P w) (XX P w K mg base N__law_parts "_law_parts" s__law_parts f cdv A outer s c.H0).A (XX P w K mg base N__law_parts "_law_parts" s__law_parts f cdv A outer s c.H0).env (XX P w K mg base N__law_parts "_law_parts" s__law_parts f cdv A outer s c.H0).xe := PassesOwn.never
  have hu : (XX P w K mg base N__law_parts "_law_parts" s__law_parts f cdv A outer s c.H0).A.units + 64 < cLine := units_of hr
  have hu5 : (XX P w K mg base N__law_parts "_law_parts" s__law_parts f cdv A outer s c.H0).A.units + 65 < cLine := units65 hr
  exact (ss_cons (s_asg (v_tup (d_cons (v_tup (d_cons v_int (d_cons v_int d_nil))) (d_cons (v_tup (d_cons v_int (d_cons v_int d_nil))) (d_cons (v_tup (d_cons v_int d_nil)) (d_cons (v_tup (d_cons v_int d_nil)) d_nil))))) (g_sq hc (gs_cons (g_nm 2 hN) (gs_cons (g_nm 3 hN) (gs_cons (g_nm 4 hN) (gs_cons (g_nm 5 hN) gs_nil)))))) (ss_cons (s_for hp hc (i_rng1 bl.range (PV.b v_int)) (g_nm 6 hN) (ss_cons (s_set 7 hN (v_tup (d_cons (v_bin o_add (PV.b (v_ix (b_name 2) (PV.b v_int))) (PV.b (v_ix (b_name 3) (PV.b v_int)))) (d_cons (v_bin o_add (PV.b (v_ix (b_name 2) (PV.b v_int))) (PV.b (v_ix (b_name 3) (PV.b v_int)))) d_nil)))) (ss_cons (s_if (t_cmp (o_eq hu) (b_name 7) (PV.b (v_tup (d_cons (v_name 0) (d_cons (v_name 1) d_nil))))) (ss_one s_break) ss_nil) (ss_one (s_if (t_cmp o_lt (PV.b (v_bin o_mul (b_name 0) (PV.b (v_ix (b_name 7) (PV.b v_int))))) (PV.b (v_bin o_mul (PV.b (v_ix (b_name 7) (PV.b v_int))) (b_name 1)))) (ss_one (s_par 3 5 hc hN (m_v (v_name 7) (m_v (v_bin o_add (b_name 4) (b_name 5)) m_nil)))) (ss_one (s_par 2 4 hc hN (m_v (v_name 7) (m_v (v_bin o_add (b_name 4) (b_name 5)) m_nil))))))))) (ss_one (s_ret (v_tup (d_cons (v_name 4) (d_cons (v_name 5) d_nil)))))))
theorem ok__law_parts {P : Program} {w : World} {K : PySem.W.Frag} {mg : Str → Option Value} {base : Heap} {f : Addr} {fd : FuncData} (F : Fun K "_law_parts" "_law_parts" s__law_parts f fd) (bl : Bl mg)  : FnG IsLst P w K mg base 1 f fd ["p", "q"] S__law_parts :=
  fng_of F sc__law_parts m__law_parts l__law_parts fun cdv A outer s c hG hgd hr => ⟨g__law_parts, der__law_parts bl  hG hgd hr, r__law_parts⟩
theorem sc_word_table : FnScope N_word_table ["word"] (defScope s_word_table) := ⟨rfl, rfl, rfl, by decide +kernel, rfl, by decide +kernel, by decide +kernel⟩
theorem der_word_table {P : Program} {w : World} {K : PySem.W.Frag} {mg : Str → Option Value} {base : Heap} {f : Addr} {cdv : Value} {A : Around} {outer : List PySem.Env} {s : Shared} {c : C} (bl : Bl mg) (C_table_times : Kn P w K mg base 1 "table_times" ["one", "other"] S_table_times) (hG : IsLst c) (hgd : A.guards = some []) (hr : Room 1 (A.deeper (envOfC "word_table" (defScope s_word_table) s.heap.objs.size f cdv))) : PSsd (XX P w K mg base N_word_table "word_table" s_word_table f cdv A outer s c.H0) c (defBody s_word_table) g_word_table := by
  have hN : (XX P w K mg base N_word_table "word_table" s_word_table f cdv A outer s c.H0).N.Nodup := sc_word_table.nd
  have hc : (XX P w K mg base N_word_table "word_table" s_word_table f cdv A outer s c.H0).calm = true := rfl
  have hx : ∀ e s1, ¬ (XX P w K mg base N_word_table "word_table" s_word_table f cdv A outer s c.H0).xe e s1 := fun _ _ z => z
  have hp : PassesOwn (model P w) (XX P w K mg base N_word_table "word_table" s_word_table f cdv A outer s c.H0).A (XX P w K mg base N_word_table "word_table" s_word_table f cdv A outer s c.H0).env (XX P w K mg base N_word_table "word_table" s_word_table f cdv A outer s c.H0).xe := PassesOwn.never
  have hu : (XX P w K mg base N_word_table "word_table" s_word_table f cdv A outer s c.H0).A.units + 64 < cLine := units_of hr
  have hu5 : (XX P w K mg base N_word_table "word_table" s_word_table f cdv A outer s c.H0).A.units + 65 < cLine := units65 hr
  exact (ss_cons (s_set 1 hN (v_tup (d_cons (v_tup (d_cons v_int (d_cons v_int d_nil))) (d_cons (v_tup (d_cons v_int (d_cons v_int d_nil))) d_nil)))) (ss_cons (s_for hp hc (i_seq (v_name 0)) (g_nm 2 hN) (ss_one (s_set 1 hN (v_callX C_table_times hG hgd hr (a_cons (v_name 1) (a_cons (v_if (t_cmp (o_eq hu) (b_name 2) (PV.b v_int)) (v_tup (d_cons (v_tup (d_cons v_int (d_cons v_int d_nil))) (d_cons (v_tup (d_cons v_int (d_cons v_int d_nil))) d_nil))) (v_tup (d_cons (v_tup (d_cons v_int (d_cons v_int d_nil))) (d_cons (v_tup (d_cons v_int (d_cons v_int d_nil))) d_nil)))) a_nil)))))) (ss_one (s_ret (v_name 1)))))
theorem ok_word_table {P : Program} {w : World} {K : PySem.W.Frag} {mg : Str → Option Value} {base : Heap} {f : Addr} {fd : FuncData} (F : Fun K "word_table" "word_table" s_word_table f fd) (bl : Bl mg) (C_table_times : Kn P w K mg base 1 "table_times" ["one", "other"] S_table_times) : FnG IsLst P w K mg base 2 f fd ["word"] S_word_table :=
  fng_of F sc_word_table m_word_table l_word_table fun cdv A outer s c hG hgd hr => ⟨g_word_table, der_word_table bl C_table_times hG hgd hr, r_word_table⟩
theorem sc__law_pick : FnScope N__law_pick ["bag", "some"] (defScope s__law_pick) := ⟨rfl, rfl, rfl, by decide +kernel, rfl, by decide +kernel, by decide +kernel⟩
theorem der__law_pick {P : Program} {w : World} {K : PySem.W.Frag} {mg : Str → Option Value} {base : Heap} {f : Addr} {cdv : Value} {A : Around} {outer : List PySem.Env} {s : Shared} {c : C} (bl : Bl mg) (C__law_draw : Kn P w K mg base 1 "_law_draw" ["bag", "below"] S__law_draw) (hG : IsLst c) (hgd : A.guards = some []) (hr : Room 1 (A.deeper (envOfC "_law_pick" (defScope s__law_pick) s.heap.objs.size f cdv))) : PSsd (XX P w K mg base N__law_pick "_law_pick" s__law_pick f cdv A outer s c.H0) c (defBody s__law_pick) g__law_pick := by
  have hN : (XX P w K mg base N__law_pick "_law_pick" s__law_pick f cdv A outer s c.H0).N.Nodup := sc__law_pick.nd
  have hc : (XX P w K mg base N__law_pick "_law_pick" s__law_pick f cdv A outer s c.H0).calm = true := rfl
  have hx : ∀ e s1, ¬ (XX P w K mg base N__law_pick "_law_pick" s__law_pick f cdv A outer s c.H0).xe e s1 := fun _ _ z => z
  have hp : PassesOwn (model P w) (XX P w K mg base N__law_pick "_law_pick" s__law_pick f cdv A outer s c.H0).A (XX P w K mg base N__law_pick "_law_pick" s__law_pick f cdv A outer s c.H0).env (XX P w K mg base N__law_pick "_law_pick" s__law_pick f cdv A outer s c.H0).xe := PassesOwn.never
  have hu : (XX P w K mg base N__law_pick "_law_pick" s__law_pick f cdv A outer s c.H0).A.units + 64 < cLine := units_of hr
  have hu5 : (XX P w K mg base N__law_pick "_law_pick" s__law_pick f cdv A outer s c.H0).A.units + 65 < cLine := units65 hr
  exact (ss_one (s_ret (v_ix (b_name 1) (PV.b (v_callX C__law_draw hG hgd hr (a_bag 0 (a_cons (v_callB c_len bl.len (bb_cons (b_name 1) bb_nil)) a_nil)))))))
theorem ok__law_pick {P : Program} {w : World} {K : PySem.W.Frag} {mg : Str → Option Value} {base : Heap} {f : Addr} {fd : FuncData} (F : Fun K "_law_pick" "_law_pick" s__law_pick f fd) (bl : Bl mg) (C__law_draw : Kn P w K mg base 1 "_law_draw" ["bag", "below"] S__law_draw) : FnG IsLst P w K mg base 2 f fd ["bag", "some"] S__law_pick :=
  fng_of F sc__law_pick m__law_pick l__law_pick fun cdv A outer s c hG hgd hr => ⟨g__law_pick, der__law_pick bl C__law_draw hG hgd hr, r__law_pick⟩
theorem sc__law_lowest_pair : FnScope N__law_lowest_pair ["bag", "most"] (defScope s__law_lowest_pair) := ⟨rfl, rfl, rfl, by decide +kernel, rfl, by decide +kernel, by decide +kernel⟩
theorem der__law_lowest_pair {P : Program} {w : World} {K : PySem.W.Frag} {mg : Str → Option Value} {base : Heap} {f : Addr} {cdv : Value} {A : Around} {outer : List PySem.Env} {s : Shared} {c : C} (bl : Bl mg) (C__law_draw : Kn P w K mg base 1 "_law_draw" ["bag", "below"] S__law_draw) (hG : IsLst c) (hgd : A.guards = some []) (hr : Room 1 (A.deeper (envOfC "_law_lowest_pair" (defScope s__law_lowest_pair) s.heap.objs.size f cdv))) : PSsd (XX P w K mg base N__law_lowest_pair "_law_lowest_pair" s__law_lowest_pair f cdv A outer s c.H0) c (defBody s__law_lowest_pair) g__law_lowest_pair := by
  have hN : (XX P w K mg base N__law_lowest_pair "_law_lowest_pair" s__law_lowest_pair f cdv A outer s c.H0).N.Nodup := sc__law_lowest_pair.nd
  have hc : (XX P w K mg base N__law_lowest_pair "_law_lowest_pair" s__law_lowest_pair f cdv A outer s c.H0).calm = true := rfl
  have hx : ∀ e s1, ¬ (XX P w K mg base N__law_lowest_pair "_law_lowest_pair" s__law_lowest_pair f cdv A outer s c.H0).xe e s1 := fun _ _ z => z
  have hp : PassesOwn (model P w) (XX P w K mg base N__law_lowest_pair "_law_lowest_pair" s__law_lowest_pair f cdv A outer s c.H0).A (XX P w K mg base N__law_lowest_pair "_law_lowest_pair" s__law_lowest_pair f cdv A outer s c.H0).env (XX P w K mg base N__law_lowest_pair "_law_lowest_pair" s__law_lowest_pair f cdv A outer s c.H0).xe := PassesOwn.never
  have hu : (XX P w K mg base N__law_lowest_pair "_law_lowest_pair" s__law_lowest_pair f cdv A outer s c.H0).A.units + 64 < cLine := units_of hr
  have hu5 : (XX P w K mg base N__law_lowest_pair "_law_lowest_pair" s__law_lowest_pair f cdv A outer s c.H0).A.units + 65 < cLine := units65 hr
  exact (ss_cons (s_set 2 hN (v_bin o_add (PV.b v_int) (PV.b (v_callX C__law_draw hG hgd hr (a_bag 0 (a_cons (v_bin o_sub (b_name 1) (PV.b v_int)) a_nil)))))) (ss_cons (s_set 3 hN (v_bin o_add (PV.b v_int) (PV.b (v_callX C__law_draw hG hgd hr (a_bag 0 (a_cons (v_bin o_sub (b_name 2) (PV.b v_int)) a_nil)))))) (ss_cons (s_for hp hc (i_rng1 bl.range (b_name 2)) (g_nm 4 hN) (ss_cons (s_par 5 6 hc hN (m_v (v_name 3) (m_v (v_name 2) m_nil))) (ss_cons (s_while hp (t_cmp o_gt (b_name 6) (PV.b v_int)) (ss_one (s_par 5 6 hc hN (m_v (v_name 6) (m_v (v_bin o_mod (PV.b (v_callT c_int bl.int (bb_cons (b_name 5) bb_nil))) (b_name 6)) m_nil))))) (ss_cons (s_if (t_cmp (o_eq hu) (b_name 5) (PV.b v_int)) (ss_one s_break) ss_nil) (ss_one (s_set 3 hN (v_if (t_cmp o_lt (PV.b (v_bin o_add (b_name 3) (PV.b v_int))) (b_name 2)) (v_bin o_add (b_name 3) (PV.b v_int)) v_int))))))) (ss_one (s_ret (v_tup (d_cons (v_name 3) (d_cons (v_bin o_sub (b_name 2) (b_name 3)) d_nil))))))))
theorem ok__law_lowest_pair {P : Program} {w : World} {K : PySem.W.Frag} {mg : Str → Option Value} {base : Heap} {f : Addr} {fd : FuncData} (F : Fun K "_law_lowest_pair" "_law_lowest_pair" s__law_lowest_pair f fd) (bl : Bl mg) (C__law_draw : Kn P w K mg base 1 "_law_draw" ["bag", "below"] S__law_draw) : FnG IsLst P w K mg base 2 f fd ["bag", "most"] S__law_lowest_pair :=
  fng_of F sc__law_lowest_pair m__law_lowest_pair l__law_lowest_pair fun cdv A outer s c hG hgd hr => ⟨g__law_lowest_pair, der__law_lowest_pair bl C__law_draw hG hgd hr, r__law_lowest_pair⟩
theorem sc__law_table : FnScope N__law_table ["word"] (defScope s__law_table) := ⟨rfl, rfl, rfl, by decide +kernel, rfl, by decide +kernel, by decide +kernel⟩
theorem der__law_table {P : Program} {w : World} {K : PySem.W.Frag} {mg : Str → Option Value} {base : Heap} {f : Addr} {cdv : Value} {A : Around} {outer : List PySem.Env} {s : Shared} {c : C} (bl : Bl mg) (C__law_times : Kn P w K mg base 1 "_law_times" ["one", "other"] S__law_times) (hG : IsLst c) (hgd : A.guards = some []) (hr : Room 1 (A.deeper (envOfC "_law_table" (defScope s__law_table) s.heap.objs.size f cdv))) : PSsd (XX P w K mg base N__law_table "_law_table" s__law_table f cdv A outer s c.H0) c (defBody s__law_table) g__law_table := by
  have hN : (XX P w K mg base N__law_table "_law_table" s__law_table f cdv A outer s c.H0).N.Nodup := sc__law_table.nd
  have hc : (XX P w K mg base N__law_table "_law_table" s__law_table f cdv A outer s c.H0).calm = true := rfl
  have hx : ∀ e s1, ¬ (XX P w K mg base N__law_table "_law_table" s__law_table f cdv A outer s c.H0).xe e s1 := fun _ _ z => z
  have hp : PassesOwn (model P w) (XX P w K mg base N__law_table "_law_table" s__law_table f cdv A outer s c.H0).A (XX P w K mg base N__law_table "_law_table" s__law_table f cdv A outer s c.H0).env (XX P w K mg base N__law_table "_law_table" s__law_table f cdv A outer s c.H0).xe := PassesOwn.never
  have hu : (XX P w K mg base N__law_table "_law_table" s__law_table f cdv A outer s c.H0).A.units + 64 < cLine := units_of hr
  have hu5 : (XX P w K mg base N__law_table "_law_table" s__law_table f cdv A outer s c.H0).A.units + 65 < cLine := units65 hr
  exact (ss_cons (s_set 1 hN (v_tup (d_cons (v_tup (d_cons v_int (d_cons v_int d_nil))) (d_cons (v_tup (d_cons v_int (d_cons v_int d_nil))) d_nil)))) (ss_cons (s_for hp hc (i_seq (v_name 0)) (g_nm 2 hN) (ss_one (s_set 1 hN (v_callX C__law_times hG hgd hr (a_cons (v_name 1) (a_cons (v_if (t_cmp (o_eq hu) (b_name 2) (PV.b v_int)) (v_tup (d_cons (v_tup (d_cons v_int (d_cons v_int d_nil))) (d_cons (v_tup (d_cons v_int (d_cons v_int d_nil))) d_nil))) (v_tup (d_cons (v_tup (d_cons v_int (d_cons v_int d_nil))) (d_cons (v_tup (d_cons v_int (d_cons v_int d_nil))) d_nil)))) a_nil)))))) (ss_one (s_ret (v_name 1)))))
theorem ok__law_table {P : Program} {w : World} {K : PySem.W.Frag} {mg : Str → Option Value} {base : Heap} {f : Addr} {fd : FuncData} (F : Fun K "_law_table" "_law_table" s__law_table f fd) (bl : Bl mg) (C__law_times : Kn P w K mg base 1 "_law_times" ["one", "other"] S__law_times) : FnG IsLst P w K mg base 2 f fd ["word"] S__law_table :=
  fng_of F sc__law_table m__law_table l__law_table fun cdv A outer s c hG hgd hr => ⟨g__law_table, der__law_table bl C__law_times hG hgd hr, r__law_table⟩
theorem sc__law_all_words : FnScope N__law_all_words ["most"] (defScope s__law_all_words) := ⟨rfl, rfl, rfl, by decide +kernel, rfl, by decide +kernel, by decide +kernel⟩
theorem der__law_all_words {P : Program} {w : World} {K : PySem.W.Frag} {mg : Str → Option Value} {base : Heap} {f : Addr} {cdv : Value} {A : Around} {outer : List PySem.Env} {s : Shared} {c : C} (bl : Bl mg) (C__law_times : Kn P w K mg base 1 "_law_times" ["one", "other"] S__law_times) (hG : IsLst c) (hgd : A.guards = some []) (hr : Room 1 (A.deeper (envOfC "_law_all_words" (defScope s__law_all_words) s.heap.objs.size f cdv))) : PSsd (XX P w K mg base N__law_all_words "_law_all_words" s__law_all_words f cdv A outer s c.H0) c (defBody s__law_all_words) g__law_all_words := by
  have hN : (XX P w K mg base N__law_all_words "_law_all_words" s__law_all_words f cdv A outer s c.H0).N.Nodup := sc__law_all_words.nd
  have hc : (XX P w K mg base N__law_all_words "_law_all_words" s__law_all_words f cdv A outer s c.H0).calm = true := rfl
  have hx : ∀ e s1, ¬ (XX P w K mg base N__law_all_words "_law_all_words" s__law_all_words f cdv A outer s c.H0).xe e s1 := fun _ _ z => z
  have hp : PassesOwn (model P w) (XX P w K mg base N__law_all_words "_law_all_words" s__law_all_words f cdv A outer s c.H0).A (XX P w K mg base N__law_all_words "_law_all_words" s__law_all_words f cdv A outer s c.H0).env (XX P w K mg base N__law_all_words "_law_all_words" s__law_all_words f cdv A outer s c.H0).xe := PassesOwn.never
  have hu : (XX P w K mg base N__law_all_words "_law_all_words" s__law_all_words f cdv A outer s c.H0).A.units + 64 < cLine := units_of hr
  have hu5 : (XX P w K mg base N__law_all_words "_law_all_words" s__law_all_words f cdv A outer s c.H0).A.units + 65 < cLine := units65 hr
  exact (ss_cons (s_asg (v_tup (d_cons (v_tup (d_cons (v_tup (d_cons v_int (d_cons v_int d_nil))) (d_cons (v_tup (d_cons v_int (d_cons v_int d_nil))) d_nil))) (d_cons (v_tup (d_cons (v_tup (d_cons v_int (d_cons v_int d_nil))) (d_cons (v_tup (d_cons v_int (d_cons v_int d_nil))) d_nil))) d_nil))) (g_sq hc (gs_cons (g_nm 1 hN) (gs_cons (g_nm 2 hN) gs_nil)))) (ss_cons (s_par 3 4 hc hN (m_n (n_lst (d_cons (v_tup (d_cons v_int (d_cons (v_tup (d_cons v_int d_nil)) d_nil))) (d_cons (v_tup (d_cons v_int (d_cons (v_tup (d_cons v_int d_nil)) d_nil))) d_nil))) (m_n (n_lst (d_cons (v_tup (d_cons (v_tup (d_cons v_int d_nil)) (d_cons (v_name 1) (d_cons (v_tup (d_cons v_int d_nil)) (d_cons (v_name 2) d_nil))))) d_nil)) m_nil))) (ss_cons (s_for hp hc (i_rng1 bl.range (PV.b v_int)) (g_nm 5 hN) (ss_cons (s_if (t_cmp (o_eq hu) (b_name 4) (PV.b (PN.v (n_lst d_nil)))) (ss_one s_break) ss_nil) (ss_cons (s_pop 4 (g_sq hc (gs_cons (g_nm 6 hN) (gs_cons (g_nm 7 hN) (gs_cons (g_nm 8 hN) (gs_cons (g_nm 9 hN) gs_nil)))))) (ss_cons (s_par 10 11 hc hN (m_v (v_callX C__law_times hG hgd hr (a_cons (v_name 7) (a_cons (v_name 9) a_nil))) (m_v (v_bin o_add (b_name 6) (b_name 8)) m_nil))) (ss_one (s_if (t_cmp o_le (PV.b (v_ix (PV.b (v_ix (b_name 10) (PV.b v_int))) (PV.b v_int))) (b_name 0)) (ss_cons (s_app 3 (v_tup (d_cons (v_ix (PV.b (v_ix (b_name 10) (PV.b v_int))) (PV.b v_int)) (d_cons (v_name 11) d_nil)))) (ss_cons (s_app 4 (v_tup (d_cons (v_name 6) (d_cons (v_name 7) (d_cons (v_name 11) (d_cons (v_name 10) d_nil)))))) (ss_one (s_app 4 (v_tup (d_cons (v_name 11) (d_cons (v_name 10) (d_cons (v_name 8) (d_cons (v_name 9) d_nil))))))))) ss_nil)))))) (ss_one (s_frz 3 (s_ret (v_name 3)))))))
theorem ok__law_all_words {P : Program} {w : World} {K : PySem.W.Frag} {mg : Str → Option Value} {base : Heap} {f : Addr} {fd : FuncData} (F : Fun K "_law_all_words" "_law_all_words" s__law_all_words f fd) (bl : Bl mg) (C__law_times : Kn P w K mg base 1 "_law_times" ["one", "other"] S__law_times) : FnG IsLst P w K mg base 2 f fd ["most"] S__law_all_words :=
  fng_of F sc__law_all_words m__law_all_words l__law_all_words fun cdv A outer s c hG hgd hr => ⟨g__law_all_words, der__law_all_words bl C__law_times hG hgd hr, r__law_all_words⟩
theorem sc_markoff_number : FnScope N_markoff_number ["word"] (defScope s_markoff_number) := ⟨rfl, rfl, rfl, by decide +kernel, rfl, by decide +kernel, by decide +kernel⟩
theorem der_markoff_number {P : Program} {w : World} {K : PySem.W.Frag} {mg : Str → Option Value} {base : Heap} {f : Addr} {cdv : Value} {A : Around} {outer : List PySem.Env} {s : Shared} {c : C} (bl : Bl mg) (C_word_table : Kn P w K mg base 2 "word_table" ["word"] S_word_table) (hG : IsLst c) (hgd : A.guards = some []) (hr : Room 2 (A.deeper (envOfC "markoff_number" (defScope s_markoff_number) s.heap.objs.size f cdv))) : PSsd (XX P w K mg base N_markoff_number "markoff_number" s_markoff_number f cdv A outer s c.H0) c (defBody s_markoff_number) g_markoff_number := by
  have hN : (XX P w K mg base N_markoff_number "markoff_number" s_markoff_number f cdv A outer s c.H0).N.Nodup := sc_markoff_number.nd
  have hc : (XX P w K mg base N_markoff_number "markoff_number" s_markoff_number f cdv A outer s c.H0).calm = true := rfl
  have hx : ∀ e s1, ¬ (XX P w K mg base N_markoff_number "markoff_number" s_markoff_number f cdv A outer s c.H0).xe e s1 := fun _ _ z => z
  have hp : PassesOwn (model P w) (XX P w K mg base N_markoff_number "markoff_number" s_markoff_number f cdv A outer s c.H0).A (XX P w K mg base N_markoff_number "markoff_number" s_markoff_number f cdv A outer s c.H0).env (XX P w K mg base N_markoff_number "markoff_number" s_markoff_number f cdv A outer s c.H0).xe := PassesOwn.never
  have hu : (XX P w K mg base N_markoff_number "markoff_number" s_markoff_number f cdv A outer s c.H0).A.units + 64 < cLine := units_of hr
  have hu5 : (XX P w K mg base N_markoff_number "markoff_number" s_markoff_number f cdv A outer s c.H0).A.units + 65 < cLine := units65 hr
  exact (ss_one (s_ret (v_ix (PV.b (v_ix (PV.b (v_callX C_word_table hG hgd hr (a_cons (v_name 0) a_nil))) (PV.b v_int))) (PV.b v_int))))
theorem ok_markoff_number {P : Program} {w : World} {K : PySem.W.Frag} {mg : Str → Option Value} {base : Heap} {f : Addr} {fd : FuncData} (F : Fun K "markoff_number" "markoff_number" s_markoff_number f fd) (bl : Bl mg) (C_word_table : Kn P w K mg base 2 "word_table" ["word"] S_word_table) : FnG IsLst P w K mg base 3 f fd ["word"] S_markoff_number :=
  fng_of F sc_markoff_number m_markoff_number l_markoff_number fun cdv A outer s c hG hgd hr => ⟨g_markoff_number, der_markoff_number bl C_word_table hG hgd hr, r_markoff_number⟩
theorem sc__law_own_word : FnScope N__law_own_word ["bag"] (defScope s__law_own_word) := ⟨rfl, rfl, rfl, by decide +kernel, rfl, by decide +kernel, by decide +kernel⟩
theorem der__law_own_word {P : Program} {w : World} {K : PySem.W.Frag} {mg : Str → Option Value} {base : Heap} {f : Addr} {cdv : Value} {A : Around} {outer : List PySem.Env} {s : Shared} {c : C} (bl : Bl mg) (C__law_pick : Kn P w K mg base 2 "_law_pick" ["bag", "some"] S__law_pick) (C__law_draw : Kn P w K mg base 2 "_law_draw" ["bag", "below"] S__law_draw) (hG : IsLst c) (hgd : A.guards = some []) (hr : Room 2 (A.deeper (envOfC "_law_own_word" (defScope s__law_own_word) s.heap.objs.size f cdv))) : PSsd (XX P w K mg base N__law_own_word "_law_own_word" s__law_own_word f cdv A outer s c.H0) c (defBody s__law_own_word) g__law_own_word := by
  have hN : (XX P w K mg base N__law_own_word "_law_own_word" s__law_own_word f cdv A outer s c.H0).N.Nodup := sc__law_own_word.nd
  have hc : (XX P w K mg base N__law_own_word "_law_own_word" s__law_own_word f cdv A outer s c.H0).calm = true := rfl
  have hx : ∀ e s1, ¬ (XX P w K mg base N__law_own_word "_law_own_word" s__law_own_word f cdv A outer s c.H0).xe e s1 := fun _ _ z => z
  have hp : PassesOwn (model P w) (XX P w K mg base N__law_own_word "_law_own_word" s__law_own_word f cdv A outer s c.H0).A (XX P w K mg base N__law_own_word "_law_own_word" s__law_own_word f cdv A outer s c.H0).env (XX P w K mg base N__law_own_word "_law_own_word" s__law_own_word f cdv A outer s c.H0).xe := PassesOwn.never
  have hu : (XX P w K mg base N__law_own_word "_law_own_word" s__law_own_word f cdv A outer s c.H0).A.units + 64 < cLine := units_of hr
  have hu5 : (XX P w K mg base N__law_own_word "_law_own_word" s__law_own_word f cdv A outer s c.H0).A.units + 65 < cLine := units65 hr
  exact (ss_cons (s_set 1 hN (v_callX C__law_pick hG hgd hr (a_bag 0 (a_cons (PN.v (n_lst (d_cons (v_callX C__law_draw hG hgd hr (a_bag 0 (a_cons v_int a_nil))) (d_cons (v_callX C__law_draw hG hgd hr (a_bag 0 (a_cons v_int a_nil))) (d_cons (v_callX C__law_draw hG hgd hr (a_bag 0 (a_cons v_int a_nil))) (d_cons (v_callX C__law_draw hG hgd hr (a_bag 0 (a_cons v_int a_nil))) (d_cons v_int d_nil))))))) a_nil)))) (ss_cons (s_set 2 hN (v_callX C__law_draw hG hgd hr (a_bag 0 (a_cons v_int a_nil)))) (ss_cons (s_if (t_cmp (o_eq hu) (b_name 2) (PV.b v_int)) (ss_one (s_ret (v_bin o_repT (PV.b (v_tup (d_cons (v_callX C__law_draw hG hgd hr (a_bag 0 (a_cons v_int a_nil))) d_nil))) (b_name 1)))) ss_nil) (ss_one (s_ret (v_callT c_tuple bl.tuple (bb_cons (PV.b (PN.v (n_lc hc hN (own := [("k", 3)]) (by first | rfl | decide +kernel) (i_rng1 bl.range (b_name 1)) (fun _ _ _ _ _ => (g_nm 3 (by exact hN))) (fun _ _ _ _ _ => ts_nil) (fun _ _ _ _ _ => (v_callX C__law_draw hG (by exact hgd) (by exact hr) (a_bag 0 (a_cons v_int a_nil))))))) bb_nil)))))))
theorem ok__law_own_word {P : Program} {w : World} {K : PySem.W.Frag} {mg : Str → Option Value} {base : Heap} {f : Addr} {fd : FuncData} (F : Fun K "_law_own_word" "_law_own_word" s__law_own_word f fd) (bl : Bl mg) (C__law_pick : Kn P w K mg base 2 "_law_pick" ["bag", "some"] S__law_pick) (C__law_draw : Kn P w K mg base 2 "_law_draw" ["bag", "below"] S__law_draw) : FnG IsLst P w K mg base 3 f fd ["bag"] S__law_own_word :=
  fng_of F sc__law_own_word m__law_own_word l__law_own_word fun cdv A outer s c hG hgd hr => ⟨g__law_own_word, der__law_own_word bl C__law_pick C__law_draw hG hgd hr, r__law_own_word⟩
theorem sc__law_own_pair : FnScope N__law_own_pair ["bag"] (defScope s__law_own_pair) := ⟨rfl, rfl, rfl, by decide +kernel, rfl, by decide +kernel, by decide +kernel⟩
theorem der__law_own_pair {P : Program} {w : World} {K : PySem.W.Frag} {mg : Str → Option Value} {base : Heap} {f : Addr} {cdv : Value} {A : Around} {outer : List PySem.Env} {s : Shared} {c : C} (bl : Bl mg) (C__law_draw : Kn P w K mg base 2 "_law_draw" ["bag", "below"] S__law_draw) (C__law_lowest_pair : Kn P w K mg base 2 "_law_lowest_pair" ["bag", "most"] S__law_lowest_pair) (C__law_pick : Kn P w K mg base 2 "_law_pick" ["bag", "some"] S__law_pick) (hG : IsLst c) (hgd : A.guards = some []) (hr : Room 2 (A.deeper (envOfC "_law_own_pair" (defScope s__law_own_pair) s.heap.objs.size f cdv))) : PSsd (XX P w K mg base N__law_own_pair "_law_own_pair" s__law_own_pair f cdv A outer s c.H0) c (defBody s__law_own_pair) g__law_own_pair := by
  have hN : (XX P w K mg base N__law_own_pair "_law_own_pair" s__law_own_pair f cdv A outer s c.H0).N.Nodup := sc__law_own_pair.nd
  have hc : (XX P w K mg base N__law_own_pair "_law_own_pair" s__law_own_pair f cdv A outer s c.H0).calm = true := rfl
  have hx : ∀ e s1, ¬ (XX P w K mg base N__law_own_pair "_law_own_pair" s__law_own_pair f cdv A outer s c.H0).xe e s1 := fun _ _ z => z
  have hp : PassesOwn (model P w) (XX P w K mg base N__law_own_pair "_law_own_pair" s__law_own_pair f cdv A outer s c.H0).A (XX P w K mg base N__law_own_pair "_law_own_pair" s__law_own_pair f cdv A outer s c.H0).env (XX P w K mg base N__law_own_pair "_law_own_pair" s__law_own_pair f cdv A outer s c.H0).xe := PassesOwn.never
  have hu : (XX P w K mg base N__law_own_pair "_law_own_pair" s__law_own_pair f cdv A outer s c.H0).A.units + 64 < cLine := units_of hr
  have hu5 : (XX P w K mg base N__law_own_pair "_law_own_pair" s__law_own_pair f cdv A outer s c.H0).A.units + 65 < cLine := units65 hr
  exact (ss_cons (s_set 1 hN (v_callX C__law_draw hG hgd hr (a_bag 0 (a_cons v_int a_nil)))) (ss_cons (s_if (t_cmp (o_eq hu) (b_name 1) (PV.b v_int)) (ss_one (s_ret (v_tup (d_cons v_int (d_cons (v_bin o_add (PV.b v_int) (PV.b (v_callX C__law_draw hG hgd hr (a_bag 0 (a_cons v_int a_nil))))) d_nil))))) ss_nil) (ss_cons (s_if (t_cmp (o_eq hu) (b_name 1) (PV.b v_int)) (ss_one (s_ret (v_tup (d_cons (v_bin o_add (PV.b v_int) (PV.b (v_callX C__law_draw hG hgd hr (a_bag 0 (a_cons v_int a_nil))))) (d_cons v_int d_nil))))) ss_nil) (ss_one (s_ret (v_callX C__law_lowest_pair hG hgd hr (a_bag 0 (a_cons (v_callX C__law_pick hG hgd hr (a_bag 0 (a_cons (PN.v (n_lst (d_cons v_int (d_cons v_int (d_cons v_int (d_cons v_int d_nil)))))) a_nil))) a_nil))))))))
theorem ok__law_own_pair {P : Program} {w : World} {K : PySem.W.Frag} {mg : Str → Option Value} {base : Heap} {f : Addr} {fd : FuncData} (F : Fun K "_law_own_pair" "_law_own_pair" s__law_own_pair f fd) (bl : Bl mg) (C__law_draw : Kn P w K mg base 2 "_law_draw" ["bag", "below"] S__law_draw) (C__law_lowest_pair : Kn P w K mg base 2 "_law_lowest_pair" ["bag", "most"] S__law_lowest_pair) (C__law_pick : Kn P w K mg base 2 "_law_pick" ["bag", "some"] S__law_pick) : FnG IsLst P w K mg base 3 f fd ["bag"] S__law_own_pair :=
  fng_of F sc__law_own_pair m__law_own_pair l__law_own_pair fun cdv A outer s c hG hgd hr => ⟨g__law_own_pair, der__law_own_pair bl C__law_draw C__law_lowest_pair C__law_pick hG hgd hr, r__law_own_pair⟩
theorem sc_word_triple : FnScope N_word_triple ["word"] (defScope s_word_triple) := ⟨rfl, rfl, rfl, by decide +kernel, rfl, by decide +kernel, by decide +kernel⟩
theorem der_word_triple {P : Program} {w : World} {K : PySem.W.Frag} {mg : Str → Option Value} {base : Heap} {f : Addr} {cdv : Value} {A : Around} {outer : List PySem.Env} {s : Shared} {c : C} (bl : Bl mg) (C_factor_pair : Kn P w K mg base 3 "factor_pair" ["word"] S_factor_pair) (C_markoff_number : Kn P w K mg base 3 "markoff_number" ["word"] S_markoff_number) (hG : IsLst c) (hgd : A.guards = some []) (hr : Room 3 (A.deeper (envOfC "word_triple" (defScope s_word_triple) s.heap.objs.size f cdv))) : PSsd (XX P w K mg base N_word_triple "word_triple" s_word_triple f cdv A outer s c.H0) c (defBody s_word_triple) g_word_triple := by
  have hN : (XX P w K mg base N_word_triple "word_triple" s_word_triple f cdv A outer s c.H0).N.Nodup := sc_word_triple.nd
  have hc : (XX P w K mg base N_word_triple "word_triple" s_word_triple f cdv A outer s c.H0).calm = true := rfl
  have hx : ∀ e s1, ¬ (XX P w K mg base N_word_triple "word_triple" s_word_triple f cdv A outer s c.H0).xe e s1 := fun _ _ z => z
  have hp : PassesOwn (model P w) (XX P w K mg base N_word_triple "word_triple" s_word_triple f cdv A outer s c.H0).A (XX P w K mg base N_word_triple "word_triple" s_word_triple f cdv A outer s c.H0).env (XX P w K mg base N_word_triple "word_triple" s_word_triple f cdv A outer s c.H0).xe := PassesOwn.never
  have hu : (XX P w K mg base N_word_triple "word_triple" s_word_triple f cdv A outer s c.H0).A.units + 64 < cLine := units_of hr
  have hu5 : (XX P w K mg base N_word_triple "word_triple" s_word_triple f cdv A outer s c.H0).A.units + 65 < cLine := units65 hr
  exact (ss_cons (s_asg (v_callX C_factor_pair hG hgd hr (a_cons (v_name 0) a_nil)) (g_sq hc (gs_cons (g_nm 1 hN) (gs_cons (g_nm 2 hN) gs_nil)))) (ss_one (s_ret (v_callT c_tuple bl.tuple (bb_cons (PV.b (PN.v (n_sorted bl.sorted (PV.b (PN.v (n_lc hc hN (own := [("own", 3)]) (by first | rfl | decide +kernel) (i_seq (v_tup (d_cons (v_name 1) (d_cons (v_name 2) (d_cons (v_name 0) d_nil))))) (fun _ _ _ _ _ => (g_nm 3 (by exact hN))) (fun _ _ _ _ _ => ts_nil) (fun _ _ _ _ _ => (v_callX C_markoff_number hG (by exact hgd) (by exact hr) (a_cons (v_name 3) a_nil))))))))) bb_nil)))))
theorem ok_word_triple {P : Program} {w : World} {K : PySem.W.Frag} {mg : Str → Option Value} {base : Heap} {f : Addr} {fd : FuncData} (F : Fun K "word_triple" "word_triple" s_word_triple f fd) (bl : Bl mg) (C_factor_pair : Kn P w K mg base 3 "factor_pair" ["word"] S_factor_pair) (C_markoff_number : Kn P w K mg base 3 "markoff_number" ["word"] S_markoff_number) : FnG IsLst P w K mg base 4 f fd ["word"] S_word_triple :=
  fng_of F sc_word_triple m_word_triple l_word_triple fun cdv A outer s c hG hgd hr => ⟨g_word_triple, der_word_triple bl C_factor_pair C_markoff_number hG hgd hr, r_word_triple⟩
theorem sc_words_of_number : FnScope N_words_of_number ["number"] (defScope s_words_of_number) := ⟨rfl, rfl, rfl, by decide +kernel, rfl, by decide +kernel, by decide +kernel⟩
theorem der_words_of_number {P : Program} {w : World} {K : PySem.W.Frag} {mg : Str → Option Value} {base : Heap} {f : Addr} {cdv : Value} {A : Around} {outer : List PySem.Env} {s : Shared} {c : C} (bl : Bl mg) (C_markoff_number : Kn P w K mg base 3 "markoff_number" ["word"] S_markoff_number) (C_word_table : Kn P w K mg base 3 "word_table" ["word"] S_word_table) (C_table_times : Kn P w K mg base 3 "table_times" ["one", "other"] S_table_times) (hG : IsLst c) (hgd : A.guards = some []) (hr : Room 3 (A.deeper (envOfC "words_of_number" (defScope s_words_of_number) s.heap.objs.size f cdv))) : PSsd (XX P w K mg base N_words_of_number "words_of_number" s_words_of_number f cdv A outer s c.H0) c (defBody s_words_of_number) g_words_of_number := by
  have hN : (XX P w K mg base N_words_of_number "words_of_number" s_words_of_number f cdv A outer s c.H0).N.Nodup := sc_words_of_number.nd
  have hc : (XX P w K mg base N_words_of_number "words_of_number" s_words_of_number f cdv A outer s c.H0).calm = true := rfl
  have hx : ∀ e s1, ¬ (XX P w K mg base N_words_of_number "words_of_number" s_words_of_number f cdv A outer s c.H0).xe e s1 := fun _ _ z => z
  have hp : PassesOwn (model P w) (XX P w K mg base N_words_of_number "words_of_number" s_words_of_number f cdv A outer s c.H0).A (XX P w K mg base N_words_of_number "words_of_number" s_words_of_number f cdv A outer s c.H0).env (XX P w K mg base N_words_of_number "words_of_number" s_words_of_number f cdv A outer s c.H0).xe := PassesOwn.never
  have hu : (XX P w K mg base N_words_of_number "words_of_number" s_words_of_number f cdv A outer s c.H0).A.units + 64 < cLine := units_of hr
  have hu5 : (XX P w K mg base N_words_of_number "words_of_number" s_words_of_number f cdv A outer s c.H0).A.units + 65 < cLine := units65 hr
  exact (ss_cons (s_lc 1 hc hN (own := [("word", 2)]) (by first | rfl | decide +kernel) (i_seq (v_tup (d_cons (v_tup (d_cons v_int d_nil)) (d_cons (v_tup (d_cons v_int d_nil)) d_nil)))) (fun _ _ _ _ _ => (g_nm 2 (by exact hN))) (fun _ _ _ _ _ => (ts_one (t_cmp (o_eq (by exact (by exact hu))) (PV.b (v_callX C_markoff_number hG (by exact hgd) (by exact hr) (a_cons (v_name 2) a_nil))) (b_name 0)))) (fun _ _ _ _ _ => (v_name 2))) (ss_cons (s_setN 3 hN (n_lst (d_cons (v_tup (d_cons (v_tup (d_cons v_int d_nil)) (d_cons (v_callX C_word_table hG hgd hr (a_cons (v_tup (d_cons v_int d_nil)) a_nil)) (d_cons (v_tup (d_cons v_int d_nil)) (d_cons (v_callX C_word_table hG hgd hr (a_cons (v_tup (d_cons v_int d_nil)) a_nil)) d_nil))))) d_nil))) (ss_cons (s_while hp (t_cmp (o_ne hu) (b_name 3) (PV.b (PN.v (n_lst d_nil)))) (ss_cons (s_pop 3 (g_sq hc (gs_cons (g_nm 4 hN) (gs_cons (g_nm 5 hN) (gs_cons (g_nm 6 hN) (gs_cons (g_nm 7 hN) gs_nil)))))) (ss_cons (s_par 2 8 hc hN (m_v (v_bin o_add (b_name 4) (b_name 6)) (m_v (v_callX C_table_times hG hgd hr (a_cons (v_name 5) (a_cons (v_name 7) a_nil))) m_nil))) (ss_one (s_if (t_cmp o_le (PV.b (v_ix (PV.b (v_ix (b_name 8) (PV.b v_int))) (PV.b v_int))) (b_name 0)) (ss_cons (s_ext 1 (PV.b (v_if (t_cmp (o_eq hu) (PV.b (v_ix (PV.b (v_ix (b_name 8) (PV.b v_int))) (PV.b v_int))) (b_name 0)) (PN.v (n_lst (d_cons (v_name 2) d_nil))) (PN.v (n_lst d_nil))))) (ss_one (s_ext 3 (PV.b (PN.v (n_lst (d_cons (v_tup (d_cons (v_name 4) (d_cons (v_name 5) (d_cons (v_name 2) (d_cons (v_name 8) d_nil))))) (d_cons (v_tup (d_cons (v_name 2) (d_cons (v_name 8) (d_cons (v_name 6) (d_cons (v_name 7) d_nil))))) d_nil)))))))) ss_nil))))) (ss_one (s_ret (v_callT c_tuple bl.tuple (bb_cons (PV.b (PN.v (n_sorted bl.sorted (b_name 1)))) bb_nil)))))))
theorem ok_words_of_number {P : Program} {w : World} {K : PySem.W.Frag} {mg : Str → Option Value} {base : Heap} {f : Addr} {fd : FuncData} (F : Fun K "words_of_number" "words_of_number" s_words_of_number f fd) (bl : Bl mg) (C_markoff_number : Kn P w K mg base 3 "markoff_number" ["word"] S_markoff_number) (C_word_table : Kn P w K mg base 3 "word_table" ["word"] S_word_table) (C_table_times : Kn P w K mg base 3 "table_times" ["one", "other"] S_table_times) : FnG IsLst P w K mg base 4 f fd ["number"] S_words_of_number :=
  fng_of F sc_words_of_number m_words_of_number l_words_of_number fun cdv A outer s c hG hgd hr => ⟨g_words_of_number, der_words_of_number bl C_markoff_number C_word_table C_table_times hG hgd hr, r_words_of_number⟩
theorem sc__law_is_word_right : FnScope N__law_is_word_right ["word", "is_named"] (defScope s__law_is_word_right) := ⟨rfl, rfl, rfl, by decide +kernel, rfl, by decide +kernel, by decide +kernel⟩
theorem der__law_is_word_right {P : Program} {w : World} {K : PySem.W.Frag} {mg : Str → Option Value} {base : Heap} {f : Addr} {cdv : Value} {A : Around} {outer : List PySem.Env} {s : Shared} {c : C} (bl : Bl mg) (C__law_table : Kn P w K mg base 3 "_law_table" ["word"] S__law_table) (C_markoff_number : Kn P w K mg base 3 "markoff_number" ["word"] S_markoff_number) (C_word_table : Kn P w K mg base 3 "word_table" ["word"] S_word_table) (K_markoff_number_word : KnK P w K mg base 3 "markoff_number" ["word"] ["word"] [0] S_markoff_number) (K_word_table_word : KnK P w K mg base 3 "word_table" ["word"] ["word"] [0] S_word_table) (hG : IsLst c) (hgd : A.guards = some []) (hr : Room 3 (A.deeper (envOfC "_law_is_word_right" (defScope s__law_is_word_right) s.heap.objs.size f cdv))) : PSsd (XX P w K mg base N__law_is_word_right "_law_is_word_right" s__law_is_word_right f cdv A outer s c.H0) c (defBody s__law_is_word_right) g__law_is_word_right := by
  have hN : (XX P w K mg base N__law_is_word_right "_law_is_word_right" s__law_is_word_right f cdv A outer s c.H0).N.Nodup := sc__law_is_word_right.nd
  have hc : (XX P w K mg base N__law_is_word_right "_law_is_word_right" s__law_is_word_right f cdv A outer s c.H0).calm = true := rfl
  have hx : ∀ e s1, ¬ (XX P w K mg base N__law_is_word_right "_law_is_word_right" s__law_is_word_right f cdv A outer s c.H0).xe e s1 := fun _ _ z => z
  have hp : PassesOwn (model P w) (XX P w K mg base N__law_is_word_right "_law_is_word_right" s__law_is_word_right f cdv A outer s c.H0).A (XX P w K mg base N__law_is_word_right "_law_is_word_right" s__law_is_word_right f cdv A outer s c.H0).env (XX P w K mg base N__law_is_word_right "_law_is_word_right" s__law_is_word_right f cdv A outer s c.H0).xe := PassesOwn.never
  have hu : (XX P w K mg base N__law_is_word_right "_law_is_word_right" s__law_is_word_right f cdv A outer s c.H0).A.units + 64 < cLine := units_of hr
  have hu5 : (XX P w K mg base N__law_is_word_right "_law_is_word_right" s__law_is_word_right f cdv A outer s c.H0).A.units + 65 < cLine := units65 hr
  exact (ss_cons (s_set 2 hN (v_callX C__law_table hG hgd hr (a_cons (v_name 0) a_nil))) (ss_cons (s_if (t_val (b_name 1)) (ss_one (s_set 3 hN (PN.v (n_lst (d_cons (v_callKX K_word_table_word hG hgd hr (k_cons (v_name 0) k_nil)) (d_cons (v_callKX K_markoff_number_word hG hgd hr (k_cons (v_name 0) k_nil)) d_nil)))))) (ss_one (s_set 3 hN (PN.v (n_lst (d_cons (v_callX C_word_table hG hgd hr (a_cons (v_name 0) a_nil)) (d_cons (v_callX C_markoff_number hG hgd hr (a_cons (v_name 0) a_nil)) d_nil))))))) (ss_one (s_ret (v_cmp (o_eq hu) (PV.b (v_callB (c_repr hgd hu) bl.repr (bb_cons (b_name 3) bb_nil))) (PV.b (v_callB (c_repr hgd hu) bl.repr (bb_cons (PV.b (PN.v (n_lst (d_cons (v_name 2) (d_cons (v_ix (PV.b (v_ix (b_name 2) (PV.b v_int))) (PV.b v_int)) d_nil))))) bb_nil))))))))
theorem ok__law_is_word_right {P : Program} {w : World} {K : PySem.W.Frag} {mg : Str → Option Value} {base : Heap} {f : Addr} {fd : FuncData} (F : Fun K "_law_is_word_right" "_law_is_word_right" s__law_is_word_right f fd) (bl : Bl mg) (C__law_table : Kn P w K mg base 3 "_law_table" ["word"] S__law_table) (C_markoff_number : Kn P w K mg base 3 "markoff_number" ["word"] S_markoff_number) (C_word_table : Kn P w K mg base 3 "word_table" ["word"] S_word_table) (K_markoff_number_word : KnK P w K mg base 3 "markoff_number" ["word"] ["word"] [0] S_markoff_number) (K_word_table_word : KnK P w K mg base 3 "word_table" ["word"] ["word"] [0] S_word_table) : FnG IsLst P w K mg base 4 f fd ["word", "is_named"] S__law_is_word_right :=
  fng_of F sc__law_is_word_right m__law_is_word_right l__law_is_word_right fun cdv A outer s c hG hgd hr => ⟨g__law_is_word_right, der__law_is_word_right bl C__law_table C_markoff_number C_word_table K_markoff_number_word K_word_table_word hG hgd hr, r__law_is_word_right⟩
theorem sc__law_are_triples_right : FnScope N__law_are_triples_right ["bag", "known"] (defScope s__law_are_triples_right) := ⟨rfl, rfl, rfl, by decide +kernel, rfl, by decide +kernel, by decide +kernel⟩
theorem der__law_are_triples_right {P : Program} {w : World} {K : PySem.W.Frag} {mg : Str → Option Value} {base : Heap} {f : Addr} {cdv : Value} {A : Around} {outer : List PySem.Env} {s : Shared} {c : C} (bl : Bl mg) (C__law_own_pair : Kn P w K mg base 4 "_law_own_pair" ["bag"] S__law_own_pair) (C__law_parts : Kn P w K mg base 4 "_law_parts" ["p", "q"] S__law_parts) (C__law_even_word : Kn P w K mg base 4 "_law_even_word" ["p", "q"] S__law_even_word) (C__law_table : Kn P w K mg base 4 "_law_table" ["word"] S__law_table) (C_word_triple : Kn P w K mg base 4 "word_triple" ["word"] S_word_triple) (C__law_is_word_right : Kn P w K mg base 4 "_law_is_word_right" ["word", "is_named"] S__law_is_word_right) (C_words_of_number : Kn P w K mg base 4 "words_of_number" ["number"] S_words_of_number) (K_word_triple_word : KnK P w K mg base 4 "word_triple" ["word"] ["word"] [0] S_word_triple) (hG : IsLst c) (hgd : A.guards = some []) (hr : Room 4 (A.deeper (envOfC "_law_are_triples_right" (defScope s__law_are_triples_right) s.heap.objs.size f cdv))) : PSsd (XX P w K mg base N__law_are_triples_right "_law_are_triples_right" s__law_are_triples_right f cdv A outer s c.H0) c (defBody s__law_are_triples_right) g__law_are_triples_right := by
  have hN : (XX P w K mg base N__law_are_triples_right "_law_are_triples_right" s__law_are_triples_right f cdv A outer s c.H0).N.Nodup := sc__law_are_triples_right.nd
  have hc : (XX P w K mg base N__law_are_triples_right "_law_are_triples_right" s__law_are_triples_right f cdv A outer s c.H0).calm = true := rfl
  have hx : ∀ e s1, ¬ (XX P w K mg base N__law_are_triples_right "_law_are_triples_right" s__law_are_triples_right f cdv A outer s c.H0).xe e s1 := fun _ _ z => z
  have hp : PassesOwn (model P w) (XX P w K mg base N__law_are_triples_right "_law_are_triples_right" s__law_are_triples_right f cdv A outer s c.H0).A (XX P w K mg base N__law_are_triples_right "_law_are_triples_right" s__law_are_triples_right f cdv A outer s c.H0).env (XX P w K mg base N__law_are_triples_right "_law_are_triples_right" s__law_are_triples_right f cdv A outer s c.H0).xe := PassesOwn.never
  have hu : (XX P w K mg base N__law_are_triples_right "_law_are_triples_right" s__law_are_triples_right f cdv A outer s c.H0).A.units + 64 < cLine := units_of hr
  have hu5 : (XX P w K mg base N__law_are_triples_right "_law_are_triples_right" s__law_are_triples_right f cdv A outer s c.H0).A.units + 65 < cLine := units65 hr
  exact (ss_cons (s_lc 2 hc hN (own := [("number", 3), ("word", 4)]) (by first | rfl | decide +kernel) (i_seq (v_name 1)) (fun _ _ _ _ _ => (g_sq (by exact hc) (gs_cons (g_nm 3 (by exact hN)) (gs_cons (g_nm 4 (by exact hN)) gs_nil)))) (fun _ _ _ _ _ => ts_nil) (fun _ _ _ _ _ => (v_name 3))) (ss_cons (s_for hp hc (i_rng1 bl.range (PV.b v_int)) (g_nm 5 hN) (ss_cons (s_asg (v_callX C__law_own_pair hG hgd hr (a_bag 0 a_nil)) (g_sq hc (gs_cons (g_nm 6 hN) (gs_cons (g_nm 7 hN) gs_nil)))) (ss_cons (s_asg (v_callX C__law_parts hG hgd hr (a_cons (v_name 6) (a_cons (v_name 7) a_nil))) (g_sq hc (gs_cons (g_nm 8 hN) (gs_cons (g_nm 9 hN) gs_nil)))) (ss_cons (s_set 4 hN (v_callX C__law_even_word hG hgd hr (a_cons (v_name 6) (a_cons (v_name 7) a_nil)))) (ss_cons (s_set 10 hN (PN.v (n_sorted bl.sorted (PV.b (PN.v (n_lst (d_cons (v_ix (PV.b (v_ix (PV.b (v_callX C__law_table hG hgd hr (a_cons (v_name 8) a_nil))) (PV.b v_int))) (PV.b v_int)) (d_cons (v_ix (PV.b (v_ix (PV.b (v_callX C__law_table hG hgd hr (a_cons (v_name 9) a_nil))) (PV.b v_int))) (PV.b v_int)) (d_cons (v_ix (PV.b (v_ix (PV.b (v_callX C__law_table hG hgd hr (a_cons (v_name 4) a_nil))) (PV.b v_int))) (PV.b v_int)) d_nil))))))))) (ss_cons (s_if (PWd.t (w_or (t_cmp (o_ne hu) (PV.b (v_bin o_add (b_name 8) (b_name 9))) (b_name 4)) (w_or1 (t_cmp (o_ne hu) (PV.b (v_callB (c_repr hgd hu) bl.repr (bb_cons (PV.b (v_if (t_cmp (o_eq hu) (b_name 5) (PV.b v_int)) (v_callKX K_word_triple_word hG hgd hr (k_cons (v_name 4) k_nil)) (v_callX C_word_triple hG hgd hr (a_cons (v_name 4) a_nil)))) bb_nil))) (PV.b (v_callB (c_repr hgd hu) bl.repr (bb_cons (PV.b (v_callT c_tuple bl.tuple (bb_cons (b_name 10) bb_nil))) bb_nil))))))) (ss_one (s_ret v_bl)) ss_nil) (ss_cons (s_asg (v_name 10) (g_sq hc (gs_cons (g_nm 11 hN) (gs_cons (g_nm 12 hN) (gs_cons (g_nm 13 hN) gs_nil))))) (ss_cons (s_if (PWd.t (w_or (t_cmp (o_ne hu) (PV.b (v_bin o_add (PV.b (v_bin o_add (PV.b (v_bin o_mul (b_name 11) (b_name 11))) (PV.b (v_bin o_mul (b_name 12) (b_name 12))))) (PV.b (v_bin o_mul (b_name 13) (b_name 13))))) (PV.b (v_bin o_mul (PV.b (v_bin o_mul (PV.b (v_bin o_mul (PV.b v_int) (b_name 11))) (b_name 12))) (b_name 13)))) (w_or1 (t_not (t_val (PV.b (v_callX C__law_is_word_right hG hgd hr (a_cons (v_name 4) (a_cons (v_cmp (o_eq hu) (b_name 5) (PV.b v_int)) a_nil))))))))) (ss_one (s_ret v_bl)) ss_nil) (ss_one (s_if (PWd.t (w_and (t_cmp o_le (b_name 13) (PV.b (v_bin o_pow (PV.b v_int) (PV.b v_int)))) (w_and1 (PWd.t (w_or (t_cmp (o_notIn hu5) (b_name 13) (b_name 2)) (w_or1 (t_cmp (o_ne hu) (PV.b (v_callB (c_repr hgd hu) bl.repr (bb_cons (PV.b (v_callX C_words_of_number hG hgd hr (a_cons (v_name 13) a_nil))) bb_nil))) (PV.b (v_callB (c_repr hgd hu) bl.repr (bb_cons (PV.b (v_tup (d_cons (v_name 4) d_nil))) bb_nil)))))))))) (ss_one (s_ret v_bl)) ss_nil)))))))))) (ss_one (s_ret v_bl))))
theorem ok__law_are_triples_right {P : Program} {w : World} {K : PySem.W.Frag} {mg : Str → Option Value} {base : Heap} {f : Addr} {fd : FuncData} (F : Fun K "_law_are_triples_right" "_law_are_triples_right" s__law_are_triples_right f fd) (bl : Bl mg) (C__law_own_pair : Kn P w K mg base 4 "_law_own_pair" ["bag"] S__law_own_pair) (C__law_parts : Kn P w K mg base 4 "_law_parts" ["p", "q"] S__law_parts) (C__law_even_word : Kn P w K mg base 4 "_law_even_word" ["p", "q"] S__law_even_word) (C__law_table : Kn P w K mg base 4 "_law_table" ["word"] S__law_table) (C_word_triple : Kn P w K mg base 4 "word_triple" ["word"] S_word_triple) (C__law_is_word_right : Kn P w K mg base 4 "_law_is_word_right" ["word", "is_named"] S__law_is_word_right) (C_words_of_number : Kn P w K mg base 4 "words_of_number" ["number"] S_words_of_number) (K_word_triple_word : KnK P w K mg base 4 "word_triple" ["word"] ["word"] [0] S_word_triple) : FnG IsLst P w K mg base 5 f fd ["bag", "known"] S__law_are_triples_right :=
  fng_of F sc__law_are_triples_right m__law_are_triples_right l__law_are_triples_right fun cdv A outer s c hG hgd hr => ⟨g__law_are_triples_right, der__law_are_triples_right bl C__law_own_pair C__law_parts C__law_even_word C__law_table C_word_triple C__law_is_word_right C_words_of_number K_word_triple_word hG hgd hr, r__law_are_triples_right⟩
theorem sc__law_are_numbers_right : FnScope N__law_are_numbers_right ["bag", "known"] (defScope s__law_are_numbers_right) := ⟨rfl, rfl, rfl, by decide +kernel, rfl, by decide +kernel, by decide +kernel⟩
theorem der__law_are_numbers_right {P : Program} {w : World} {K : PySem.W.Frag} {mg : Str → Option Value} {base : Heap} {f : Addr} {cdv : Value} {A : Around} {outer : List PySem.Env} {s : Shared} {c : C} (bl : Bl mg) (C__law_pick : Kn P w K mg base 4 "_law_pick" ["bag", "some"] S__law_pick) (C__law_draw : Kn P w K mg base 4 "_law_draw" ["bag", "below"] S__law_draw) (C_words_of_number : Kn P w K mg base 4 "words_of_number" ["number"] S_words_of_number) (C_markoff_number : Kn P w K mg base 4 "markoff_number" ["word"] S_markoff_number) (C_word_table : Kn P w K mg base 4 "word_table" ["word"] S_word_table) (C__law_table : Kn P w K mg base 4 "_law_table" ["word"] S__law_table) (K_words_of_number_number : KnK P w K mg base 4 "words_of_number" ["number"] ["number"] [0] S_words_of_number) (hG : IsLst c) (hgd : A.guards = some []) (hr : Room 4 (A.deeper (envOfC "_law_are_numbers_right" (defScope s__law_are_numbers_right) s.heap.objs.size f cdv))) : PSsd (XX P w K mg base N__law_are_numbers_right "_law_are_numbers_right" s__law_are_numbers_right f cdv A outer s c.H0) c (defBody s__law_are_numbers_right) g__law_are_numbers_right := by
  have hN : (XX P w K mg base N__law_are_numbers_right "_law_are_numbers_right" s__law_are_numbers_right f cdv A outer s c.H0).N.Nodup := sc__law_are_numbers_right.nd
  have hc : (XX P w K mg base N__law_are_numbers_right "_law_are_numbers_right" s__law_are_numbers_right f cdv A outer s c.H0).calm = true := rfl
  have hx : ∀ e s1, ¬ (XX P w K mg base N__law_are_numbers_right "_law_are_numbers_right" s__law_are_numbers_right f cdv A outer s c.H0).xe e s1 := fun _ _ z => z
  have hp : PassesOwn (model P w) (XX P w K mg base N__law_are_numbers_right "_law_are_numbers_right" s__law_are_numbers_right f cdv A outer s c.H0).A (XX P w K mg base N__law_are_numbers_right "_law_are_numbers_right" s__law_are_numbers_right f cdv A outer s c.H0).env (XX P w K mg base N__law_are_numbers_right "_law_are_numbers_right" s__law_are_numbers_right f cdv A outer s c.H0).xe := PassesOwn.never
  have hu : (XX P w K mg base N__law_are_numbers_right "_law_are_numbers_right" s__law_are_numbers_right f cdv A outer s c.H0).A.units + 64 < cLine := units_of hr
  have hu5 : (XX P w K mg base N__law_are_numbers_right "_law_are_numbers_right" s__law_are_numbers_right f cdv A outer s c.H0).A.units + 65 < cLine := units65 hr
  exact (ss_cons (s_asg (v_callX C__law_pick hG hgd hr (a_bag 0 (a_cons (v_name 1) a_nil))) (g_sq hc (gs_cons (g_nm 2 hN) (gs_cons (g_nm 3 hN) gs_nil)))) (ss_cons (s_set 4 hN (v_ix (PV.b (v_callX C__law_pick hG hgd hr (a_bag 0 (a_cons (v_name 1) a_nil)))) (PV.b v_int))) (ss_cons (s_set 5 hN (PN.v (n_lst (d_cons (v_name 2) (d_cons (v_bin o_add (b_name 2) (PV.b v_int)) (d_cons (v_callB (c_max2 hc) bl.max (bb_cons (PV.b v_int) (bb_cons (PV.b (v_bin o_sub (b_name 4) (PV.b v_int))) bb_nil))) (d_cons (v_bin o_add (PV.b v_int) (PV.b (v_callX C__law_draw hG hgd hr (a_bag 0 (a_cons v_int a_nil))))) (d_cons (v_bin o_add (PV.b v_int) (PV.b (v_callX C__law_draw hG hgd hr (a_bag 0 (a_cons (v_bin o_pow (PV.b v_int) (PV.b v_int)) a_nil))))) (d_cons (v_name 4) d_nil))))))))) (ss_cons (s_set 5 hN (v_bin o_add (b_name 5) (PV.b (PN.v (n_lst (d_cons (v_callX C__law_pick hG hgd hr (a_bag 0 (a_cons (PN.v (n_lst (d_cons v_int (d_cons v_int (d_cons v_int (d_cons (v_bin o_pow (PV.b v_int) (PV.b v_int)) (d_cons (v_bin o_sub (PV.b (v_bin o_pow (PV.b v_int) (PV.b v_int))) (PV.b v_int)) d_nil))))))) a_nil))) (d_cons (v_name 2) d_nil))))))) (ss_cons (s_for hp hc (i_enum bl.enumerate (v_name 5)) (g_sq hc (gs_cons (g_nm 6 hN) (gs_cons (g_nm 7 hN) gs_nil))) (ss_cons (s_set 7 hN (v_callB (c_min2 hc) bl.min (bb_cons (b_name 7) (bb_cons (PV.b (v_bin o_pow (PV.b v_int) (PV.b v_int))) bb_nil)))) (ss_cons (s_set 8 hN (v_callT c_tuple bl.tuple (bb_cons (PV.b (PN.v (n_sorted bl.sorted (PV.b (PN.v (n_lc hc hN (own := [("many", 9), ("own", 10)]) (by first | rfl | decide +kernel) (i_seq (v_name 1)) (fun _ _ _ _ _ => (g_sq (by exact hc) (gs_cons (g_nm 9 (by exact hN)) (gs_cons (g_nm 10 (by exact hN)) gs_nil)))) (fun _ _ _ _ _ => (ts_one (t_cmp (o_eq (by exact (by exact hu))) (b_name 9) (b_name 7)))) (fun _ _ _ _ _ => (v_name 10)))))))) bb_nil))) (ss_cons (s_set 11 hN (v_if (t_cmp (o_eq hu) (b_name 6) (PV.b v_int)) (v_callKX K_words_of_number_number hG hgd hr (k_cons (v_name 7) k_nil)) (v_callX C_words_of_number hG hgd hr (a_cons (v_name 7) a_nil)))) (ss_one (s_if (t_cmp (o_ne hu) (PV.b (v_callB (c_repr hgd hu) bl.repr (bb_cons (b_name 11) bb_nil))) (PV.b (v_callB (c_repr hgd hu) bl.repr (bb_cons (b_name 8) bb_nil)))) (ss_one (s_ret v_bl)) ss_nil)))))) (ss_one (s_ret (v_and (PV.b (v_cmp (o_eq hu) (PV.b (v_callB (c_repr hgd hu) bl.repr (bb_cons (PV.b (v_callX C_word_table hG hgd hr (a_cons (v_name 3) a_nil))) bb_nil))) (PV.b (v_callB (c_repr hgd hu) bl.repr (bb_cons (PV.b (v_callX C__law_table hG hgd hr (a_cons (v_name 3) a_nil))) bb_nil))))) (v_one (v_cmp (o_eq hu) (PV.b (v_callB (c_repr hgd hu) bl.repr (bb_cons (PV.b (v_callX C_markoff_number hG hgd hr (a_cons (v_name 3) a_nil))) bb_nil))) (PV.b (v_callB (c_repr hgd hu) bl.repr (bb_cons (b_name 2) bb_nil)))))))))))))
theorem ok__law_are_numbers_right {P : Program} {w : World} {K : PySem.W.Frag} {mg : Str → Option Value} {base : Heap} {f : Addr} {fd : FuncData} (F : Fun K "_law_are_numbers_right" "_law_are_numbers_right" s__law_are_numbers_right f fd) (bl : Bl mg) (C__law_pick : Kn P w K mg base 4 "_law_pick" ["bag", "some"] S__law_pick) (C__law_draw : Kn P w K mg base 4 "_law_draw" ["bag", "below"] S__law_draw) (C_words_of_number : Kn P w K mg base 4 "words_of_number" ["number"] S_words_of_number) (C_markoff_number : Kn P w K mg base 4 "markoff_number" ["word"] S_markoff_number) (C_word_table : Kn P w K mg base 4 "word_table" ["word"] S_word_table) (C__law_table : Kn P w K mg base 4 "_law_table" ["word"] S__law_table) (K_words_of_number_number : KnK P w K mg base 4 "words_of_number" ["number"] ["number"] [0] S_words_of_number) : FnG IsLst P w K mg base 5 f fd ["bag", "known"] S__law_are_numbers_right :=
  fng_of F sc__law_are_numbers_right m__law_are_numbers_right l__law_are_numbers_right fun cdv A outer s c hG hgd hr => ⟨g__law_are_numbers_right, der__law_are_numbers_right bl C__law_pick C__law_draw C_words_of_number C_markoff_number C_word_table C__law_table K_words_of_number_number hG hgd hr, r__law_are_numbers_right⟩
theorem sc_law : FnScope N_law ["script"] (defScope s_law) := ⟨rfl, rfl, rfl, by decide +kernel, rfl, by decide +kernel, by decide +kernel⟩
theorem sc__law_draw : FnScope ["bag", "below", "cell", "found"] ["bag", "below"] (defScope s__law_draw) := ⟨rfl, rfl, rfl, by decide +kernel, rfl, by decide +kernel, by decide +kernel⟩
theorem der__law_draw {P : Program} {w : World} {K : PySem.W.Frag} {mg : Str → Option Value} {base : Heap} {f : Addr} {cdv : Value} {A : Around} {outer : List PySem.Env} {s : Shared} {c : C} (bl : Bl mg) (hr : Room 0 (A.deeper (envOfC "_law_draw" (defScope s__law_draw) s.heap.objs.size f cdv))) : PSs (XX P w K mg base ["bag", "below", "cell", "found"] "_law_draw" s__law_draw f cdv A outer s c.H0) (defBody s__law_draw) (tDraw 48271 11 7) := by
  have hN : (XX P w K mg base ["bag", "below", "cell", "found"] "_law_draw" s__law_draw f cdv A outer s c.H0).N.Nodup := sc__law_draw.nd
  have hp : PassesOwn (model P w) (XX P w K mg base ["bag", "below", "cell", "found"] "_law_draw" s__law_draw f cdv A outer s c.H0).A (XX P w K mg base ["bag", "below", "cell", "found"] "_law_draw" s__law_draw f cdv A outer s c.H0).env (XX P w K mg base ["bag", "below", "cell", "found"] "_law_draw" s__law_draw f cdv A outer s c.H0).xe := PassesOwn.never
  have hu : (XX P w K mg base ["bag", "below", "cell", "found"] "_law_draw" s__law_draw f cdv A outer s c.H0).A.units + 64 < cLine := units_of hr
  have w1 : ∀ (σ : L2.St) (H : Hp) (b : Bool) (Q : Bool → Hp → Prop), (∃ x y, rNm 2 σ H x ∧ rPow (rK 10) (rK 9) σ H y ∧ b = gGtI x y) → Q b H → tIt gGtI (rNm 2) (rPow (rK 10) (rK 9)) σ H Q := fun σ H b Q ⟨x, y, h1, h2, e⟩ q => ⟨x, y, h1, h2, e ▸ q⟩
  exact pss_cons (ps_while hp (PW.pt (pw_and (pt_i iop_eq (pi_bag 0) pi_c) (pw_and1 (pt_full 0 hu)))) (pss_cons (ps_bagPop 0 2 hN) (pss_one (ps_bag 0 (pi_if (pt_i op_gt (pi_nm 2) (pi_bin op_pow pi_c pi_c)) w1 (pi_nm 2) pi_c)))))
    (pss_cons (ps_if (pt_i op_gt (pi_bag 0) pi_c) (pss_cons (ps_setI 3 hN (pi_bin op_mod (pi_int bl.int (pi_bag 0)) (pi_nm 1))) (pss_cons (ps_bag 0 (pi_bin iop_div (pi_bag 0) (pi_nm 1))) (pss_one (ps_retI (pi_nm 3))))) pss_nil)
    (pss_cons (ps_bag 0 (pi_bin op_mod (pi_int bl.int (pi_bin iop_add (pi_bin op_mulW (pi_bag 0) pi_c) pi_c)) pi_c)) (pss_one (ps_retI (pi_bin op_mod (pi_int bl.int (pi_bin iop_div (pi_bin op_mod (pi_int bl.int (pi_bin op_mulW (pi_bag 0) (pi_bag 0))) pi_c) pi_c)) (pi_nm 1))))))
theorem ok__law_draw {P : Program} {w : World} {K : PySem.W.Frag} {mg : Str → Option Value} {base : Heap} {f : Addr} {fd : FuncData} (F : Fun K "_law_draw" "_law_draw" s__law_draw f fd) (bl : Bl mg) : FnG IsLst P w K mg base 1 f fd ["bag", "below"] S__law_draw :=
  fng_of F sc__law_draw spDraw_mono spDraw_len fun cdv A outer s c hG hgd hr => ⟨gDraw, draw_ss (a := 48271) (b := 11) (q := 7) hG (by decide) (by decide) (by decide) (der__law_draw (c := c) bl hr), spDraw_go rfl⟩
theorem der_law {P : Program} {w : World} {K : PySem.W.Frag} {mg : Str → Option Value} {base : Heap} {f : Addr} {cdv : Value} {s : Shared} {H : Hp} {c : C} (bl : Bl mg) (C__law_all_words : Kn P w K mg base 5 "_law_all_words" ["most"] S__law_all_words) (C__law_own_word : Kn P w K mg base 5 "_law_own_word" ["bag"] S__law_own_word) (C__law_is_word_right : Kn P w K mg base 5 "_law_is_word_right" ["word", "is_named"] S__law_is_word_right) (C__law_are_numbers_right : Kn P w K mg base 5 "_law_are_numbers_right" ["bag", "known"] S__law_are_numbers_right) (C__law_are_triples_right : Kn P w K mg base 5 "_law_are_triples_right" ["bag", "known"] S__law_are_triples_right) (hG : IsLst c) (hr : Room 5 (callerA.deeper (envOfC "law" (defScope s_law) s.heap.objs.size f cdv))) : PSsd (XX P w K mg base N_law "law" s_law f cdv callerA [] s H) c (defBody s_law).tail g_law := by
  have hN : (XX P w K mg base N_law "law" s_law f cdv callerA [] s H).N.Nodup := sc_law.nd
  have hc : (XX P w K mg base N_law "law" s_law f cdv callerA [] s H).calm = true := rfl
  have hx : ∀ e s1, ¬ (XX P w K mg base N_law "law" s_law f cdv callerA [] s H).xe e s1 := fun _ _ z => z
  have hgd : (XX P w K mg base N_law "law" s_law f cdv callerA [] s H).A.guards = some [] := rfl
  have hp : PassesOwn (model P w) (XX P w K mg base N_law "law" s_law f cdv callerA [] s H).A (XX P w K mg base N_law "law" s_law f cdv callerA [] s H).env (XX P w K mg base N_law "law" s_law f cdv callerA [] s H).xe := PassesOwn.never
  have hu : (XX P w K mg base N_law "law" s_law f cdv callerA [] s H).A.units + 64 < cLine := units_of hr
  have hu5 : (XX P w K mg base N_law "law" s_law f cdv callerA [] s H).A.units + 65 < cLine := units65 hr
  exact (ss_cons (s_set 2 hN (v_callX C__law_all_words hG hgd hr (a_cons (v_bin o_pow (PV.b v_int) (PV.b v_int)) a_nil))) (ss_cons (s_set 3 hN (v_bin o_add (PV.b (PN.v (n_lc hc hN (own := [("k", 4)]) (by first | rfl | decide +kernel) (i_rng1 bl.range (PV.b v_int)) (fun _ _ _ _ _ => (g_nm 4 (by exact hN))) (fun _ _ _ _ _ => ts_nil) (fun _ _ _ _ _ => (v_callX C__law_own_word hG (by exact hgd) (by exact hr) (a_bag 1 a_nil)))))) (PV.b (PN.v (n_lst (d_cons (v_tup d_nil) (d_cons (v_tup (d_cons v_int d_nil)) (d_cons (v_tup (d_cons v_int d_nil)) d_nil)))))))) (ss_cons (s_set 5 hN (v_callB (c_repr hgd hu) bl.repr (bb_cons (b_name 3) bb_nil))) (ss_cons (s_for hp hc (i_enum bl.enumerate (v_bin o_add (b_name 3) (PV.b (PN.v (n_slL (b_name 3) po_n (po_s (PV.b v_int))))))) (g_sq hc (gs_cons (g_nm 4 hN) (gs_cons (g_nm 6 hN) gs_nil))) (ss_one (s_if (t_not (t_val (PV.b (v_callX C__law_is_word_right hG hgd hr (a_cons (v_name 6) (a_cons (v_cmp (o_eq hu) (PV.b (v_bin o_mod (PV.b (v_callT c_int bl.int (bb_cons (b_name 4) bb_nil))) (PV.b v_int))) (PV.b v_int)) a_nil)))))) (ss_one (s_ret v_bl)) ss_nil))) (ss_cons (s_if (PWd.t (w_or (t_not (t_val (PV.b (v_callX C__law_are_triples_right hG hgd hr (a_bag 1 (a_cons (v_name 2) a_nil)))))) (w_or1 (t_not (t_val (PV.b (v_callX C__law_are_numbers_right hG hgd hr (a_bag 1 (a_cons (v_name 2) a_nil))))))))) (ss_one (s_ret v_bl)) ss_nil) (ss_one (s_ret (v_and (PV.b (v_callX C__law_is_word_right hG hgd hr (a_cons (v_ix (b_name 3) (PV.b v_int)) (a_cons v_bl a_nil)))) (v_one (v_cmp (o_eq hu) (PV.b (v_callB (c_repr hgd hu) bl.repr (bb_cons (b_name 3) bb_nil))) (b_name 5)))))))))))
theorem ok_law {P : Program} {w : World} {K : PySem.W.Frag} {mg : Str → Option Value} {base : Heap} {f fO : Addr} {fd fdO : FuncData} (F : Fun K "law" "law" s_law f fd) (bl : Bl mg) (FO : FnG (GOwn K) P w K mg base 5 fO fdO ["script"] S__law_own_bag) (gO : mg "_law_own_bag" = some (.ref fO)) (kO : PySem.W.keepIn K (.ref fO) = true) (bO : Binds K fdO ["script"] []) (C__law_all_words : Kn P w K mg base 5 "_law_all_words" ["most"] S__law_all_words) (C__law_own_word : Kn P w K mg base 5 "_law_own_word" ["bag"] S__law_own_word) (C__law_is_word_right : Kn P w K mg base 5 "_law_is_word_right" ["word", "is_named"] S__law_is_word_right) (C__law_are_numbers_right : Kn P w K mg base 5 "_law_are_numbers_right" ["bag", "known"] S__law_are_numbers_right) (C__law_are_triples_right : Kn P w K mg base 5 "_law_are_triples_right" ["bag", "known"] S__law_are_triples_right) (hb : ∀ (s : Shared) (u : Value), BindsTo s fd ⟨[u], []⟩ [("script", u)]) : FnL P w K mg base f :=
  fnl_of (n := 5) (k := 5) F sc_law rfl ⟨rfl, by decide, by decide⟩ (fun cdv s H hr => law_ss (n := 5) (ps_set (i := 1) sc_law.nd rfl (by first | exact Or.inl rfl | exact Or.inr rfl) (pe_own FO rfl hr gO kO bO)) (fun c hG => der_law (c := c) bl C__law_all_words C__law_own_word C__law_is_word_right C__law_are_numbers_right C__law_are_triples_right hG hr) r_law) hb
end T
end DL
namespace DL
namespace T
open PySem L2 PySem.Spec PyProof.Rows
/-! ### the head: facts by names -/
def dfOf (x : Str) (st : Stmt) : He.DefD := ⟨(x, none), x, x, defArgs st, defBody st, defScope st, [], []⟩
def fn : List He.DefD := ([dfOf "factor_pair" s_factor_pair, dfOf "table_times" s_table_times, dfOf "word_table" s_word_table, dfOf "markoff_number" s_markoff_number, dfOf "word_triple" s_word_triple, dfOf "words_of_number" s_words_of_number, dfOf "_law_own_bag" s__law_own_bag, dfOf "_law_draw" s__law_draw, dfOf "_law_pick" s__law_pick, dfOf "_law_lowest_pair" s__law_lowest_pair, dfOf "_law_even_word" s__law_even_word, dfOf "_law_times" s__law_times, dfOf "_law_table" s__law_table, dfOf "_law_parts" s__law_parts, dfOf "_law_all_words" s__law_all_words, dfOf "_law_own_word" s__law_own_word, dfOf "_law_own_pair" s__law_own_pair, dfOf "_law_is_word_right" s__law_is_word_right, dfOf "_law_are_triples_right" s__law_are_triples_right, dfOf "_law_are_numbers_right" s__law_are_numbers_right, dfOf "law" s_law] : List He.DefD)
def fa : List He.Fa := ([.glo "factor_pair", .glo "table_times", .glo "word_table", .glo "markoff_number", .glo "word_triple", .glo "words_of_number", .glo "_law_own_bag", .glo "_law_draw", .glo "_law_pick", .glo "_law_lowest_pair", .glo "_law_even_word", .glo "_law_times", .glo "_law_table", .glo "_law_parts", .glo "_law_all_words", .glo "_law_own_word", .glo "_law_own_pair", .glo "_law_is_word_right", .glo "_law_are_triples_right", .glo "_law_are_numbers_right", .glo "law", .free "abs", .free "enumerate", .free "int", .free "len", .free "list", .free "max", .free "min", .free "range", .free "repr"] : List He.Fa) ++ ([.free "reversed", .free "sorted", .free "sum", .free "tuple"] : List He.Fa)
abbrev R : PySem.W.OpenRow := PySem.W.OpenLaw.row PySem.Challenge.rw_linecuts_k47_whole_markoff_words
abbrev hk : PySem.W.Hook := He.hookD 4 fa fn
def ob (s : PySem.W.SharedT) : He.AlD := He.obsDG 4 fa fn (HandSHeadRun.getT s)
theorem ob_eq (s : PySem.W.SharedT) : ob s = hk.obs s.abs := He.obsDG_eq (HandSHeadRun.getT_eq s)
def loose : List PySem.Str := (["factor_pair", "table_times", "word_table", "markoff_number", "word_triple", "words_of_number", "_law_own_bag", "_law_draw", "_law_pick", "_law_lowest_pair", "_law_even_word", "_law_times", "_law_table", "_law_parts", "_law_all_words", "_law_own_word", "_law_own_pair", "_law_is_word_right", "_law_are_triples_right", "_law_are_numbers_right"] : List PySem.Str)
theorem run (w : World) : HandSHeadRun.RunEq R (PySem.W.view R.prog [23]) hk ob 20000 loose w := by
  intro os
  kernel_rfl
theorem facts {P : Program} {w : World} {K : PySem.W.Frag} {h : Heap} {mg : Str → Option Value} {f : Addr} (X : K.In h) (G : h.Ns mainGlobals mg) (hfa : mg ("law" : Str) = some (.ref f)) (c : He.SaysD fa fn K) : ∀ base : Heap, K.In base → base.Ns mainGlobals mg → FnL P w K mg base f := by
  have bl : Bl mg := ⟨He.free_ok X G (c.fact 24 (f := .free "len") rfl), He.free_ok X G (c.fact 32 (f := .free "sum") rfl), He.free_ok X G (c.fact 31 (f := .free "sorted") rfl), He.free_ok X G (c.fact 33 (f := .free "tuple") rfl), He.free_ok X G (c.fact 23 (f := .free "int") rfl), He.free_ok X G (c.fact 21 (f := .free "abs") rfl), He.free_ok X G (c.fact 25 (f := .free "list") rfl), He.free_ok X G (c.fact 30 (f := .free "reversed") rfl), He.free_ok X G (c.fact 28 (f := .free "range") rfl), He.free_ok X G (c.fact 29 (f := .free "repr") rfl), He.free_ok X G (c.fact 26 (f := .free "max") rfl), He.free_ok X G (c.fact 22 (f := .free "enumerate") rfl), He.free_ok X G (c.fact 27 (f := .free "min") rfl)⟩
  obtain ⟨fd__law_draw, F__law_draw⟩ := c.def_ 7 (d := dfOf "_law_draw" s__law_draw) rfl
  have z__law_draw := He.glo_ok X G (c.fact 7 (f := .glo "_law_draw") rfl)
  obtain ⟨fd_factor_pair, F_factor_pair⟩ := c.def_ 0 (d := dfOf "factor_pair" s_factor_pair) rfl
  have z_factor_pair := He.glo_ok X G (c.fact 0 (f := .glo "factor_pair") rfl)
  obtain ⟨fd_table_times, F_table_times⟩ := c.def_ 1 (d := dfOf "table_times" s_table_times) rfl
  have z_table_times := He.glo_ok X G (c.fact 1 (f := .glo "table_times") rfl)
  obtain ⟨fd__law_own_bag, F__law_own_bag⟩ := c.def_ 6 (d := dfOf "_law_own_bag" s__law_own_bag) rfl
  have z__law_own_bag := He.glo_ok X G (c.fact 6 (f := .glo "_law_own_bag") rfl)
  obtain ⟨fd__law_even_word, F__law_even_word⟩ := c.def_ 10 (d := dfOf "_law_even_word" s__law_even_word) rfl
  have z__law_even_word := He.glo_ok X G (c.fact 10 (f := .glo "_law_even_word") rfl)
  obtain ⟨fd__law_times, F__law_times⟩ := c.def_ 11 (d := dfOf "_law_times" s__law_times) rfl
  have z__law_times := He.glo_ok X G (c.fact 11 (f := .glo "_law_times") rfl)
  obtain ⟨fd__law_parts, F__law_parts⟩ := c.def_ 13 (d := dfOf "_law_parts" s__law_parts) rfl
  have z__law_parts := He.glo_ok X G (c.fact 13 (f := .glo "_law_parts") rfl)
  obtain ⟨fd_word_table, F_word_table⟩ := c.def_ 2 (d := dfOf "word_table" s_word_table) rfl
  have z_word_table := He.glo_ok X G (c.fact 2 (f := .glo "word_table") rfl)
  obtain ⟨fd__law_pick, F__law_pick⟩ := c.def_ 8 (d := dfOf "_law_pick" s__law_pick) rfl
  have z__law_pick := He.glo_ok X G (c.fact 8 (f := .glo "_law_pick") rfl)
  obtain ⟨fd__law_lowest_pair, F__law_lowest_pair⟩ := c.def_ 9 (d := dfOf "_law_lowest_pair" s__law_lowest_pair) rfl
  have z__law_lowest_pair := He.glo_ok X G (c.fact 9 (f := .glo "_law_lowest_pair") rfl)
  obtain ⟨fd__law_table, F__law_table⟩ := c.def_ 12 (d := dfOf "_law_table" s__law_table) rfl
  have z__law_table := He.glo_ok X G (c.fact 12 (f := .glo "_law_table") rfl)
  obtain ⟨fd__law_all_words, F__law_all_words⟩ := c.def_ 14 (d := dfOf "_law_all_words" s__law_all_words) rfl
  have z__law_all_words := He.glo_ok X G (c.fact 14 (f := .glo "_law_all_words") rfl)
  obtain ⟨fd_markoff_number, F_markoff_number⟩ := c.def_ 3 (d := dfOf "markoff_number" s_markoff_number) rfl
  have z_markoff_number := He.glo_ok X G (c.fact 3 (f := .glo "markoff_number") rfl)
  obtain ⟨fd__law_own_word, F__law_own_word⟩ := c.def_ 15 (d := dfOf "_law_own_word" s__law_own_word) rfl
  have z__law_own_word := He.glo_ok X G (c.fact 15 (f := .glo "_law_own_word") rfl)
  obtain ⟨fd__law_own_pair, F__law_own_pair⟩ := c.def_ 16 (d := dfOf "_law_own_pair" s__law_own_pair) rfl
  have z__law_own_pair := He.glo_ok X G (c.fact 16 (f := .glo "_law_own_pair") rfl)
  obtain ⟨fd_word_triple, F_word_triple⟩ := c.def_ 4 (d := dfOf "word_triple" s_word_triple) rfl
  have z_word_triple := He.glo_ok X G (c.fact 4 (f := .glo "word_triple") rfl)
  obtain ⟨fd_words_of_number, F_words_of_number⟩ := c.def_ 5 (d := dfOf "words_of_number" s_words_of_number) rfl
  have z_words_of_number := He.glo_ok X G (c.fact 5 (f := .glo "words_of_number") rfl)
  obtain ⟨fd__law_is_word_right, F__law_is_word_right⟩ := c.def_ 17 (d := dfOf "_law_is_word_right" s__law_is_word_right) rfl
  have z__law_is_word_right := He.glo_ok X G (c.fact 17 (f := .glo "_law_is_word_right") rfl)
  obtain ⟨fd__law_are_triples_right, F__law_are_triples_right⟩ := c.def_ 18 (d := dfOf "_law_are_triples_right" s__law_are_triples_right) rfl
  have z__law_are_triples_right := He.glo_ok X G (c.fact 18 (f := .glo "_law_are_triples_right") rfl)
  obtain ⟨fd__law_are_numbers_right, F__law_are_numbers_right⟩ := c.def_ 19 (d := dfOf "_law_are_numbers_right" s__law_are_numbers_right) rfl
  have z__law_are_numbers_right := He.glo_ok X G (c.fact 19 (f := .glo "_law_are_numbers_right") rfl)
  obtain ⟨fd_law, F_law⟩ := c.def_ 20 (d := dfOf "law" s_law) rfl
  have e := hfa.symm.trans (He.glo_ok X G (c.fact 20 (f := .glo "law") rfl))
  cases e
  intro base _ _
  have O__law_draw := ok__law_draw (P := P) (w := w) (base := base) (fun_of F__law_draw) bl 
  have b__law_draw : Binds K fd__law_draw ["bag", "below"] [] := F__law_draw.bindsN (fun _ _ _ _ _ _ us hl => match us, hl with | [_, _], _ => rfl)
  have C__law_draw := Kn.mk O__law_draw z__law_draw F__law_draw.kp b__law_draw
  have O_factor_pair := ok_factor_pair (P := P) (w := w) (base := base) (fun_of F_factor_pair) bl 
  have b_factor_pair : Binds K fd_factor_pair ["word"] [] := F_factor_pair.bindsN (fun _ _ _ _ _ _ us hl => match us, hl with | [_], _ => rfl)
  have C_factor_pair := Kn.mk O_factor_pair z_factor_pair F_factor_pair.kp b_factor_pair
  have O_table_times := ok_table_times (P := P) (w := w) (base := base) (fun_of F_table_times) bl 
  have b_table_times : Binds K fd_table_times ["one", "other"] [] := F_table_times.bindsN (fun _ _ _ _ _ _ us hl => match us, hl with | [_, _], _ => rfl)
  have C_table_times := Kn.mk O_table_times z_table_times F_table_times.kp b_table_times
  have O__law_own_bag := ok__law_own_bag (P := P) (w := w) (base := base) (fun_of F__law_own_bag) bl 
  have b__law_own_bag : Binds K fd__law_own_bag ["script"] [] := F__law_own_bag.bindsN (fun _ _ _ _ _ _ us hl => match us, hl with | [_], _ => rfl)
  have O__law_even_word := ok__law_even_word (P := P) (w := w) (base := base) (fun_of F__law_even_word) bl 
  have b__law_even_word : Binds K fd__law_even_word ["p", "q"] [] := F__law_even_word.bindsN (fun _ _ _ _ _ _ us hl => match us, hl with | [_, _], _ => rfl)
  have C__law_even_word := Kn.mk O__law_even_word z__law_even_word F__law_even_word.kp b__law_even_word
  have O__law_times := ok__law_times (P := P) (w := w) (base := base) (fun_of F__law_times) bl 
  have b__law_times : Binds K fd__law_times ["one", "other"] [] := F__law_times.bindsN (fun _ _ _ _ _ _ us hl => match us, hl with | [_, _], _ => rfl)
  have C__law_times := Kn.mk O__law_times z__law_times F__law_times.kp b__law_times
  have O__law_parts := ok__law_parts (P := P) (w := w) (base := base) (fun_of F__law_parts) bl 
  have b__law_parts : Binds K fd__law_parts ["p", "q"] [] := F__law_parts.bindsN (fun _ _ _ _ _ _ us hl => match us, hl with | [_, _], _ => rfl)
  have C__law_parts := Kn.mk O__law_parts z__law_parts F__law_parts.kp b__law_parts
  have O_word_table := ok_word_table (P := P) (w := w) (base := base) (fun_of F_word_table) bl (C_table_times.up (by decide))
  have b_word_table : Binds K fd_word_table ["word"] [] := F_word_table.bindsN (fun _ _ _ _ _ _ us hl => match us, hl with | [_], _ => rfl)
  have C_word_table := Kn.mk O_word_table z_word_table F_word_table.kp b_word_table
  have K_word_table_word := KnK.mk (ks := ["word"]) (is := [0]) O_word_table z_word_table F_word_table.kp (kwb_of (x := "word_table") (qual := "word_table") (st := s_word_table) (fun_of F_word_table) (fun _ _ _ _ _ _ ws hl => match ws, hl with | [_], _ => rfl))
  have O__law_pick := ok__law_pick (P := P) (w := w) (base := base) (fun_of F__law_pick) bl (C__law_draw.up (by decide))
  have b__law_pick : Binds K fd__law_pick ["bag", "some"] [] := F__law_pick.bindsN (fun _ _ _ _ _ _ us hl => match us, hl with | [_, _], _ => rfl)
  have C__law_pick := Kn.mk O__law_pick z__law_pick F__law_pick.kp b__law_pick
  have O__law_lowest_pair := ok__law_lowest_pair (P := P) (w := w) (base := base) (fun_of F__law_lowest_pair) bl (C__law_draw.up (by decide))
  have b__law_lowest_pair : Binds K fd__law_lowest_pair ["bag", "most"] [] := F__law_lowest_pair.bindsN (fun _ _ _ _ _ _ us hl => match us, hl with | [_, _], _ => rfl)
  have C__law_lowest_pair := Kn.mk O__law_lowest_pair z__law_lowest_pair F__law_lowest_pair.kp b__law_lowest_pair
  have O__law_table := ok__law_table (P := P) (w := w) (base := base) (fun_of F__law_table) bl (C__law_times.up (by decide))
  have b__law_table : Binds K fd__law_table ["word"] [] := F__law_table.bindsN (fun _ _ _ _ _ _ us hl => match us, hl with | [_], _ => rfl)
  have C__law_table := Kn.mk O__law_table z__law_table F__law_table.kp b__law_table
  have O__law_all_words := ok__law_all_words (P := P) (w := w) (base := base) (fun_of F__law_all_words) bl (C__law_times.up (by decide))
  have b__law_all_words : Binds K fd__law_all_words ["most"] [] := F__law_all_words.bindsN (fun _ _ _ _ _ _ us hl => match us, hl with | [_], _ => rfl)
  have C__law_all_words := Kn.mk O__law_all_words z__law_all_words F__law_all_words.kp b__law_all_words
  have O_markoff_number := ok_markoff_number (P := P) (w := w) (base := base) (fun_of F_markoff_number) bl (C_word_table.up (by decide))
  have b_markoff_number : Binds K fd_markoff_number ["word"] [] := F_markoff_number.bindsN (fun _ _ _ _ _ _ us hl => match us, hl with | [_], _ => rfl)
  have C_markoff_number := Kn.mk O_markoff_number z_markoff_number F_markoff_number.kp b_markoff_number
  have K_markoff_number_word := KnK.mk (ks := ["word"]) (is := [0]) O_markoff_number z_markoff_number F_markoff_number.kp (kwb_of (x := "markoff_number") (qual := "markoff_number") (st := s_markoff_number) (fun_of F_markoff_number) (fun _ _ _ _ _ _ ws hl => match ws, hl with | [_], _ => rfl))
  have O__law_own_word := ok__law_own_word (P := P) (w := w) (base := base) (fun_of F__law_own_word) bl (C__law_pick.up (by decide)) (C__law_draw.up (by decide))
  have b__law_own_word : Binds K fd__law_own_word ["bag"] [] := F__law_own_word.bindsN (fun _ _ _ _ _ _ us hl => match us, hl with | [_], _ => rfl)
  have C__law_own_word := Kn.mk O__law_own_word z__law_own_word F__law_own_word.kp b__law_own_word
  have O__law_own_pair := ok__law_own_pair (P := P) (w := w) (base := base) (fun_of F__law_own_pair) bl (C__law_draw.up (by decide)) (C__law_lowest_pair.up (by decide)) (C__law_pick.up (by decide))
  have b__law_own_pair : Binds K fd__law_own_pair ["bag"] [] := F__law_own_pair.bindsN (fun _ _ _ _ _ _ us hl => match us, hl with | [_], _ => rfl)
  have C__law_own_pair := Kn.mk O__law_own_pair z__law_own_pair F__law_own_pair.kp b__law_own_pair
  have O_word_triple := ok_word_triple (P := P) (w := w) (base := base) (fun_of F_word_triple) bl (C_factor_pair.up (by decide)) (C_markoff_number.up (by decide))
  have b_word_triple : Binds K fd_word_triple ["word"] [] := F_word_triple.bindsN (fun _ _ _ _ _ _ us hl => match us, hl with | [_], _ => rfl)
  have C_word_triple := Kn.mk O_word_triple z_word_triple F_word_triple.kp b_word_triple
  have K_word_triple_word := KnK.mk (ks := ["word"]) (is := [0]) O_word_triple z_word_triple F_word_triple.kp (kwb_of (x := "word_triple") (qual := "word_triple") (st := s_word_triple) (fun_of F_word_triple) (fun _ _ _ _ _ _ ws hl => match ws, hl with | [_], _ => rfl))
  have O_words_of_number := ok_words_of_number (P := P) (w := w) (base := base) (fun_of F_words_of_number) bl (C_markoff_number.up (by decide)) (C_word_table.up (by decide)) (C_table_times.up (by decide))
  have b_words_of_number : Binds K fd_words_of_number ["number"] [] := F_words_of_number.bindsN (fun _ _ _ _ _ _ us hl => match us, hl with | [_], _ => rfl)
  have C_words_of_number := Kn.mk O_words_of_number z_words_of_number F_words_of_number.kp b_words_of_number
  have K_words_of_number_number := KnK.mk (ks := ["number"]) (is := [0]) O_words_of_number z_words_of_number F_words_of_number.kp (kwb_of (x := "words_of_number") (qual := "words_of_number") (st := s_words_of_number) (fun_of F_words_of_number) (fun _ _ _ _ _ _ ws hl => match ws, hl with | [_], _ => rfl))
  have O__law_is_word_right := ok__law_is_word_right (P := P) (w := w) (base := base) (fun_of F__law_is_word_right) bl (C__law_table.up (by decide)) (C_markoff_number.up (by decide)) (C_word_table.up (by decide)) (K_markoff_number_word.up (by decide)) (K_word_table_word.up (by decide))
  have b__law_is_word_right : Binds K fd__law_is_word_right ["word", "is_named"] [] := F__law_is_word_right.bindsN (fun _ _ _ _ _ _ us hl => match us, hl with | [_, _], _ => rfl)
  have C__law_is_word_right := Kn.mk O__law_is_word_right z__law_is_word_right F__law_is_word_right.kp b__law_is_word_right
  have O__law_are_triples_right := ok__law_are_triples_right (P := P) (w := w) (base := base) (fun_of F__law_are_triples_right) bl (C__law_own_pair.up (by decide)) (C__law_parts.up (by decide)) (C__law_even_word.up (by decide)) (C__law_table.up (by decide)) (C_word_triple.up (by decide)) (C__law_is_word_right.up (by decide)) (C_words_of_number.up (by decide)) (K_word_triple_word.up (by decide))
  have b__law_are_triples_right : Binds K fd__law_are_triples_right ["bag", "known"] [] := F__law_are_triples_right.bindsN (fun _ _ _ _ _ _ us hl => match us, hl with | [_, _], _ => rfl)
  have C__law_are_triples_right := Kn.mk O__law_are_triples_right z__law_are_triples_right F__law_are_triples_right.kp b__law_are_triples_right
  have O__law_are_numbers_right := ok__law_are_numbers_right (P := P) (w := w) (base := base) (fun_of F__law_are_numbers_right) bl (C__law_pick.up (by decide)) (C__law_draw.up (by decide)) (C_words_of_number.up (by decide)) (C_markoff_number.up (by decide)) (C_word_table.up (by decide)) (C__law_table.up (by decide)) (K_words_of_number_number.up (by decide))
  have b__law_are_numbers_right : Binds K fd__law_are_numbers_right ["bag", "known"] [] := F__law_are_numbers_right.bindsN (fun _ _ _ _ _ _ us hl => match us, hl with | [_, _], _ => rfl)
  have C__law_are_numbers_right := Kn.mk O__law_are_numbers_right z__law_are_numbers_right F__law_are_numbers_right.kp b__law_are_numbers_right
  have hb := FunD.bindsA (ps := ["script"]) F_law (fun _ _ _ _ _ _ us hl => match us, hl with | [_], _ => rfl)
  exact ok_law (fun_of F_law) bl (O__law_own_bag.up (by decide)) z__law_own_bag F__law_own_bag.kp b__law_own_bag (C__law_all_words.up (by decide)) (C__law_own_word.up (by decide)) (C__law_is_word_right.up (by decide)) (C__law_are_numbers_right.up (by decide)) (C__law_are_triples_right.up (by decide)) fun s v => hb s [v] rfl
end T
end DL
open PySem PySem.W PySem.Calls PyProof.Rows
theorem PySem.Challenge.cw_linecuts_k47_whole_markoff_words_holds : PySem.Challenge.rw_linecuts_k47_whole_markoff_words.Holds := by
  w_on; o_law
  refine HandSHeadRun.head_any (r := OpenLaw.row PySem.Challenge.rw_linecuts_k47_whole_markoff_words) (q := view (OpenLaw.row PySem.Challenge.rw_linecuts_k47_whole_markoff_words).prog [23]) (H := DL.T.hk) (ob := DL.T.ob) (M := 20000) (loose := DL.T.loose) (d := HandSHeadRun.topDef (OpenLaw.row PySem.Challenge.rw_linecuts_k47_whole_markoff_words).prog 23) (kwd := []) DL.T.ob_eq
    (by kernel_rfl) (fun s => by kernel_rfl) DL.T.run (by kernel_rfl) (by kernel_rfl) (by kernel_rfl) (by rfl) (by first | assumption | decide +kernel) (by decide +kernel) ⟨rfl, rfl, rfl, rfl, rfl, by decide +kernel⟩ ?hw ?hc
  case hw => w_witness2
  case hc =>
    refine DL.walk_law (l := PySem.Challenge.rw_linecuts_k47_whole_markoff_words) (n := 63) rfl (by decide) (by kernel_rfl) ?F
    intro w mg fa h Y G hmg0
    obtain ⟨K, KX, c⟩ := Y
    have hmg : mg ("law" : PySem.Str) = some (.ref fa) := by
      have e : (HandSHeadRun.topDef (OpenLaw.row PySem.Challenge.rw_linecuts_k47_whole_markoff_words).prog 23).name = ("law" : PySem.Str) := by kernel_rfl
      rw [← e]
      exact hmg0
    exact ⟨K, KX, DL.T.facts (P := (PySem.Challenge.rw_linecuts_k47_whole_markoff_words).prog) (w := w) KX G hmg c⟩
