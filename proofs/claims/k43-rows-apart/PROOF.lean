import PyProof.Rows.All
import Wide.All
import OpenK.AllK
import Wide.FinOn
import HandS.ForMost
import HandS.Evl
import HandS.Wide
import HandS.Style
import HandS.TupAny
import HandS.Conv
import HandS.Zip
import HandS.RevTup
import HandS.Rev
import HandS.NoneIn
import HandS.WideBits
import HandS.Exc
import HandS.Ends
import HandS.HeadEnd
import HandS.Defaults
import HandS.TupMul
import HandS.SortInts
import HandS.Deep
import KE.KTupSum
import HandS.IsInst
import HandS.Dict
import KE.GoesMore
import HandS.Iter
import HandS.Flt
import PySem.Challenge.RW_linecuts_k43_whole_rows_apart
import KE.KStateDown
import HandS.Head0
import HandS.Head1
import HandS.Head2
import HandS.HeadHook1
import HandS.HeadHook2
set_option Elab.async false
set_option linter.all false
set_option maxRecDepth 100000
set_option maxHeartbeats 0
set_option autoImplicit false
set_option exponentiation.threshold 2000
/-! DL: data-level readings over the hand layer. What a piece of syntax does is told as a function on data (PyData); slots hold data that stands (sh), a list of one's own (ow) or the bag (bg). -/
namespace DL
open PySem L2
abbrev D := PyData
abbrev Ex := Evl.Ex
/-- what a slot holds -/
inductive Sl where
  | un
  | sh (d : D)
  | ow (ds : List D)
  | bg
abbrev Env := List Sl
/-- the bag: where it stands, its objects, what is known of them; B0, H0: the state at the entry -/
structure Bg where
  pb : Addr
  mem : Addr → Prop
  ok : Hp → Prop
  loc : ∀ H H' : Hp, (∀ a, mem a → H' a = H a) → ok H → ok H'
structure C extends Bg where
  B0 : Hp
  H0 : Hp
def C.isBag (c : C) (a : Addr) : Prop := c.mem a
structure BagOk (c : C) (B H : Hp) : Prop where
  out : ∀ a, c.isBag a → B a = none
  here : ∀ a, c.isBag a → H a ≠ none
  ok : c.ok H
theorem BagOk.keep {c : C} {B H B' H' : Hp} (b : BagOk c B H) (k : ∀ a, c.isBag a → B' a = B a ∧ H' a = H a) : BagOk c B' H' :=
  ⟨fun a ha => by rw [(k a ha).1]; exact b.out a ha, fun a ha => by rw [(k a ha).2]; exact b.here a ha, c.loc H H' (fun a ha => (k a ha).2) b.ok⟩
/-- the state of the data: B, what stands and is shared, within H -/
structure Wd (c : C) (B H : Hp) : Prop where
  sub : Ex B H
  bag : BagOk c B H
/-- from one state to a later one: nothing that stood has changed but the bag; what is shared grew by new objects -/
structure Gr (c : C) (B H B' H' : Hp) : Prop where
  b : Ex B B'
  h : ∀ a o, ¬ c.isBag a → H a = some o → H' a = some o
  n : ∀ a, H a ≠ none → B' a = B a
  w : Wd c B' H'
theorem Wd.nb {c : C} {B H : Hp} (w : Wd c B H) {a : Addr} {o : HO} (h : B a = some o) : ¬ c.isBag a := by
  intro z
  rw [w.bag.out a z] at h
  cases h
theorem Wd.there {c : C} {B H : Hp} (w : Wd c B H) {a : Addr} (h : c.isBag a) : H a ≠ none := w.bag.here a h
/-- what is not there is no part of the bag -/
theorem Wd.off {c : C} {B H : Hp} (w : Wd c B H) {a p : Addr} (h : c.isBag a) (hp : H p = none) : a ≠ p := fun z => w.there h (by rw [z]; exact hp)
theorem Gr.refl {c : C} {B H : Hp} (w : Wd c B H) : Gr c B H B H := ⟨Evl.Ex.refl B, fun _ _ _ h => h, fun _ _ => rfl, w⟩
theorem Gr.trans {c : C} {B H B1 H1 B2 H2 : Hp} (w : Wd c B H) (x : Gr c B H B1 H1) (y : Gr c B1 H1 B2 H2) : Gr c B H B2 H2 := by
  refine ⟨x.b.trans y.b, fun a o nb h => y.h a o nb (x.h a o nb h), fun a h => ?_, y.w⟩
  rw [← x.n a h]
  refine y.n a ?_
  by_cases hb : c.isBag a
  · exact x.w.there hb
  · cases e : H a with
    | none => exact absurd e h
    | some o => rw [x.h a o hb e]; exact fun q => nomatch q
/-- a new shared object -/
theorem Gr.new {c : C} {B H : Hp} (w : Wd c B H) {p : Addr} {o : HO} (hp : H p = none) : Gr c B H (upd B p o) (upd H p o) := by
  have hB : B p = none := Evl.fresh_back w.sub hp
  refine ⟨Evl.Ex.new hB, fun a u _ e => ?_, fun a e => ?_, fun a u e => ?_, w.bag.keep fun a ha => ⟨upd_ne (w.off ha hp), upd_ne (w.off ha hp)⟩⟩
  · rw [upd_ne (ne_of_none e hp)]; exact e
  · exact upd_ne fun z => e (by rw [z]; exact hp)
  · by_cases z : a = p
    · subst z; rw [upd_same] at e ⊢; exact e
    · rw [upd_ne z] at e ⊢; exact w.sub a u e
/-- a new object that is not shared (yet) -/
theorem Gr.newO {c : C} {B H : Hp} (w : Wd c B H) {p : Addr} {o : HO} (hp : H p = none) : Gr c B H B (upd H p o) := by
  have hB : B p = none := Evl.fresh_back w.sub hp
  refine ⟨Evl.Ex.refl B, fun a u _ e => ?_, fun a e => rfl, fun a u e => ?_, w.bag.keep fun a ha => ⟨rfl, upd_ne (w.off ha hp)⟩⟩
  · rw [upd_ne (ne_of_none e hp)]; exact e
  · have z : a ≠ p := ne_of_none e hB
    rw [upd_ne z]; exact w.sub a u e
/-! ### data that stands -/
def kD : Key → D
  | .inl i => .int i
  | .inr x => .str x
mutual
inductive Rp (B : Hp) : V → D → Prop
  | non : Rp B .non .none
  | bl (b : Bool) : Rp B (.bl b) (.bool b)
  | int (i : Int) : Rp B (.int i) (.int i)
  | str (x : Str) : Rp B (.str x) (.str x)
  | lst {a : Addr} {xs : List V} {ds : List D} : B a = some (.lst xs) → RpA B xs ds → Rp B (.ref a) (.list ds)
  | tup {a : Addr} {xs : List V} {ds : List D} : B a = some (.tup xs) → RpA B xs ds → Rp B (.ref a) (.tuple ds)
  | dct {a : Addr} {kvs : List (Key × V)} {ds : List D} : B a = some (.dK kvs) → RpA B (kvs.map (·.2)) ds → Rp B (.ref a) (.dict ((kvs.map fun p => kD p.1).zip ds))
inductive RpA (B : Hp) : List V → List D → Prop
  | nil : RpA B [] []
  | cons {v : V} {vs : List V} {d : D} {ds : List D} : Rp B v d → RpA B vs ds → RpA B (v :: vs) (d :: ds)
end
mutual
theorem rp_mono {B B' : Hp} (e : Ex B B') : ∀ {v : V} {d : D}, Rp B v d → Rp B' v d
  | _, _, .non => .non
  | _, _, .bl b => .bl b
  | _, _, .int i => .int i
  | _, _, .str x => .str x
  | _, _, .lst h1 h2 => .lst (e _ _ h1) (rpa_mono e h2)
  | _, _, .tup h1 h2 => .tup (e _ _ h1) (rpa_mono e h2)
  | _, _, .dct h1 h2 => .dct (e _ _ h1) (rpa_mono e h2)
theorem rpa_mono {B B' : Hp} (e : Ex B B') : ∀ {v : List V} {d : List D}, RpA B v d → RpA B' v d
  | _, _, .nil => .nil
  | _, _, .cons h1 h2 => .cons (rp_mono e h1) (rpa_mono e h2)
end
mutual
theorem rp_dp {K : PySem.W.Frag} {B : Hp} : ∀ {v : V} {d : D}, Rp B v d → d.canLay0 = true → Dp K B v d
  | _, _, .non, _ => .non
  | _, _, .bl b, _ => .bl b
  | _, _, .int i, _ => .int i
  | _, _, .str x, _ => .str x
  | _, _, .lst h1 h2, c => .lst (SqL.of h1) (rpa_dp h2 (by simpa [PyData.canLay0] using c))
  | _, _, .tup h1 h2, c => .tup (SqT.of h1) (rpa_dp h2 (by simpa [PyData.canLay0] using c))
  | _, _, .dct _ _, c => by simp [PyData.canLay0] at c
theorem rpa_dp {K : PySem.W.Frag} {B : Hp} : ∀ {v : List V} {d : List D}, RpA B v d → PyData.canLayAll0 d = true → DpAll K B v d
  | _, _, .nil, _ => .nil
  | _, _, .cons h1 h2, c => by
    have c' := c
    simp only [PyData.canLayAll0, Bool.and_eq_true] at c'
    exact .cons (rp_dp h1 c'.1) (rpa_dp h2 c'.2)
end
section
variable {B : Hp}
theorem rpa_len : ∀ {v : List V} {d : List D}, RpA B v d → v.length = d.length
  | _, _, .nil => rfl
  | _, _, .cons _ h2 => by rw [List.length_cons, List.length_cons, rpa_len h2]
theorem rpa_get : ∀ {vs : List V} {ds : List D} {i : Nat} {d : D}, RpA B vs ds → ds[i]? = some d → ∃ v, vs[i]? = some v ∧ Rp B v d
  | _, _, _, _, .nil, e => by simp at e
  | _, _, 0, _, .cons h1 _, e => by simp at e; subst e; exact ⟨_, rfl, h1⟩
  | _, _, i + 1, _, .cons _ h2, e => by
    obtain ⟨v, h3, h4⟩ := rpa_get (i := i) h2 (by simpa using e)
    exact ⟨v, by simpa using h3, h4⟩
theorem rpa_get' : ∀ {vs : List V} {ds : List D} {i : Nat} {v : V}, RpA B vs ds → vs[i]? = some v → ∃ d, ds[i]? = some d ∧ Rp B v d
  | _, _, _, _, .nil, e => by simp at e
  | _, _, 0, _, .cons h1 _, e => by simp at e; subst e; exact ⟨_, rfl, h1⟩
  | _, _, i + 1, _, .cons _ h2, e => by
    obtain ⟨v, h3, h4⟩ := rpa_get' (i := i) h2 (by simpa using e)
    exact ⟨v, by simpa using h3, h4⟩
theorem rpa_app : ∀ {vs ws : List V} {ds es : List D}, RpA B vs ds → RpA B ws es → RpA B (vs ++ ws) (ds ++ es)
  | _, _, _, _, .nil, h => h
  | _, _, _, _, .cons h1 h2, h => .cons h1 (rpa_app h2 h)
theorem rpa_take : ∀ {vs : List V} {ds : List D} (n : Nat), RpA B vs ds → RpA B (vs.take n) (ds.take n)
  | _, _, 0, _ => .nil
  | _, _, _ + 1, .nil => .nil
  | _, _, n + 1, .cons h1 h2 => .cons h1 (rpa_take n h2)
theorem rpa_drop : ∀ {vs : List V} {ds : List D} (n : Nat), RpA B vs ds → RpA B (vs.drop n) (ds.drop n)
  | _, _, 0, h => h
  | _, _, _ + 1, .nil => .nil
  | _, _, n + 1, .cons _ h2 => rpa_drop n h2
theorem rpa_set {v : V} {d : D} (h : Rp B v d) : ∀ {vs : List V} {ds : List D} (i : Nat), RpA B vs ds → RpA B (vs.set i v) (ds.set i d)
  | _, _, _, .nil => .nil
  | _, _, 0, .cons _ h2 => .cons h h2
  | _, _, i + 1, .cons h1 h2 => .cons h1 (rpa_set h i h2)
theorem rpa_rev : ∀ {vs : List V} {ds : List D}, RpA B vs ds → RpA B vs.reverse ds.reverse
  | _, _, .nil => .nil
  | _, _, .cons h1 h2 => by rw [List.reverse_cons, List.reverse_cons]; exact rpa_app (rpa_rev h2) (.cons h1 .nil)
theorem rpa_ints : ∀ {vs : List V} {ns : List Int}, RpA B vs (ns.map PyData.int) → vs = ns.map V.int
  | _, [], h => by cases h; rfl
  | _, n :: ns, h => by
    cases h with
    | cons h1 h2 =>
      cases h1
      rw [rpa_ints h2]; rfl
theorem rpa_of_ints : ∀ (ns : List Int), RpA B (ns.map V.int) (ns.map PyData.int)
  | [] => .nil
  | n :: ns => .cons (.int n) (rpa_of_ints ns)
theorem rpa_bls : ∀ {vs : List V} {ns : List Bool}, RpA B vs (ns.map PyData.bool) → vs = ns.map V.bl
  | _, [], h => by cases h; rfl
  | _, n :: ns, h => by
    cases h with
    | cons h1 h2 =>
      cases h1
      rw [rpa_bls h2]; rfl
theorem rpa_strs : ∀ {vs : List V} {ns : List Str}, RpA B vs (ns.map PyData.str) → vs = ns.map V.str
  | _, [], h => by cases h; rfl
  | _, n :: ns, h => by
    cases h with
    | cons h1 h2 =>
      cases h1
      rw [rpa_strs h2]; rfl
theorem rpa_nil_iff {vs : List V} {ds : List D} (h : RpA B vs ds) : vs = [] ↔ ds = [] := by
  have e := rpa_len h
  rw [← List.length_eq_zero_iff, ← List.length_eq_zero_iff, e]
theorem rp_lst {v : V} {ds : List D} (h : Rp B v (.list ds)) : ∃ a xs, v = .ref a ∧ B a = some (.lst xs) ∧ RpA B xs ds := by
  cases h with
  | lst h1 h2 => exact ⟨_, _, rfl, h1, h2⟩
theorem rp_tup {v : V} {ds : List D} (h : Rp B v (.tuple ds)) : ∃ a xs, v = .ref a ∧ B a = some (.tup xs) ∧ RpA B xs ds := by
  cases h with
  | tup h1 h2 => exact ⟨_, _, rfl, h1, h2⟩
theorem rp_int {v : V} {i : Int} (h : Rp B v (.int i)) : v = .int i := by cases h; rfl
theorem rp_bl {v : V} {i : Bool} (h : Rp B v (.bool i)) : v = .bl i := by cases h; rfl
theorem rp_str {v : V} {i : Str} (h : Rp B v (.str i)) : v = .str i := by cases h; rfl
theorem rp_non {v : V} (h : Rp B v .none) : v = .non := by cases h; rfl
end
/-- a value that may be read: shared, or a list of one's own -/
def Bw (c : C) (B H : Hp) (v : V) (d : D) : Prop :=
  Rp B v d ∨ ∃ p vs ds, v = .ref p ∧ d = .list ds ∧ ¬ c.isBag p ∧ B p = none ∧ H p = some (.lst vs) ∧ RpA B vs ds
section
variable {c : C} {B H B' H' : Hp} {v : V} {d : D}
theorem Bw.of (h : Rp B v d) : Bw c B H v d := .inl h
theorem Bw.mono (g : Gr c B H B' H') (h : Bw c B H v d) : Bw c B' H' v d := by
  rcases h with h | ⟨p, vs, ds, h1, h2, h3, h4, h5, h6⟩
  · exact .inl (rp_mono g.b h)
  · refine .inr ⟨p, vs, ds, h1, h2, h3, ?_, g.h p _ h3 h5, rpa_mono g.b h6⟩
    rw [g.n p (by rw [h5]; exact fun q => nomatch q)]; exact h4
theorem Bw.rp (w : Wd c B H) (h : Bw c B H v d) : Rp H v d := by
  rcases h with h | ⟨p, vs, ds, rfl, rfl, h3, h4, h5, h6⟩
  · exact rp_mono w.sub h
  · exact .lst h5 (rpa_mono w.sub h6)
theorem Bw.list {ds : List D} (w : Wd c B H) (h : Bw c B H v (.list ds)) : ∃ a xs, v = .ref a ∧ H a = some (.lst xs) ∧ RpA B xs ds := by
  rcases h with h | ⟨p, vs, es, rfl, e, h3, h4, h5, h6⟩
  · obtain ⟨a, xs, rfl, h1, h2⟩ := rp_lst h
    exact ⟨a, xs, rfl, w.sub _ _ h1, h2⟩
  · cases e
    exact ⟨p, vs, rfl, h5, h6⟩
theorem Bw.tup {ds : List D} (w : Wd c B H) (h : Bw c B H v (.tuple ds)) : ∃ a xs, v = .ref a ∧ H a = some (.tup xs) ∧ RpA B xs ds := by
  rcases h with h | ⟨p, vs, es, rfl, e, h3, h4, h5, h6⟩
  · obtain ⟨a, xs, rfl, h1, h2⟩ := rp_tup h
    exact ⟨a, xs, rfl, w.sub _ _ h1, h2⟩
  · cases e
theorem Bw.int {i : Int} (h : Bw c B H v (.int i)) : v = .int i := by
  rcases h with h | ⟨p, vs, es, rfl, e, _⟩
  · exact rp_int h
  · cases e
theorem Bw.bl {i : Bool} (h : Bw c B H v (.bool i)) : v = .bl i := by
  rcases h with h | ⟨p, vs, es, rfl, e, _⟩
  · exact rp_bl h
  · cases e
theorem Bw.str {i : Str} (h : Bw c B H v (.str i)) : v = .str i := by
  rcases h with h | ⟨p, vs, es, rfl, e, _⟩
  · exact rp_str h
  · cases e
theorem Bw.non (h : Bw c B H v .none) : v = .non := by
  rcases h with h | ⟨p, vs, es, rfl, e, _⟩
  · exact rp_non h
  · cases e
end
/-- what slot holds what -/
def SlOk (c : C) (B H : Hp) (σ : St) (i : Nat) : Sl → Prop
  | .un => True
  | .sh d => ∃ v, σ[i]? = some (some v) ∧ Rp B v d
  | .ow ds => ∃ p vs, σ[i]? = some (some (.ref p)) ∧ c.H0 p = none ∧ ¬ c.isBag p ∧ B p = none ∧ H p = some (.lst vs) ∧ RpA B vs ds
  | .bg => σ[i]? = some (some (.ref c.pb))
structure EOk (c : C) (B H : Hp) (σ : St) (ρ : Env) : Prop where
  w0 : Wd c c.B0 c.H0
  w : Wd c B H
  g : Gr c c.B0 c.H0 B H
  len : ρ.length = σ.length
  sl : ∀ i s, ρ[i]? = some s → SlOk c B H σ i s
  ap : ∀ (i j : Nat) (p : Addr) (ds es : List D), i ≠ j → ρ[i]? = some (Sl.ow ds) → ρ[j]? = some (Sl.ow es) → σ[i]? = some (some (V.ref p)) → ¬ σ[j]? = some (some (V.ref p))
section
variable {c : C} {B H B' H' : Hp} {σ : St} {ρ : Env}
theorem SlOk.mono {i : Nat} {s : Sl} (g : Gr c B H B' H') (h : SlOk c B H σ i s) : SlOk c B' H' σ i s := by
  cases s with
  | un => trivial
  | sh d => obtain ⟨v, h1, h2⟩ := h; exact ⟨v, h1, rp_mono g.b h2⟩
  | ow ds =>
    obtain ⟨p, vs, h1, h2, h3, h4, h5, h6⟩ := h
    refine ⟨p, vs, h1, h2, h3, ?_, g.h p _ h3 h5, rpa_mono g.b h6⟩
    rw [g.n p (by rw [h5]; exact fun q => nomatch q)]; exact h4
  | bg => exact h
theorem EOk.mono (e : EOk c B H σ ρ) (g : Gr c B H B' H') : EOk c B' H' σ ρ :=
  ⟨e.w0, g.w, e.g.trans e.w0 g, e.len, fun i s h => (e.sl i s h).mono g, e.ap⟩
end
end DL
namespace DL
open PySem L2 PyProof.Rows
abbrev SE := Env → (D → Prop) → Prop
abbrev ST := Env → (Bool → Prop) → Prop
abbrev SA := Env → (List Sl → Prop) → Prop
/-- the i-th slot -/
def lk : Env → Nat → Sl
  | [], _ => .un
  | s :: _, 0 => s
  | _ :: r, n + 1 => lk r n
theorem lk_get : ∀ {ρ : Env} {i : Nat} {s : Sl}, lk ρ i = s → s ≠ .un → ρ[i]? = some s
  | [], _, _, h, n => by simp only [lk] at h; exact absurd h.symm n
  | s :: _, 0, _, h, _ => by simp only [lk] at h; rw [h]; rfl
  | _ :: r, i + 1, s, h, n => by
    have := lk_get (ρ := r) (i := i) (s := s) (by simpa only [lk] using h) n
    simpa using this
def Mono (f : SE) : Prop := ∀ ρ (Q Q' : D → Prop), (∀ d, Q d → Q' d) → f ρ Q → f ρ Q'
def MonoT (f : ST) : Prop := ∀ ρ (Q Q' : Bool → Prop), (∀ d, Q d → Q' d) → f ρ Q → f ρ Q'
def MonoA (f : SA) : Prop := ∀ ρ (Q Q' : List Sl → Prop), (∀ d, Q d → Q' d) → f ρ Q → f ρ Q'
def toV (c : C) (f : SE) : TE := fun σ H Q => ∃ B ρ, EOk c B H σ ρ ∧ f ρ fun d => ∀ v B' H', Gr c B H B' H' → Rp B' v d → Q v H'
def toB (c : C) (f : SE) : TE := fun σ H Q => ∃ B ρ, EOk c B H σ ρ ∧ f ρ fun d => ∀ v B' H', Gr c B H B' H' → Bw c B' H' v d → Q v H'
def toT (c : C) (f : ST) : TT := fun σ H Q => ∃ B ρ, EOk c B H σ ρ ∧ f ρ fun b => ∀ B' H', Gr c B H B' H' → Q b H'
/-- an argument -/
def ArgOk (c : C) (B H : Hp) (v : V) : Sl → Prop
  | .sh d => Rp B v d
  | .bg => v = .ref c.pb
  | _ => False
def ArgsOk (c : C) (B H : Hp) : List V → List Sl → Prop
  | [], [] => True
  | v :: vs, s :: ss => ArgOk c B H v s ∧ ArgsOk c B H vs ss
  | _, _ => False
def toA (c : C) (f : SA) : TA := fun σ H Q => ∃ B ρ, EOk c B H σ ρ ∧ f ρ fun ss => ∀ vs B' H', Gr c B H B' H' → ArgsOk c B' H' vs ss → Q vs H'
theorem ArgOk.mono {c : C} {B H B' H' : Hp} (g : Gr c B H B' H') {v : V} {s : Sl} (h : ArgOk c B H v s) : ArgOk c B' H' v s := by
  cases s with
  | sh d => exact rp_mono g.b h
  | bg => exact h
  | un => exact h
  | ow ds => exact h
theorem ArgsOk.mono {c : C} {B H B' H' : Hp} (g : Gr c B H B' H') : ∀ {vs : List V} {ss : List Sl}, ArgsOk c B H vs ss → ArgsOk c B' H' vs ss
  | [], [], _ => trivial
  | _ :: _, _ :: _, h => ⟨h.1.mono g, ArgsOk.mono g h.2⟩
  | [], _ :: _, h => h
  | _ :: _, [], h => h
structure PV (X : Cx) (c : C) (e : Expr) (f : SE) : Prop where
  mono : Mono f
  pe : PE X e (toV c f)
structure PB (X : Cx) (c : C) (e : Expr) (f : SE) : Prop where
  mono : Mono f
  pe : PE X e (toB c f)
structure PTd (X : Cx) (c : C) (e : Expr) (f : ST) : Prop where
  mono : MonoT f
  pt : PT X e (toT c f)
structure PAd (X : Cx) (c : C) (es : List Expr) (f : SA) : Prop where
  mono : MonoA f
  pa : PA X es (toA c f)
theorem pe_weak {X : Cx} {e : Expr} {t t' : TE} (h : PE X e t) (w : ∀ σ H Q, t' σ H Q → t σ H Q) : PE X e t' := ⟨fun pins s σ H Q I q => h.run pins s σ H Q I (w σ H Q q)⟩
theorem pt_weak {X : Cx} {e : Expr} {t t' : TT} (h : PT X e t) (w : ∀ σ H Q, t' σ H Q → t σ H Q) : PT X e t' := ⟨fun pins s σ H Q I q => h.run pins s σ H Q I (w σ H Q q)⟩
theorem pa_weak {X : Cx} {e : List Expr} {t t' : TA} (h : PA X e t) (w : ∀ σ H Q, t' σ H Q → t σ H Q) : PA X e t' := ⟨fun pos pins s σ H Q I q => h.run pos pins s σ H Q I (w σ H Q q)⟩
theorem ps_weak {X : Cx} {e : Stmt} {t t' : TS} (h : PS X e t) (w : ∀ D σ H, t' D σ H → t D σ H) : PS X e t' := ⟨fun pins s σ H D I q => h.run pins s σ H D I (w D σ H q)⟩
theorem pss_weak {X : Cx} {e : List Stmt} {t t' : TS} (h : PSs X e t) (w : ∀ D σ H, t' D σ H → t D σ H) : PSs X e t' := ⟨fun pins s σ H D I q => h.run pins s σ H D I (w D σ H q)⟩
section
variable {X : Cx} {c : C}
/-- what stands may be read -/
theorem PV.b {e : Expr} {f : SE} (h : PV X c e f) : PB X c e f :=
  ⟨h.mono, pe_weak h.pe fun σ H Q ⟨B, ρ, ok, q⟩ => ⟨B, ρ, ok, h.mono _ _ _ (fun d k v B' H' g r => k v B' H' g (.inl r)) q⟩⟩
/-! ### names, constants -/
def fV (i : Nat) : SE := fun ρ Q => match lk ρ i with | .sh d => Q d | _ => False
def fN (i : Nat) : SE := fun ρ Q => match lk ρ i with | .sh d => Q d | .ow ds => Q (.list ds) | _ => False
def fC (d : D) : SE := fun _ Q => Q d
theorem v_name (i : Nat) {x : Str} {pos : Pos} (hN : X.N[i]? = some x := by rfl) (hv : Vis X.env.scope x := by first | exact Or.inl rfl | exact Or.inr (Or.inl rfl) | exact Or.inr (Or.inr rfl))
    (hd : (x == ("__debug__" : Str)) = false := by decide) (hcd : (x == ("__classdict__" : Str)) = false := by decide) : PV X c (.Name x pos) (fV i) := by
  refine ⟨fun ρ Q Q' k h => ?_, pe_weak (pe_var hN hv hd hcd) fun σ H Q ⟨B, ρ, ok, h⟩ => ?_⟩
  · unfold fV at h ⊢
    cases e : lk ρ i with
    | sh d => rw [e] at h; exact k d h
    | _ => rw [e] at h; exact h
  · unfold fV at h
    cases e : lk ρ i with
    | sh d =>
      rw [e] at h
      obtain ⟨v, h1, h2⟩ := ok.sl i _ (lk_get e (fun z => nomatch z))
      exact ⟨v, h1, h v B H (Gr.refl ok.w) h2⟩
    | _ => rw [e] at h; exact h.elim
theorem b_name (i : Nat) {x : Str} {pos : Pos} (hN : X.N[i]? = some x := by rfl) (hv : Vis X.env.scope x := by first | exact Or.inl rfl | exact Or.inr (Or.inl rfl) | exact Or.inr (Or.inr rfl))
    (hd : (x == ("__debug__" : Str)) = false := by decide) (hcd : (x == ("__classdict__" : Str)) = false := by decide) : PB X c (.Name x pos) (fN i) := by
  refine ⟨fun ρ Q Q' k h => ?_, pe_weak (pe_var hN hv hd hcd) fun σ H Q ⟨B, ρ, ok, h⟩ => ?_⟩
  · unfold fN at h ⊢
    cases e : lk ρ i with
    | sh d => rw [e] at h; exact k d h
    | ow d => rw [e] at h; exact k _ h
    | _ => rw [e] at h; exact h
  · unfold fN at h
    cases e : lk ρ i with
    | sh d =>
      rw [e] at h
      obtain ⟨v, h1, h2⟩ := ok.sl i _ (lk_get e (fun z => nomatch z))
      exact ⟨v, h1, h v B H (Gr.refl ok.w) (.inl h2)⟩
    | ow ds =>
      rw [e] at h
      obtain ⟨p, vs, h1, h2, h3, h4, h5, h6⟩ := ok.sl i _ (lk_get e (fun z => nomatch z))
      exact ⟨_, h1, h _ B H (Gr.refl ok.w) (.inr ⟨p, vs, ds, rfl, rfl, h3, h4, h5, h6⟩)⟩
    | _ => rw [e] at h; exact h.elim
theorem mono_C {d : D} : Mono (fC d) := fun _ _ _ k h => k _ h
theorem cst {e : Expr} {v : V} {d : D} (h : PE X e (tC v)) (r : ∀ B, Rp B v d) : PV X c e (fC d) :=
  ⟨mono_C, pe_weak h fun σ H Q ⟨B, ρ, ok, q⟩ => q v B H (Gr.refl ok.w) (r B)⟩
theorem v_int {i : Int} {j : Nat} {pos : Pos} : PV X c (.Constant (.int i) j pos) (fC (.int i)) := cst pe_int fun _ => .int i
theorem v_bl {i : Bool} {j : Nat} {pos : Pos} : PV X c (.Constant (.bool i) j pos) (fC (.bool i)) := cst pe_bl fun _ => .bl i
theorem v_non {j : Nat} {pos : Pos} : PV X c (.Constant .none j pos) (fC .none) := cst pe_non fun _ => .non
theorem v_str {i : Str} {j : Nat} {pos : Pos} : PV X c (.Constant (.str i) j pos) (fC (.str i)) := cst pe_str fun _ => .str i
/-- a module's constant that is an int -/
theorem v_glob {x : Str} {i : Int} {t : Tok} {pos : Pos} (hg : Gl X x) (hm : X.mg x = some (.int i t)) (hd : (x == ("__debug__" : Str)) = false := by decide) : PV X c (.Name x pos) (fC (.int i)) :=
  cst (v := .int i) (pe_glob hg hm ⟨t, rfl⟩ hd) fun _ => .int i
/-! ### two-place operations -/
abbrev G2 := D → D → (D → Prop) → Prop
def MonoG (g : G2) : Prop := ∀ d e (Q Q' : D → Prop), (∀ z, Q z → Q' z) → g d e Q → g d e Q'
def rD (c : C) (g : G2) : R2 := fun x y H Q => ∃ B d e, Wd c B H ∧ Bw c B H x d ∧ Bw c B H y e ∧ g d e fun z => ∀ v B' H', Gr c B H B' H' → Rp B' v z → Q v H'
structure OpD (X : Cx) (c : C) (f : Value → Value → Sem Value) (g : G2) : Prop where
  mono : MonoG g
  op : OpR X f (rD c g)
theorem opr_weak {f : Value → Value → Sem Value} {r r' : R2} (h : OpR X f r) (w : ∀ x y H Q, r' x y H Q → r x y H Q) : OpR X f r' := fun pins s σ H x y v u Q I rx ry q => h pins s σ H x y v u Q I rx ry (w x y H Q q)
def fBin (g : G2) (fa fb : SE) : SE := fun ρ Q => fa ρ fun d => fb ρ fun e => g d e Q
theorem mono_Bin {g : G2} {fa fb : SE} (hg : MonoG g) (ha : Mono fa) (hb : Mono fb) : Mono (fBin g fa fb) := fun ρ Q Q' k h =>
  ha ρ _ _ (fun d hd => hb ρ _ _ (fun e he => hg d e _ _ k he) hd) h
theorem bin_go {g : G2} {fa fb : SE} (hg : MonoG g) (ha : Mono fa) (hb : Mono fb) (σ : L2.St) (H : Hp) (Q : VK) (h : toV c (fBin g fa fb) σ H Q) : tOp (rD c g) (toB c fa) (toB c fb) σ H Q := by
  obtain ⟨B, ρ, ok, h⟩ := h
  refine ⟨B, ρ, ok, ha _ _ _ (fun d hd v B1 H1 g1 r1 => ?_) h⟩
  refine ⟨B1, ρ, ok.mono g1, hb _ _ _ (fun e he u B2 H2 g2 r2 => ?_) hd⟩
  exact ⟨B2, d, e, g2.w, r1.mono g2, r2, hg _ _ _ _ (fun z hz w B3 H3 g3 r3 => hz w B3 H3 ((g1.trans ok.w g2).trans ok.w g3) r3) he⟩
theorem v_bin {op : Operator} {g : G2} {a b : Expr} {fa fb : SE} {pos : Pos} (ho : OpD X c (binaryOp op) g) (ha : PB X c a fa) (hb : PB X c b fb) : PV X c (.BinOp a op b pos) (fBin g fa fb) :=
  ⟨mono_Bin ho.mono ha.mono hb.mono, pe_weak (pe_op ho.op ha.pe hb.pe) (bin_go ho.mono ha.mono hb.mono)⟩
def gSub : G2 | .int i, .int j, Q => Q (.int (i - j)) | _, _, _ => False
def gAdd : G2
  | .int i, .int j, Q => Q (.int (i + j))
  | .tuple xs, .tuple ys, Q => xs.length + ys.length ≤ sizeLine ∧ Q (.tuple (xs ++ ys))
  | .list xs, .list ys, Q => xs.length + ys.length ≤ sizeLine ∧ Q (.list (xs ++ ys))
  | .str x, .str y, Q => x.length + y.length ≤ sizeLine ∧ Q (.str (x ++ y))
  | _, _, _ => False
def gMul : G2 | .int i, .int j, Q => CMulW i j ∧ Q (.int (i * j)) | _, _, _ => False
def gDiv : G2 | .int i, .int j, Q => j.natAbs.log2 < 9000 ∧ (if 0 < j then Q (.int (i / j)) else j ≠ 0 ∧ Q (.int (i.fdiv j))) | _, _, _ => False
def gMod : G2 | .int i, .int j, Q => (if 0 < j then Q (.int (i % j)) else j ≠ 0 ∧ Q (.int (i.fmod j))) | _, _, _ => False
def gPow : G2 | .int i, .int j, Q => CPow i j ∧ Q (.int (i ^ j.toNat)) | _, _, _ => False
def gShl : G2 | .int i, .int j, Q => CPow i j ∧ Q (.int (i * 2 ^ j.toNat)) | _, _, _ => False
def gShr : G2 | .int i, .int j, Q => 0 ≤ j ∧ Q (.int (i / 2 ^ j.toNat)) | _, _, _ => False
theorem opd_int {f : Value → Value → Sem Value} {g : G2} {P : Int → Int → Prop} {k : Int → Int → Int} (h : OpR X f (rI P fun i j => .int (k i j)))
    (hg : ∀ d e Q, g d e Q → ∃ i j, d = .int i ∧ e = .int j ∧ P i j ∧ Q (.int (k i j))) (m : MonoG g) : OpD X c f g :=
  ⟨m, opr_weak h fun x y H Q ⟨B, d, e, w, r1, r2, q⟩ => by
    obtain ⟨i, j, e1, e2, p, q2⟩ := hg d e _ q
    subst e1 e2
    exact ⟨i, j, r1.int, r2.int, p, q2 _ B H (Gr.refl w) (.int _)⟩⟩
theorem rI0_I {f : Value → Value → Sem Value} {k : Int → Int → V} (h : OpR X f (rI0 k)) : OpR X f (rI (fun _ _ => True) k) := opr_weak h fun _ _ _ _ ⟨i, j, h1, h2, _, h3⟩ => ⟨i, j, h1, h2, h3⟩
theorem m_Sub : MonoG gSub := fun d e Q Q' k h => by cases d <;> cases e <;> first | exact k _ h | exact h.elim
theorem o_sub : OpD X c (binaryOp .Sub) gSub := opd_int (rI0_I op_sub) (fun d e Q h => by cases d <;> cases e <;> first | exact ⟨_, _, rfl, rfl, trivial, h⟩ | exact h.elim) m_Sub
theorem m_Mul : MonoG gMul := fun d e Q Q' k h => by cases d <;> cases e <;> first | exact ⟨h.1, k _ h.2⟩ | exact h.elim
theorem o_mul : OpD X c (binaryOp .Mult) gMul := opd_int op_mulW (fun d e Q h => by cases d <;> cases e <;> first | exact ⟨_, _, rfl, rfl, h.1, h.2⟩ | exact h.elim) m_Mul
theorem m_Pow : MonoG gPow := fun d e Q Q' k h => by cases d <;> cases e <;> first | exact ⟨h.1, k _ h.2⟩ | exact h.elim
theorem o_pow : OpD X c (binaryOp .Pow) gPow := opd_int op_pow (fun d e Q h => by cases d <;> cases e <;> first | exact ⟨_, _, rfl, rfl, h.1, h.2⟩ | exact h.elim) m_Pow
theorem m_Shl : MonoG gShl := fun d e Q Q' k h => by cases d <;> cases e <;> first | exact ⟨h.1, k _ h.2⟩ | exact h.elim
theorem o_shl : OpD X c (binaryOp .LShift) gShl := opd_int op_shl (fun d e Q h => by cases d <;> cases e <;> first | exact ⟨_, _, rfl, rfl, h.1, h.2⟩ | exact h.elim) m_Shl
theorem m_Shr : MonoG gShr := fun d e Q Q' k h => by cases d <;> cases e <;> first | exact ⟨h.1, k _ h.2⟩ | exact h.elim
theorem o_shr : OpD X c (binaryOp .RShift) gShr := opd_int (P := fun _ j => 0 ≤ j) op_shr (fun d e Q h => by cases d <;> cases e <;> first | exact ⟨_, _, rfl, rfl, h.1, h.2⟩ | exact h.elim) m_Shr
theorem op_fdivA : OpR X (binaryOp .FloorDiv) (rI (fun _ j => j ≠ 0 ∧ j.natAbs.log2 < 9000) fun i j => .int (i.fdiv j)) := opI fun i j _ _ _ _ _ hc q => by
  exact floordiv_int hc.1 q (.inl (PyProof.noPylong_of_log2 hc.2))
theorem m_Div : MonoG gDiv := fun d e Q Q' k h => by
  cases d <;> cases e <;> first
    | exact h.elim
    | (refine ⟨h.1, ?_⟩
       have h2 := h.2
       split at h2
       · rw [if_pos (by assumption)]; exact k _ h2
       · rw [if_neg (by assumption)]; exact ⟨h2.1, k _ h2.2⟩)
theorem o_div : OpD X c (binaryOp .FloorDiv) gDiv := opd_int op_fdivA (fun d e Q h => by
  cases d <;> cases e <;> first
    | exact h.elim
    | (refine ⟨_, _, rfl, rfl, ?_⟩
       obtain ⟨h1, h2⟩ := h
       split at h2
       · rename_i hp
         exact ⟨⟨by omega, h1⟩, by rw [Int.fdiv_eq_ediv_of_nonneg _ (by omega)]; exact h2⟩
       · exact ⟨⟨h2.1, h1⟩, h2.2⟩)) m_Div
theorem m_Mod : MonoG gMod := fun d e Q Q' k h => by
  cases d <;> cases e <;> first
    | exact h.elim
    | (have h2 := h
       simp only [gMod] at h2 ⊢
       split at h2
       · rw [if_pos (by assumption)]; exact k _ h2
       · rw [if_neg (by assumption)]; exact ⟨h2.1, k _ h2.2⟩)
theorem o_mod : OpD X c (binaryOp .Mod) gMod := opd_int op_modN (fun d e Q h => by
  cases d <;> cases e <;> first
    | exact h.elim
    | (refine ⟨_, _, rfl, rfl, ?_⟩
       have h2 := h
       simp only [gMod] at h2
       split at h2
       · rename_i hp
         exact ⟨by omega, by rw [Int.fmod_eq_emod_of_nonneg _ (by omega)]; exact h2⟩
       · exact ⟨h2.1, h2.2⟩)) m_Mod
theorem m_Add : MonoG gAdd := fun d e Q Q' k h => by cases d <;> cases e <;> first | exact k _ h | exact ⟨h.1, k _ h.2⟩ | exact h.elim
theorem o_add : OpD X c (binaryOp .Add) gAdd := by
  refine ⟨m_Add, fun pins s σ H x y v u Q I rx ry ⟨B, d, e, w, r1, r2, q⟩ => ?_⟩
  cases d <;> cases e <;> first | exact q.elim | skip
  · exact op_add pins s σ H x y v u Q I rx ry ⟨_, _, r1.int, r2.int, q _ B H (Gr.refl w) (.int _)⟩
  · exact op_add_str pins s σ H x y v u Q I rx ry ⟨_, _, r1.str, r2.str, q.1, q.2 _ B H (Gr.refl w) (.str _)⟩
  · obtain ⟨a, xs, rfl, h1, h2⟩ := r1.list w
    obtain ⟨b, ys, rfl, h3, h4⟩ := r2.list w
    refine op_cat pins s σ H _ _ v u Q I rx ry ⟨a, b, xs, ys, rfl, rfl, h1, h3, ?_, fun p hp => ?_⟩
    · rw [rpa_len h2, rpa_len h4]; exact q.1
    · have g := Gr.new (o := .lst (xs ++ ys)) w hp
      exact q.2 _ _ _ g (.lst upd_same (rpa_app (rpa_mono g.b h2) (rpa_mono g.b h4)))
  · obtain ⟨a, xs, rfl, h1, h2⟩ := r1.tup w
    obtain ⟨b, ys, rfl, h3, h4⟩ := r2.tup w
    refine op_catA pins s σ H _ _ v u Q I rx ry ⟨a, b, xs, ys, rfl, rfl, SqT.of h1, SqT.of h3, ?_, fun z => ?_, fun _ z => ?_, fun _ _ p hp => ?_⟩
    · rw [rpa_len h2, rpa_len h4]; exact q.1
    · have z' := (rpa_nil_iff h2).mp z
      subst z'
      rcases r2 with r2 | ⟨_, _, _, _, e, _⟩
      · exact q.2 _ B H (Gr.refl w) r2
      · cases e
    · have z' := (rpa_nil_iff h4).mp z
      subst z'
      rcases r1 with r1 | ⟨_, _, _, _, e, _⟩
      · have q2 := q.2
        rw [List.append_nil] at q2
        exact q2 _ B H (Gr.refl w) r1
      · cases e
    · have g := Gr.new (o := .tup (xs ++ ys)) w hp
      exact q.2 _ _ _ g (.tup upd_same (rpa_app (rpa_mono g.b h2) (rpa_mono g.b h4)))
/-! ### one place -/
def fNeg (fa : SE) : SE := fun ρ Q => fa ρ fun d => match d with | .int i => Q (.int (-i)) | _ => False
theorem v_neg {a : Expr} {fa : SE} {pos : Pos} (ha : PB X c a fa) : PV X c (.UnaryOp .USub a pos) (fNeg fa) := by
  refine ⟨fun ρ Q Q' k h => ha.mono _ _ _ (fun d hd => ?_) h, pe_weak (pe_un un_neg ha.pe) fun σ H Q ⟨B, ρ, ok, h⟩ => ?_⟩
  · cases d <;> first | exact k _ hd | exact hd.elim
  · refine ⟨B, ρ, ok, ha.mono _ _ _ (fun d hd v B1 H1 g1 r1 => ?_) h⟩
    cases d <;> first | exact hd.elim | skip
    rename_i i
    exact ⟨i, r1.int, hd _ B1 H1 g1 (.int _)⟩
/-! ### comparisons -/
abbrev GC := D → D → (Bool → Prop) → Prop
def MonoC (g : GC) : Prop := ∀ d e (Q Q' : Bool → Prop), (∀ z, Q z → Q' z) → g d e Q → g d e Q'
def rC (c : C) (g : GC) : R2 := fun x y H Q => ∃ B d e, Wd c B H ∧ Bw c B H x d ∧ Bw c B H y e ∧ g d e fun b => Q (.bl b) H
structure CmpD (X : Cx) (c : C) (op : CmpOp) (g : GC) : Prop where
  mono : MonoC g
  op : OpR X (compareOp op) (rC c g)
def gv (g : GC) : G2 := fun d e Q => g d e fun b => Q (.bool b)
def fCmp (g : GC) (fa fb : SE) : ST := fun ρ Q => fa ρ fun d => fb ρ fun e => g d e Q
theorem CmpD.v {op : CmpOp} {g : GC} (h : CmpD X c op g) : OpD X c (compareOp op) (gv g) :=
  ⟨fun d e Q Q' k q => h.mono d e _ _ (fun b hb => k _ hb) q, opr_weak h.op fun x y H Q ⟨B, d, e, w, r1, r2, q⟩ => ⟨B, d, e, w, r1, r2, h.mono _ _ _ _ (fun b hb => hb _ B H (Gr.refl w) (.bl b)) q⟩⟩
theorem v_cmp {op : CmpOp} {g : GC} {a b : Expr} {fa fb : SE} {pos : Pos} (ho : CmpD X c op g) (ha : PB X c a fa) (hb : PB X c b fb) (hm : behindInMarks op b = false := by first | exact nomark _ | with_unfolding_all rfl) : PV X c (.Compare a [op] [b] pos) (fBin (gv g) fa fb) :=
  ⟨mono_Bin ho.v.mono ha.mono hb.mono, pe_weak (pe_cmpR ho.v.op ha.pe hb.pe hm) (bin_go ho.v.mono ha.mono hb.mono)⟩
theorem t_cmp {op : CmpOp} {g : GC} {a b : Expr} {fa fb : SE} {pos : Pos} (ho : CmpD X c op g) (ha : PB X c a fa) (hb : PB X c b fb) (hm : behindInMarks op b = false := by first | exact nomark _ | with_unfolding_all rfl) : PTd X c (.Compare a [op] [b] pos) (fCmp g fa fb) := by
  refine ⟨fun ρ Q Q' k h => ha.mono _ _ _ (fun d hd => hb.mono _ _ _ (fun e he => ho.mono _ _ _ _ k he) hd) h, pt_weak (pt_cmpR ho.op ha.pe hb.pe hm) fun σ H Q ⟨B, ρ, ok, h⟩ => ?_⟩
  refine ⟨B, ρ, ok, ha.mono _ _ _ (fun d hd v B1 H1 g1 r1 => ?_) h⟩
  refine ⟨B1, ρ, ok.mono g1, hb.mono _ _ _ (fun e he u B2 H2 g2 r2 => ?_) hd⟩
  exact ⟨B2, d, e, g2.w, r1.mono g2, r2, ho.mono _ _ _ _ (fun b hb => ⟨b, rfl, hb B2 H2 (g1.trans ok.w g2)⟩) he⟩
def gLt : GC | .int i, .int j, Q => Q (decide (i < j)) | _, _, _ => False
def gLe : GC | .int i, .int j, Q => Q (decide (i ≤ j)) | _, _, _ => False
def gGt : GC | .int i, .int j, Q => Q (decide (j < i)) | _, _, _ => False
def gGe : GC | .int i, .int j, Q => Q (decide (j ≤ i)) | _, _, _ => False
theorem cmpd_int {op : CmpOp} {g : GC} {k : Int → Int → Bool} (h : OpR X (compareOp op) (rI0 fun i j => .bl (k i j))) (hg : ∀ d e Q, g d e Q → ∃ i j, d = .int i ∧ e = .int j ∧ Q (k i j)) (m : MonoC g) : CmpD X c op g :=
  ⟨m, opr_weak h fun x y H Q ⟨B, d, e, w, r1, r2, q⟩ => by
    obtain ⟨i, j, e1, e2, q2⟩ := hg d e _ q
    subst e1 e2
    exact ⟨i, j, r1.int, r2.int, q2⟩⟩
theorem m_Lt : MonoC gLt := fun d e Q Q' k h => by cases d <;> cases e <;> first | exact k _ h | exact h.elim
theorem m_Le : MonoC gLe := fun d e Q Q' k h => by cases d <;> cases e <;> first | exact k _ h | exact h.elim
theorem m_Gt : MonoC gGt := fun d e Q Q' k h => by cases d <;> cases e <;> first | exact k _ h | exact h.elim
theorem m_Ge : MonoC gGe := fun d e Q Q' k h => by cases d <;> cases e <;> first | exact k _ h | exact h.elim
theorem o_lt : CmpD X c .Lt gLt := cmpd_int op_lt (fun d e Q h => by cases d <;> cases e <;> first | exact ⟨_, _, rfl, rfl, h⟩ | exact h.elim) m_Lt
theorem o_le : CmpD X c .LtE gLe := cmpd_int op_le (fun d e Q h => by cases d <;> cases e <;> first | exact ⟨_, _, rfl, rfl, h⟩ | exact h.elim) m_Le
theorem o_gt : CmpD X c .Gt gGt := cmpd_int op_gt (fun d e Q h => by cases d <;> cases e <;> first | exact ⟨_, _, rfl, rfl, h⟩ | exact h.elim) m_Gt
theorem o_ge : CmpD X c .GtE gGe := cmpd_int op_ge (fun d e Q h => by cases d <;> cases e <;> first | exact ⟨_, _, rfl, rfl, h⟩ | exact h.elim) m_Ge
/-- equality: ints by themselves, else data -/
def gEq : GC
  | .int i, .int j, Q => Q (decide (i = j))
  | .str x, .str y, Q => Q (decide (x = y))
  | .bool a, .bool b, Q => Q (decide (a = b))
  | d, e, Q => SeqAt.shaped d = true ∧ SeqAt.shaped e = true ∧ Q (PyData.eqv d e)
def gNe : GC
  | .int i, .int j, Q => Q (!decide (i = j))
  | .str x, .str y, Q => Q (!decide (x = y))
  | .bool a, .bool b, Q => Q (!decide (a = b))
  | d, e, Q => SeqAt.shaped d = true ∧ SeqAt.shaped e = true ∧ Q (!PyData.eqv d e)
theorem m_Eq : MonoC gEq := fun d e Q Q' k h => by
  unfold gEq at h ⊢
  split at h <;> first | exact k _ h | exact ⟨h.1, h.2.1, k _ h.2.2⟩
theorem m_Ne : MonoC gNe := fun d e Q Q' k h => by
  unfold gNe at h ⊢
  split at h <;> first | exact k _ h | exact ⟨h.1, h.2.1, k _ h.2.2⟩
theorem eqv_int (i j : Int) : PyData.eqv (.int i) (.int j) = decide (i = j) := by
  simp only [PyData.eqv]
  rfl
theorem shaped_int (i : Int) : SeqAt.shaped (.int i) = true := by simp [SeqAt.shaped, PyData.canLay0, PyData.depth]
theorem opr_or {f : Value → Value → Sem Value} {r r' : R2} (h : OpR X f r) (h' : OpR X f r') : OpR X f fun x y H Q => r x y H Q ∨ r' x y H Q := fun pins s σ H x y v u Q I rx ry q => q.elim (h pins s σ H x y v u Q I rx ry) (h' pins s σ H x y v u Q I rx ry)
theorem o_eq (hu : X.A.units + 64 < cLine) : CmpD X c .Eq gEq := by
  refine ⟨m_Eq, opr_weak (opr_or (op_eqD hu) op_eq) fun x y H Q ⟨B, d, e, w, r1, r2, q⟩ => ?_⟩
  have gen : (SeqAt.shaped d = true ∧ SeqAt.shaped e = true ∧ Q (.bl (PyData.eqv d e)) H) → rEqD X.K x y H Q ∨ rEq x y H Q := fun q' =>
    .inl ⟨d, e, rp_dp (r1.rp w) (SeqAt.canLay_of_shaped q'.1), rp_dp (r2.rp w) (SeqAt.canLay_of_shaped q'.2.1), q'.1, q'.2.1, q'.2.2⟩
  unfold gEq at q
  split at q
  · exact gen ⟨shaped_int _, shaped_int _, by rw [eqv_int]; exact q⟩
  · rw [r1.str, r2.str]
    refine .inr ⟨rfl, ?_⟩
    simpa using q
  · rw [r1.bl, r2.bl]
    refine .inr ⟨rfl, ?_⟩
    simpa using q
  · exact gen q
theorem o_ne (hu : X.A.units + 64 < cLine) : CmpD X c .NotEq gNe := by
  refine ⟨m_Ne, opr_weak (opr_or (op_neD hu) op_ne) fun x y H Q ⟨B, d, e, w, r1, r2, q⟩ => ?_⟩
  have gen : (SeqAt.shaped d = true ∧ SeqAt.shaped e = true ∧ Q (.bl (!PyData.eqv d e)) H) → rNeD X.K x y H Q ∨ rNe x y H Q := fun q' =>
    .inl ⟨d, e, rp_dp (r1.rp w) (SeqAt.canLay_of_shaped q'.1), rp_dp (r2.rp w) (SeqAt.canLay_of_shaped q'.2.1), q'.1, q'.2.1, q'.2.2⟩
  unfold gNe at q
  split at q
  · exact gen ⟨shaped_int _, shaped_int _, by rw [eqv_int]; exact q⟩
  · rw [r1.str, r2.str]
    refine .inr ⟨rfl, ?_⟩
    simpa using q
  · rw [r1.bl, r2.bl]
    refine .inr ⟨rfl, ?_⟩
    simpa using q
  · exact gen q
/-- is None -/
def isNone : D → Bool | .none => true | _ => false
def gIsN : GC | d, .none, Q => Q (isNone d) | _, _, _ => False
def gNotN : GC | d, .none, Q => Q (!isNone d) | _, _, _ => False
theorem m_IsN : MonoC gIsN := fun d e Q Q' k h => by cases e <;> first | exact k _ h | exact h.elim
theorem m_NotN : MonoC gNotN := fun d e Q Q' k h => by cases e <;> first | exact k _ h | exact h.elim
theorem bw_none {B H : Hp} {v : V} {d : D} (r : Bw c B H v d) : decide (v = .non) = isNone d := by
  rcases r with r | ⟨p, vs, ds, rfl, rfl, _⟩
  · cases r <;> rfl
  · rfl
theorem o_isN : CmpD X c .Is gIsN := ⟨m_IsN, opr_weak op_isN fun x y H Q ⟨B, d, e, w, r1, r2, q⟩ => by
  cases e <;> first | exact q.elim | exact ⟨r2.non, by rw [bw_none r1]; exact q⟩⟩
theorem o_notN : CmpD X c .IsNot gNotN := ⟨m_NotN, opr_weak op_notN fun x y H Q ⟨B, d, e, w, r1, r2, q⟩ => by
  cases e <;> first | exact q.elim | exact ⟨r2.non, by rw [bw_none r1]; exact q⟩⟩
/-! ### truth -/
def fTV (fa : SE) : ST := fun ρ Q => fa ρ fun d => match d with | .bool b => Q b | _ => False
theorem t_val {e : Expr} {fa : SE} (ha : PB X c e fa) (he : ∀ whole, isTrue e X.env whole = (do let v ← whole; standAt e.pos; holding [v] (truthy v)) := by intro _; rfl) : PTd X c e (fTV fa) := by
  refine ⟨fun ρ Q Q' k h => ha.mono _ _ _ (fun d hd => ?_) h, pt_weak (pt_val ha.pe he) fun σ H Q ⟨B, ρ, ok, h⟩ => ?_⟩
  · cases d <;> first | exact k _ hd | exact hd.elim
  · refine ⟨B, ρ, ok, ha.mono _ _ _ (fun d hd v B1 H1 g1 r1 => ?_) h⟩
    cases d <;> first | exact hd.elim | skip
    rename_i i
    exact ⟨i, r1.bl, hd B1 H1 g1⟩
def fNot (fa : ST) : ST := fun ρ Q => fa ρ fun b => Q (!b)
theorem t_not {a : Expr} {fa : ST} {pos : Pos} (ha : PTd X c a fa) : PTd X c (.UnaryOp .Not a pos) (fNot fa) :=
  ⟨fun ρ Q Q' k h => ha.mono _ _ _ (fun b hb => k _ hb) h, pt_weak (pt_not ha.pt) fun σ H Q ⟨B, ρ, ok, h⟩ => ⟨B, ρ, ok, h⟩⟩
/-- a chain of and, of or -/
structure PWd (X : Cx) (c : C) (e : Expr) (f : ST) : Prop where
  mono : MonoT f
  pw : PW X e (toT c f)
theorem pw_weak {X : Cx} {e : Expr} {t t' : TT} (h : PW X e t) (w : ∀ σ H Q, t' σ H Q → t σ H Q) : PW X e t' := ⟨fun wh pins s σ H Q I q => h.run wh pins s σ H Q I (w σ H Q q)⟩
def fAnd (fa fb : ST) : ST := fun ρ Q => fa ρ fun b => if b = true then fb ρ Q else Q false
def fOr (fa fb : ST) : ST := fun ρ Q => fa ρ fun b => if b = true then Q true else fb ρ Q
theorem PWd.t {e : Expr} {f : ST} (h : PWd X c e f) : PTd X c e f := ⟨h.mono, h.pw.pt⟩
theorem w_and1 {a : Expr} {fa : ST} {pos : Pos} (ha : PTd X c a fa) : PWd X c (.BoolOp .And [a] pos) fa := ⟨ha.mono, pw_and1 ha.pt⟩
theorem w_or1 {a : Expr} {fa : ST} {pos : Pos} (ha : PTd X c a fa) : PWd X c (.BoolOp .Or [a] pos) fa := ⟨ha.mono, pw_or1 ha.pt⟩
theorem mono_And {fa fb : ST} (ha : MonoT fa) (hb : MonoT fb) : MonoT (fAnd fa fb) := fun ρ Q Q' k h => ha _ _ _ (fun b hd => by
  cases b with
  | true => exact hb _ _ _ k hd
  | false => exact k _ hd) h
theorem mono_Or {fa fb : ST} (ha : MonoT fa) (hb : MonoT fb) : MonoT (fOr fa fb) := fun ρ Q Q' k h => ha _ _ _ (fun b hd => by
  cases b with
  | true => exact k _ hd
  | false => exact hb _ _ _ k hd) h
theorem w_and {a b : Expr} {rest : List Expr} {fa fb : ST} {pos : Pos} (ha : PTd X c a fa) (hb : PWd X c (.BoolOp .And (b :: rest) pos) fb) : PWd X c (.BoolOp .And (a :: b :: rest) pos) (fAnd fa fb) := by
  refine ⟨mono_And ha.mono hb.mono, pw_weak (pw_and ha.pt hb.pw) fun σ H Q ⟨B, ρ, ok, h⟩ => ⟨B, ρ, ok, ha.mono _ _ _ (fun d hd B1 H1 g1 => ?_) h⟩⟩
  cases d with
  | true => exact ⟨B1, ρ, ok.mono g1, hb.mono _ _ _ (fun e he B2 H2 g2 => he B2 H2 (g1.trans ok.w g2)) hd⟩
  | false => exact hd B1 H1 g1
theorem w_or {a b : Expr} {rest : List Expr} {fa fb : ST} {pos : Pos} (ha : PTd X c a fa) (hb : PWd X c (.BoolOp .Or (b :: rest) pos) fb) : PWd X c (.BoolOp .Or (a :: b :: rest) pos) (fOr fa fb) := by
  refine ⟨mono_Or ha.mono hb.mono, pw_weak (pw_or ha.pt hb.pw) fun σ H Q ⟨B, ρ, ok, h⟩ => ⟨B, ρ, ok, ha.mono _ _ _ (fun d hd B1 H1 g1 => ?_) h⟩⟩
  cases d with
  | false => exact ⟨B1, ρ, ok.mono g1, hb.mono _ _ _ (fun e he B2 H2 g2 => he B2 H2 (g1.trans ok.w g2)) hd⟩
  | true => exact hd B1 H1 g1
/-- as values -/
def fAndV (fa fb : SE) : SE := fun ρ Q => fa ρ fun d => match d with | .bool b => if b = true then fb ρ Q else Q (.bool false) | _ => False
def fOrV (fa fb : SE) : SE := fun ρ Q => fa ρ fun d => match d with | .bool b => if b = true then Q (.bool true) else fb ρ Q | _ => False
def fNotV (fa : SE) : SE := fun ρ Q => fa ρ fun d => match d with | .bool b => Q (.bool (!b)) | _ => False
theorem v_one {op : BoolOp} {a : Expr} {fa : SE} {pos : Pos} (ha : PV X c a fa) : PV X c (.BoolOp op [a] pos) fa := ⟨ha.mono, pe_one ha.pe⟩
theorem v_and {a b : Expr} {rest : List Expr} {fa fb : SE} {pos : Pos} (ha : PB X c a fa) (hb : PV X c (.BoolOp .And (b :: rest) pos) fb) : PV X c (.BoolOp .And (a :: b :: rest) pos) (fAndV fa fb) := by
  refine ⟨fun ρ Q Q' k h => ha.mono _ _ _ (fun d hd => ?_) h, pe_weak (pe_and ha.pe hb.pe) fun σ H Q ⟨B, ρ, ok, h⟩ => ⟨B, ρ, ok, ha.mono _ _ _ (fun d hd v B1 H1 g1 r1 => ?_) h⟩⟩
  · cases d <;> first | exact hd.elim | skip
    rename_i b
    cases b with
    | true => exact hb.mono _ _ _ k hd
    | false => exact k _ hd
  · cases d <;> first | exact hd.elim | skip
    rename_i b
    refine ⟨b, r1.bl, ?_⟩
    cases b with
    | true => exact ⟨B1, ρ, ok.mono g1, hb.mono _ _ _ (fun e he v B2 H2 g2 => he v B2 H2 (g1.trans ok.w g2)) hd⟩
    | false => exact hd _ B1 H1 g1 (.bl _)
theorem v_or {a b : Expr} {rest : List Expr} {fa fb : SE} {pos : Pos} (ha : PB X c a fa) (hb : PV X c (.BoolOp .Or (b :: rest) pos) fb) : PV X c (.BoolOp .Or (a :: b :: rest) pos) (fOrV fa fb) := by
  refine ⟨fun ρ Q Q' k h => ha.mono _ _ _ (fun d hd => ?_) h, pe_weak (pe_or ha.pe hb.pe) fun σ H Q ⟨B, ρ, ok, h⟩ => ⟨B, ρ, ok, ha.mono _ _ _ (fun d hd v B1 H1 g1 r1 => ?_) h⟩⟩
  · cases d <;> first | exact hd.elim | skip
    rename_i b
    cases b with
    | false => exact hb.mono _ _ _ k hd
    | true => exact k _ hd
  · cases d <;> first | exact hd.elim | skip
    rename_i b
    refine ⟨b, r1.bl, ?_⟩
    cases b with
    | false => exact ⟨B1, ρ, ok.mono g1, hb.mono _ _ _ (fun e he v B2 H2 g2 => he v B2 H2 (g1.trans ok.w g2)) hd⟩
    | true => exact hd _ B1 H1 g1 (.bl _)
theorem v_not {a : Expr} {fa : SE} {pos : Pos} (ha : PB X c a fa) : PV X c (.UnaryOp .Not a pos) (fNotV fa) := by
  refine ⟨fun ρ Q Q' k h => ha.mono _ _ _ (fun d hd => ?_) h, pe_weak (pe_not ha.pe) fun σ H Q ⟨B, ρ, ok, h⟩ => ⟨B, ρ, ok, ha.mono _ _ _ (fun d hd v B1 H1 g1 r1 => ?_) h⟩⟩
  · cases d <;> first | exact hd.elim | exact k _ hd
  · cases d <;> first | exact hd.elim | skip
    exact ⟨_, r1.bl, hd _ B1 H1 g1 (.bl _)⟩
def fIf (t : ST) (fa fb : SE) : SE := fun ρ Q => t ρ fun b => if b = true then fa ρ Q else fb ρ Q
theorem mono_If {t : ST} {fa fb : SE} (ht : MonoT t) (ha : Mono fa) (hb : Mono fb) : Mono (fIf t fa fb) := fun ρ Q Q' k h => ht _ _ _ (fun b hd => by
  cases b with
  | true => exact ha _ _ _ k hd
  | false => exact hb _ _ _ k hd) h
theorem v_if {t : ST} {cc a b : Expr} {fa fb : SE} {pos : Pos} (ht : PTd X c cc t) (ha : PV X c a fa) (hb : PV X c b fb) : PV X c (.IfExp cc a b pos) (fIf t fa fb) := by
  refine ⟨mono_If ht.mono ha.mono hb.mono, pe_weak (pe_ifExp ht.pt ha.pe hb.pe) fun σ H Q ⟨B, ρ, ok, h⟩ => ⟨B, ρ, ok, ht.mono _ _ _ (fun d hd B1 H1 g1 => ?_) h⟩⟩
  cases d with
  | true => exact ⟨B1, ρ, ok.mono g1, ha.mono _ _ _ (fun e he v B2 H2 g2 => he v B2 H2 (g1.trans ok.w g2)) hd⟩
  | false => exact ⟨B1, ρ, ok.mono g1, hb.mono _ _ _ (fun e he v B2 H2 g2 => he v B2 H2 (g1.trans ok.w g2)) hd⟩
end
end DL
namespace DL
open PySem L2 PyProof.Rows
/-! ### lists of expressions -/
abbrev SL := Env → (List D → Prop) → Prop
def MonoL (f : SL) : Prop := ∀ ρ (Q Q' : List D → Prop), (∀ d, Q d → Q' d) → f ρ Q → f ρ Q'
def BwA (c : C) (B H : Hp) : List V → List D → Prop
  | [], [] => True
  | v :: vs, d :: ds => Bw c B H v d ∧ BwA c B H vs ds
  | _, _ => False
theorem BwA.mono {c : C} {B H B' H' : Hp} (g : Gr c B H B' H') : ∀ {vs : List V} {ds : List D}, BwA c B H vs ds → BwA c B' H' vs ds
  | [], [], _ => trivial
  | _ :: _, _ :: _, h => ⟨h.1.mono g, BwA.mono g h.2⟩
  | [], _ :: _, h => h
  | _ :: _, [], h => h
theorem BwA.one {c : C} {B H : Hp} {vs : List V} {d : D} (h : BwA c B H vs [d]) : ∃ v, vs = [v] ∧ Bw c B H v d := by
  cases vs with
  | nil => exact h.elim
  | cons v r => cases r with
    | nil => exact ⟨v, rfl, h.1⟩
    | cons _ _ => exact h.2.elim
theorem BwA.two {c : C} {B H : Hp} {vs : List V} {d e : D} (h : BwA c B H vs [d, e]) : ∃ v u, vs = [v, u] ∧ Bw c B H v d ∧ Bw c B H u e := by
  cases vs with
  | nil => exact h.elim
  | cons v r =>
    obtain ⟨u, e1, h2⟩ := BwA.one (d := e) (vs := r) h.2
    subst e1
    exact ⟨v, u, rfl, h.1, h2⟩
theorem BwA.nil {c : C} {B H : Hp} {vs : List V} (h : BwA c B H vs []) : vs = [] := by
  cases vs with
  | nil => rfl
  | cons v r => exact h.elim
def toD (c : C) (f : SL) : TA := fun σ H Q => ∃ B ρ, EOk c B H σ ρ ∧ f ρ fun ds => ∀ vs B' H', Gr c B H B' H' → RpA B' vs ds → Q vs H'
def toDB (c : C) (f : SL) : TA := fun σ H Q => ∃ B ρ, EOk c B H σ ρ ∧ f ρ fun ds => ∀ vs B' H', Gr c B H B' H' → BwA c B' H' vs ds → Q vs H'
structure PDd (X : Cx) (c : C) (es : List Expr) (f : SL) : Prop where
  mono : MonoL f
  len : ∀ ρ Q, f ρ Q → f ρ fun ds => Q ds ∧ ds.length = es.length
  pa : PA X es (toD c f)
structure PBd (X : Cx) (c : C) (es : List Expr) (f : SL) : Prop where
  mono : MonoL f
  pa : PA X es (toDB c f)
def fLN : SL := fun _ Q => Q []
def fLC (fa : SE) (fr : SL) : SL := fun ρ Q => fa ρ fun d => fr ρ fun ds => Q (d :: ds)
section
variable {X : Cx} {c : C}
theorem mono_LC {fa : SE} {fr : SL} (ha : Mono fa) (hr : MonoL fr) : MonoL (fLC fa fr) := fun ρ Q Q' k h => ha _ _ _ (fun d hd => hr _ _ _ (fun ds he => k _ he) hd) h
theorem d_nil : PDd X c [] fLN := ⟨fun _ _ _ k h => k _ h, fun _ _ h => ⟨h, rfl⟩, pa_weak pa_nil fun σ H Q ⟨B, ρ, ok, h⟩ => h [] B H (Gr.refl ok.w) .nil⟩
theorem d_cons {e : Expr} {es : List Expr} {fa : SE} {fr : SL} (ha : PV X c e fa) (hr : PDd X c es fr) (hs : starEach (e :: es) X.env = (false, eval e X.env) :: starEach es X.env := by rfl) : PDd X c (e :: es) (fLC fa fr) := by
  refine ⟨mono_LC ha.mono hr.mono, fun ρ Q h => ha.mono _ _ _ (fun d hd => hr.mono _ _ _ (fun ds q => ⟨q.1, by rw [List.length_cons, List.length_cons, q.2]⟩) (hr.len _ _ hd)) h, pa_weak (pa_cons ha.pe hr.pa hs) fun σ H Q ⟨B, ρ, ok, h⟩ => ?_⟩
  refine ⟨B, ρ, ok, ha.mono _ _ _ (fun d hd v B1 H1 g1 r1 => ?_) h⟩
  exact ⟨B1, ρ, ok.mono g1, hr.mono _ _ _ (fun ds he vs B2 H2 g2 r2 => he _ B2 H2 (g1.trans ok.w g2) (.cons (rp_mono g2.b r1) r2)) hd⟩
theorem bb_nil : PBd X c [] fLN := ⟨fun _ _ _ k h => k _ h, pa_weak pa_nil fun σ H Q ⟨B, ρ, ok, h⟩ => h [] B H (Gr.refl ok.w) trivial⟩
theorem bb_cons {e : Expr} {es : List Expr} {fa : SE} {fr : SL} (ha : PB X c e fa) (hr : PBd X c es fr) (hs : starEach (e :: es) X.env = (false, eval e X.env) :: starEach es X.env := by rfl) : PBd X c (e :: es) (fLC fa fr) := by
  refine ⟨mono_LC ha.mono hr.mono, pa_weak (pa_cons ha.pe hr.pa hs) fun σ H Q ⟨B, ρ, ok, h⟩ => ?_⟩
  refine ⟨B, ρ, ok, ha.mono _ _ _ (fun d hd v B1 H1 g1 r1 => ?_) h⟩
  exact ⟨B1, ρ, ok.mono g1, hr.mono _ _ _ (fun ds he vs B2 H2 g2 r2 => he _ B2 H2 (g1.trans ok.w g2) ⟨r1.mono g2, r2⟩) hd⟩
/-- arguments of a def -/
def fAN : SA := fun _ Q => Q []
def fAC (fa : SE) (fr : SA) : SA := fun ρ Q => fa ρ fun d => fr ρ fun ds => Q (.sh d :: ds)
def fAB (i : Nat) (fr : SA) : SA := fun ρ Q => match lk ρ i with | .bg => fr ρ fun ds => Q (.bg :: ds) | _ => False
theorem a_nil : PAd X c [] fAN := ⟨fun _ _ _ k h => k _ h, pa_weak pa_nil fun σ H Q ⟨B, ρ, ok, h⟩ => h [] B H (Gr.refl ok.w) trivial⟩
theorem a_cons {e : Expr} {es : List Expr} {fa : SE} {fr : SA} (ha : PV X c e fa) (hr : PAd X c es fr) (hs : starEach (e :: es) X.env = (false, eval e X.env) :: starEach es X.env := by rfl) : PAd X c (e :: es) (fAC fa fr) := by
  refine ⟨fun ρ Q Q' k h => ha.mono _ _ _ (fun d hd => hr.mono _ _ _ (fun ds he => k _ he) hd) h, pa_weak (pa_cons ha.pe hr.pa hs) fun σ H Q ⟨B, ρ, ok, h⟩ => ?_⟩
  refine ⟨B, ρ, ok, ha.mono _ _ _ (fun d hd v B1 H1 g1 r1 => ?_) h⟩
  exact ⟨B1, ρ, ok.mono g1, hr.mono _ _ _ (fun ds he vs B2 H2 g2 r2 => he _ B2 H2 (g1.trans ok.w g2) ⟨rp_mono g2.b r1, r2⟩) hd⟩
/-- the bag handed on -/
theorem a_bag (i : Nat) {x : Str} {pos : Pos} {es : List Expr} {fr : SA} (hr : PAd X c es fr) (hN : X.N[i]? = some x := by rfl) (hv : Vis X.env.scope x := by first | exact Or.inl rfl | exact Or.inr (Or.inl rfl) | exact Or.inr (Or.inr rfl))
    (hs : starEach (.Name x pos :: es) X.env = (false, eval (.Name x pos) X.env) :: starEach es X.env := by rfl) (hd : (x == ("__debug__" : Str)) = false := by decide) (hcd : (x == ("__classdict__" : Str)) = false := by decide) : PAd X c (.Name x pos :: es) (fAB i fr) := by
  refine ⟨fun ρ Q Q' k h => ?_, pa_weak (pa_cons (pe_var hN hv hd hcd) hr.pa hs) fun σ H Q ⟨B, ρ, ok, h⟩ => ?_⟩
  · unfold fAB at h ⊢
    cases e : lk ρ i <;> rw [e] at h <;> first | exact h.elim | exact hr.mono _ _ _ (fun ds he => k _ he) h
  · unfold fAB at h
    cases e : lk ρ i <;> rw [e] at h <;> first | exact h.elim | skip
    have h1 := ok.sl i _ (lk_get e (fun z => nomatch z))
    exact ⟨_, h1, B, ρ, ok, hr.mono _ _ _ (fun ds he vs B2 H2 g2 r2 => he _ B2 H2 g2 ⟨rfl, r2⟩) h⟩
/-! ### new lists -/
def toN (c : C) (f : SL) : TE := fun σ H Q => ∃ B ρ, EOk c B H σ ρ ∧ f ρ fun ds => ∀ p vs B' H', Gr c B H B' H' → H p = none → B' p = none → H' p = some (.lst vs) → RpA B' vs ds → Q (.ref p) H'
structure PN (X : Cx) (c : C) (e : Expr) (f : SL) : Prop where
  mono : MonoL f
  pe : PE X e (toN c f)
/-- what is new may be shared -/
theorem Gr.share {B H B' H' : Hp} (w : Wd c B H) (g : Gr c B H B' H') {p : Addr} {vs : List V} (h0 : H p = none) (h1 : B' p = none) (h2 : H' p = some (.lst vs)) : Gr c B H (upd B' p (.lst vs)) H' := by
  have nb : ¬ c.isBag p := fun z => w.there z h0
  refine ⟨g.b.trans (Evl.Ex.new h1), g.h, fun a ha => ?_, fun a o e => ?_, g.w.bag.keep fun a ha => ⟨upd_ne fun z => nb (z ▸ ha), rfl⟩⟩
  · rw [upd_ne (fun z => ha (by rw [z]; exact h0))]
    exact g.n a ha
  · by_cases z : a = p
    · subst z
      rw [upd_same] at e
      rw [h2]; exact e
    · rw [upd_ne z] at e; exact g.w.sub a o e
def fNV (f : SL) : SE := fun ρ Q => f ρ fun ds => Q (.list ds)
theorem PN.v {e : Expr} {f : SL} (h : PN X c e f) : PV X c e (fNV f) := by
  refine ⟨fun ρ Q Q' k q => h.mono _ _ _ (fun ds hd => k _ hd) q, pe_weak h.pe fun σ H Q ⟨B, ρ, ok, q⟩ => ⟨B, ρ, ok, h.mono _ _ _ (fun ds hd p vs B' H' g h0 h1 h2 r => ?_) q⟩⟩
  have g' := Gr.share ok.w g h0 h1 h2
  exact hd _ _ _ g' (.lst upd_same (rpa_mono (Evl.Ex.new h1) r))
theorem n_lst {es : List Expr} {f : SL} {pos : Pos} (h : PDd X c es f) (hl : es.length ≤ 1000 := by decide) : PN X c (.List es pos) f := by
  refine ⟨h.mono, pe_weak (pe_lst h.pa) fun σ H Q ⟨B, ρ, ok, q⟩ => ⟨B, ρ, ok, h.mono _ _ _ (fun ds hd vs B' H' g r => ?_) (h.len _ _ q)⟩⟩
  refine ⟨?_, fun p hp => ?_⟩
  · rw [rpa_len r, hd.2]; exact Nat.le_of_lt (small1000 hl)
  · have g1 := Gr.newO (o := .lst vs) g.w hp
    have hB : B' p = none := Evl.fresh_back g.w.sub hp
    refine hd.1 p vs B' _ (g.trans ok.w g1) ?_ hB upd_same r
    cases e : H p with
    | none => rfl
    | some o =>
      by_cases z : c.isBag p
      · exact absurd hp (g.w.there z)
      · rw [g.h p o z e] at hp; cases hp
def fTup (f : SL) : SE := fun ρ Q => f ρ fun ds => Q (.tuple ds)
theorem v_tup {es : List Expr} {f : SL} {k : Nat} {pos : Pos} (h : PDd X c es f) (hl : es.length ≤ 1000 := by decide) : PV X c (.Tuple es k pos) (fTup f) := by
  refine ⟨fun ρ Q Q' k q => h.mono _ _ _ (fun ds hd => k _ hd) q, pe_weak (pe_tup h.pa) fun σ H Q ⟨B, ρ, ok, q⟩ => ⟨B, ρ, ok, h.mono _ _ _ (fun ds hd vs B' H' g r => ?_) (h.len _ _ q)⟩⟩
  refine ⟨?_, fun p hp => ?_⟩
  · rw [rpa_len r, hd.2]; exact Nat.le_of_lt (small1000 hl)
  · have g1 := Gr.new (o := .tup vs) g.w hp
    exact hd.1 _ _ _ (g.trans ok.w g1) (.tup upd_same (rpa_mono g1.b r))
/-! ### calls of what Python brings -/
abbrev GB := List D → (D → Prop) → Prop
def MonoB (g : GB) : Prop := ∀ ds (Q Q' : D → Prop), (∀ z, Q z → Q' z) → g ds Q → g ds Q'
structure CallD (X : Cx) (c : C) (f : Value) (g : GB) : Prop where
  mono : MonoB g
  call : CallR X f fun xs H Q => ∃ B ds, Wd c B H ∧ BwA c B H xs ds ∧ g ds fun z => ∀ v B' H', Gr c B H B' H' → Rp B' v z → Q v H'
theorem callr_weak {f : Value} {r r' : List V → Hp → VK → Prop} (h : CallR X f r) (w : ∀ xs H Q, r' xs H Q → r xs H Q) : CallR X f r' := fun pins s σ H xs us Q I rv q => h pins s σ H xs us Q I rv (w xs H Q q)
def fCB (g : GB) (fa : SL) : SE := fun ρ Q => fa ρ fun ds => g ds Q
theorem callB_go {g : GB} {fa : SL} (hg : MonoB g) (ha : MonoL fa) (σ : L2.St) (H : Hp) (Q : VK) (h : toV c (fCB g fa) σ H Q) :
    tCB (fun xs H Q => ∃ B ds, Wd c B H ∧ BwA c B H xs ds ∧ g ds fun z => ∀ v B' H', Gr c B H B' H' → Rp B' v z → Q v H') (toDB c fa) σ H Q := by
  obtain ⟨B, ρ, ok, h⟩ := h
  refine ⟨B, ρ, ok, ha _ _ _ (fun ds hd vs B1 H1 g1 r1 => ?_) h⟩
  exact ⟨B1, ds, g1.w, r1, hg _ _ _ (fun z hz v B2 H2 g2 r2 => hz v B2 H2 (g1.trans ok.w g2) r2) hd⟩
theorem v_callB {id : String} {g : GB} {fa : SL} {x : Str} {p pos : Pos} {e : Expr} {es : List Expr} (hc : CallD X c (.builtin id) g) (hm : X.mg x = none) (ha : PBd X c (e :: es) fa) (hg : Gl X x := by rfl) (hv : bootBuiltins x = some (.builtin id) := by decide +kernel)
    (hn : x ≠ "__name__" := by decide) (hdb : (x == ("__debug__" : Str)) = false := by decide)
    (he : starEach (e :: es) X.env = (false, eval e X.env) :: starEach es X.env := by rfl) (hpl : (backTo pos (starEach es X.env)).any (·.1) = false := by rfl) : PV X c (.Call (.Name x p) (e :: es) [] pos) (fCB g fa) :=
  ⟨fun ρ Q Q' k h => ha.mono _ _ _ (fun ds hd => hc.mono _ _ _ k hd) h, pe_weak (pe_callB hc.call hg hm hv ha.pa hn hdb he hpl) (callB_go hc.mono ha.mono)⟩
theorem v_callT {T : String} {g : GB} {fa : SL} {x : Str} {p pos : Pos} {e : Expr} {es : List Expr} (hc : CallD X c (.type T) g) (hm : X.mg x = none) (ha : PBd X c (e :: es) fa) (hg : Gl X x := by rfl) (hv : bootBuiltins x = some (.type T) := by decide +kernel)
    (hn : x ≠ "__name__" := by decide) (hdb : (x == ("__debug__" : Str)) = false := by decide)
    (he : starEach (e :: es) X.env = (false, eval e X.env) :: starEach es X.env := by rfl) (hpl : (backTo pos (starEach es X.env)).any (·.1) = false := by rfl) : PV X c (.Call (.Name x p) (e :: es) [] pos) (fCB g fa) :=
  ⟨fun ρ Q Q' k h => ha.mono _ _ _ (fun ds hd => hc.mono _ _ _ k hd) h, pe_weak (pe_callTy hc.call hg hm hv ha.pa hn hdb he hpl) (callB_go hc.mono ha.mono)⟩
def bInt : GB | [.int i], Q => Q (.int i) | [.bool b], Q => Q (.int (if b then 1 else 0)) | _, _ => False
def bAbs : GB | [.int i], Q => Q (.int (if i < 0 then -i else i)) | _, _ => False
def bLen : GB | [.list ds], Q => Q (.int ds.length) | [.tuple ds], Q => Q (.int ds.length) | [.str x], Q => x.length ≤ sizeLine ∧ Q (.int x.length) | _, _ => False
def bMax2 : GB | [.int i, .int j], Q => Q (.int (if j > i then j else i)) | _, _ => False
def bMin2 : GB | [.int i, .int j], Q => Q (.int (if j < i then j else i)) | _, _ => False
theorem m_Int : MonoB bInt := fun ds Q Q' k h => by
  unfold bInt at h ⊢
  split at h <;> first | exact k _ h | exact h.elim
theorem m_Abs : MonoB bAbs := fun ds Q Q' k h => by
  unfold bAbs at h ⊢
  split at h <;> first | exact k _ h | exact h.elim
theorem m_Len : MonoB bLen := fun ds Q Q' k h => by
  unfold bLen at h ⊢
  split at h <;> first | exact k _ h | exact ⟨h.1, k _ h.2⟩ | exact h.elim
theorem m_Max2 : MonoB bMax2 := fun ds Q Q' k h => by
  unfold bMax2 at h ⊢
  split at h <;> first | exact k _ h | exact h.elim
theorem m_Min2 : MonoB bMin2 := fun ds Q Q' k h => by
  unfold bMin2 at h ⊢
  split at h <;> first | exact k _ h | exact h.elim
theorem c_int : CallD X c (.type "int") bInt := ⟨m_Int, callr_weak call_int1 fun xs H Q ⟨B, ds, w, ra, q⟩ => by
  unfold bInt at q
  split at q <;> first | exact q.elim | skip
  · obtain ⟨v, e, r⟩ := ra.one
    subst e
    rw [r.int]
    exact .inl ⟨_, rfl, q _ B H (Gr.refl w) (.int _)⟩
  · obtain ⟨v, e, r⟩ := ra.one
    subst e
    rw [r.bl]
    exact .inr ⟨_, rfl, q _ B H (Gr.refl w) (.int _)⟩⟩
theorem c_abs : CallD X c (.builtin "abs") bAbs := ⟨m_Abs, callr_weak call_abs fun xs H Q ⟨B, ds, w, ra, q⟩ => by
  unfold bAbs at q
  split at q <;> first | exact q.elim | skip
  obtain ⟨v, e, r⟩ := ra.one
  subst e
  rw [r.int]
  exact ⟨_, rfl, q _ B H (Gr.refl w) (.int _)⟩⟩
theorem c_len : CallD X c (.builtin "len") bLen := ⟨m_Len, callr_weak call_len fun xs H Q ⟨B, ds, w, ra, q⟩ => by
  unfold bLen at q
  split at q <;> first | exact q.elim | skip
  · obtain ⟨v, e, r⟩ := ra.one
    subst e
    obtain ⟨a, xs, rfl, h1, h2⟩ := r.list w
    exact ⟨_, xs.length, rfl, .inl ⟨xs, SqL.of h1, rfl⟩, by rw [rpa_len h2]; exact q _ B H (Gr.refl w) (.int _)⟩
  · obtain ⟨v, e, r⟩ := ra.one
    subst e
    obtain ⟨a, xs, rfl, h1, h2⟩ := r.tup w
    exact ⟨_, xs.length, rfl, .inr ⟨xs, SqT.of h1, rfl⟩, by rw [rpa_len h2]; exact q _ B H (Gr.refl w) (.int _)⟩
  · obtain ⟨v, e, r⟩ := ra.one
    subst e
    rw [r.str]
    exact ⟨_, _, rfl, ⟨q.1, rfl⟩, q.2 _ B H (Gr.refl w) (.int _)⟩⟩
theorem c_max2 (hc : X.calm = true) : CallD X c (.builtin "max") bMax2 := ⟨m_Max2, callr_weak (call_max2 hc) fun xs H Q ⟨B, ds, w, ra, q⟩ => by
  unfold bMax2 at q
  split at q <;> first | exact q.elim | skip
  obtain ⟨v, u, e, r1, r2⟩ := ra.two
  subst e
  rw [r1.int, r2.int]
  exact ⟨_, _, rfl, q _ B H (Gr.refl w) (.int _)⟩⟩
theorem c_min2 (hc : X.calm = true) : CallD X c (.builtin "min") bMin2 := ⟨m_Min2, callr_weak (call_min2 hc) fun xs H Q ⟨B, ds, w, ra, q⟩ => by
  unfold bMin2 at q
  split at q <;> first | exact q.elim | skip
  obtain ⟨v, u, e, r1, r2⟩ := ra.two
  subst e
  rw [r1.int, r2.int]
  exact ⟨_, _, rfl, q _ B H (Gr.refl w) (.int _)⟩⟩
/-- tuple(x): of a list a new one, a tuple itself -/
def bTuple : GB | [.list ds], Q => Q (.tuple ds) | [.tuple ds], Q => Q (.tuple ds) | _, _ => False
theorem m_Tuple : MonoB bTuple := fun ds Q Q' k h => by
  unfold bTuple at h ⊢
  split at h <;> first | exact k _ h | exact h.elim
theorem c_tuple : CallD X c (.type "tuple") bTuple := ⟨m_Tuple, callr_weak call_tuple_of fun xs H Q ⟨B, ds, w, ra, q⟩ => by
  unfold bTuple at q
  split at q <;> first | exact q.elim | skip
  · obtain ⟨v, e, r⟩ := ra.one
    subst e
    obtain ⟨a, xs, rfl, h1, h2⟩ := r.list w
    refine ⟨a, xs, rfl, .inl ⟨SqL.of h1, fun l hl => ?_⟩⟩
    have g := Gr.new (o := .tup xs) w hl
    exact q _ _ _ g (.tup upd_same (rpa_mono g.b h2))
  · obtain ⟨v, e, r⟩ := ra.one
    subst e
    obtain ⟨a, xs, rfl, h1, h2⟩ := r.tup w
    refine ⟨a, xs, rfl, .inr ⟨SqT.of h1, ?_⟩⟩
    rcases r with r | ⟨_, _, _, _, e, _⟩
    · exact q _ B H (Gr.refl w) r
    · cases e⟩
/-- sums, bounds, all, any of lists -/
def asInts : List D → Option (List Int)
  | [] => some []
  | .int i :: r => (asInts r).map (i :: ·)
  | _ :: _ => none
def asBls : List D → Option (List Bool)
  | [] => some []
  | .bool i :: r => (asBls r).map (i :: ·)
  | _ :: _ => none
theorem asInts_eq : ∀ {ds : List D} {ns : List Int}, asInts ds = some ns → ds = ns.map PyData.int
  | [], ns, h => by
    simp only [asInts] at h
    cases h; rfl
  | d :: ds, ns, h => by
    cases d <;> simp only [asInts] at h <;> first | cases h | skip
    cases e : asInts ds with
    | none => rw [e] at h; cases h
    | some m =>
      rw [e] at h
      cases h
      rw [asInts_eq e]; rfl
theorem asInts_map : ∀ (ns : List Int), asInts (ns.map PyData.int) = some ns
  | [] => rfl
  | n :: ns => by simp only [List.map_cons, asInts, asInts_map ns, Option.map_some]
theorem asBls_eq : ∀ {ds : List D} {ns : List Bool}, asBls ds = some ns → ds = ns.map PyData.bool
  | [], ns, h => by
    simp only [asBls] at h
    cases h; rfl
  | d :: ds, ns, h => by
    cases d <;> simp only [asBls] at h <;> first | cases h | skip
    cases e : asBls ds with
    | none => rw [e] at h; cases h
    | some m =>
      rw [e] at h
      cases h
      rw [asBls_eq e]; rfl
theorem asBls_map : ∀ (ns : List Bool), asBls (ns.map PyData.bool) = some ns
  | [] => rfl
  | n :: ns => by simp only [List.map_cons, asBls, asBls_map ns, Option.map_some]
def intsOf : D → Option (List Int) | .list ds => asInts ds | _ => none
def blsOf : D → Option (List Bool) | .list ds => asBls ds | _ => none
def bSum : GB | [d], Q => (match intsOf d with | some ns => Q (.int ns.sum) | none => False) | _, _ => False
def bMaxL : GB | [d], Q => (match intsOf d with | some ns => 0 < ns.length ∧ ∀ m, m ∈ ns → (∀ y, y ∈ ns → y ≤ m) → Q (.int m) | none => False) | _, _ => False
def bMinL : GB | [d], Q => (match intsOf d with | some ns => 0 < ns.length ∧ ∀ m, m ∈ ns → (∀ y, y ∈ ns → m ≤ y) → Q (.int m) | none => False) | _, _ => False
def bAll : GB | [d], Q => (match blsOf d with | some ns => Q (.bool (ns.all id)) | none => False) | _, _ => False
def bAny : GB | [d], Q => (match blsOf d with | some ns => Q (.bool (ns.any id)) | none => False) | _, _ => False
theorem ints_rd {B H : Hp} {v : V} {d : D} {ns : List Int} (w : Wd c B H) (r : Bw c B H v d) (h : intsOf d = some ns) : ∃ a, v = .ref a ∧ SqL X.K H a (ns.map V.int) := by
  cases d <;> simp only [intsOf] at h <;> first | cases h | skip
  obtain ⟨a, xs, rfl, h1, h2⟩ := r.list w
  rw [asInts_eq h] at h2
  rw [rpa_ints h2] at h1
  exact ⟨a, rfl, SqL.of h1⟩
theorem bls_rd {B H : Hp} {v : V} {d : D} {ns : List Bool} (w : Wd c B H) (r : Bw c B H v d) (h : blsOf d = some ns) : ∃ a, v = .ref a ∧ SqL X.K H a (ns.map V.bl) := by
  cases d <;> simp only [blsOf] at h <;> first | cases h | skip
  obtain ⟨a, xs, rfl, h1, h2⟩ := r.list w
  rw [asBls_eq h] at h2
  rw [rpa_bls h2] at h1
  exact ⟨a, rfl, SqL.of h1⟩
theorem m_Sum : MonoB bSum := fun ds Q Q' k h => by
  unfold bSum at h ⊢
  split at h <;> first | exact h.elim | skip
  split at h <;> first | exact h.elim | exact k _ h
theorem c_sum (hc : X.calm = true) : CallD X c (.builtin "sum") bSum := ⟨m_Sum, callr_weak (cr_sum hc) fun xs H Q ⟨B, ds, w, ra, q⟩ => by
  unfold bSum at q
  split at q <;> first | exact q.elim | skip
  split at q <;> first | exact q.elim | skip
  rename_i e
  obtain ⟨v, e1, r⟩ := ra.one
  subst e1
  obtain ⟨a, rfl, h⟩ := ints_rd (X := X) w r e
  exact ⟨a, _, rfl, h, q _ B H (Gr.refl w) (.int _)⟩⟩
theorem m_MaxL : MonoB bMaxL := fun ds Q Q' k h => by
  unfold bMaxL at h ⊢
  split at h <;> first | exact h.elim | skip
  split at h <;> first | exact h.elim | exact ⟨h.1, fun m h1 h2 => k _ (h.2 m h1 h2)⟩
theorem c_maxL (hc : X.calm = true) : CallD X c (.builtin "max") bMaxL := ⟨m_MaxL, callr_weak (cr_max hc) fun xs H Q ⟨B, ds, w, ra, q⟩ => by
  unfold bMaxL at q
  split at q <;> first | exact q.elim | skip
  split at q <;> first | exact q.elim | skip
  rename_i e
  obtain ⟨v, e1, r⟩ := ra.one
  subst e1
  obtain ⟨a, rfl, h⟩ := ints_rd (X := X) w r e
  exact ⟨a, _, rfl, h, q.1, fun m h1 h2 => q.2 m h1 h2 _ B H (Gr.refl w) (.int _)⟩⟩
theorem m_MinL : MonoB bMinL := fun ds Q Q' k h => by
  unfold bMinL at h ⊢
  split at h <;> first | exact h.elim | skip
  split at h <;> first | exact h.elim | exact ⟨h.1, fun m h1 h2 => k _ (h.2 m h1 h2)⟩
theorem c_minL (hc : X.calm = true) : CallD X c (.builtin "min") bMinL := ⟨m_MinL, callr_weak (cr_min hc) fun xs H Q ⟨B, ds, w, ra, q⟩ => by
  unfold bMinL at q
  split at q <;> first | exact q.elim | skip
  split at q <;> first | exact q.elim | skip
  rename_i e
  obtain ⟨v, e1, r⟩ := ra.one
  subst e1
  obtain ⟨a, rfl, h⟩ := ints_rd (X := X) w r e
  exact ⟨a, _, rfl, h, q.1, fun m h1 h2 => q.2 m h1 h2 _ B H (Gr.refl w) (.int _)⟩⟩
theorem m_All : MonoB bAll := fun ds Q Q' k h => by
  unfold bAll at h ⊢
  split at h <;> first | exact h.elim | skip
  split at h <;> first | exact h.elim | exact k _ h
theorem c_all (hc : X.calm = true) : CallD X c (.builtin "all") bAll := ⟨m_All, callr_weak (cr_all hc) fun xs H Q ⟨B, ds, w, ra, q⟩ => by
  unfold bAll at q
  split at q <;> first | exact q.elim | skip
  split at q <;> first | exact q.elim | skip
  rename_i e
  obtain ⟨v, e1, r⟩ := ra.one
  subst e1
  obtain ⟨a, rfl, h⟩ := bls_rd (X := X) w r e
  exact ⟨a, _, rfl, h, q _ B H (Gr.refl w) (.bl _)⟩⟩
theorem m_Any : MonoB bAny := fun ds Q Q' k h => by
  unfold bAny at h ⊢
  split at h <;> first | exact h.elim | skip
  split at h <;> first | exact h.elim | exact k _ h
theorem c_any (hc : X.calm = true) : CallD X c (.builtin "any") bAny := ⟨m_Any, callr_weak (cr_any hc) fun xs H Q ⟨B, ds, w, ra, q⟩ => by
  unfold bAny at q
  split at q <;> first | exact q.elim | skip
  split at q <;> first | exact q.elim | skip
  rename_i e
  obtain ⟨v, e1, r⟩ := ra.one
  subst e1
  obtain ⟨a, rfl, h⟩ := bls_rd (X := X) w r e
  exact ⟨a, _, rfl, h, q _ B H (Gr.refl w) (.bl _)⟩⟩
/-- a new list out of a list, a tuple -/
def seqOf : D → Option (List D) | .list ds => some ds | .tuple ds => some ds | _ => none
theorem seq_rd {B H : Hp} {v : V} {d : D} {ds : List D} (w : Wd c B H) (r : Bw c B H v d) (h : seqOf d = some ds) : ∃ a xs, v = .ref a ∧ (SqL X.K H a xs ∨ SqT X.K H a xs) ∧ RpA B xs ds := by
  cases d <;> simp only [seqOf] at h <;> first | cases h | skip
  · obtain ⟨a, xs, rfl, h1, h2⟩ := r.list w
    exact ⟨a, xs, rfl, .inl (SqL.of h1), h2⟩
  · obtain ⟨a, xs, rfl, h1, h2⟩ := r.tup w
    exact ⟨a, xs, rfl, .inr (SqT.of h1), h2⟩
def fSeq (fa : SE) : SL := fun ρ Q => fa ρ fun d => match seqOf d with | some ds => Q ds | none => False
theorem mono_Seq {fa : SE} (ha : Mono fa) : MonoL (fSeq fa) := fun ρ Q Q' k h => ha _ _ _ (fun d hd => by
  split at hd <;> first | exact hd.elim | exact k _ hd) h
theorem Gr.back {B H B' H' : Hp} (g : Gr c B H B' H') {p : Addr} (hp : H' p = none) : H p = none := by
  cases e : H p with
  | none => rfl
  | some o =>
    by_cases z : c.isBag p
    · exact absurd hp (g.w.there z)
    · rw [g.h p o z e] at hp; cases hp
theorem n_list {e : Expr} {fa : SE} {x : Str} {p pos : Pos} (hm : X.mg x = none) (ha : PB X c e fa) (hg : Gl X x := by rfl) (hv : bootBuiltins x = some (.type "list") := by decide +kernel)
    (hn : x ≠ "__name__" := by decide) (hdb : (x == ("__debug__" : Str)) = false := by decide)
    (he : starEach [e] X.env = (false, eval e X.env) :: starEach [] X.env := by rfl) (hpl : (backTo pos (starEach [] X.env)).any (·.1) = false := by rfl) : PN X c (.Call (.Name x p) [e] [] pos) (fSeq fa) := by
  refine ⟨mono_Seq ha.mono, pe_weak (pe_callTy call_list_of hg hm hv (pa_cons ha.pe pa_nil he) hn hdb he hpl) fun σ H Q ⟨B, ρ, ok, h⟩ => ⟨B, ρ, ok, ha.mono _ _ _ (fun d hd v B1 H1 g1 r1 => ?_) h⟩⟩
  split at hd <;> first | exact hd.elim | skip
  rename_i ds e1
  obtain ⟨a, xs, rfl, h1, h2⟩ := seq_rd (X := X) g1.w r1 e1
  refine ⟨a, xs, rfl, h1, fun l hl => ?_⟩
  have g2 := Gr.newO (o := .lst xs) g1.w hl
  exact hd l xs B1 _ (g1.trans ok.w g2) (g1.back hl) (Evl.fresh_back g1.w.sub hl) upd_same h2
/-! ### items and parts -/
def ixD (ds : List D) (i : Int) : Option D := atI ds i
def gIx : G2
  | .list ds, .int i, Q => (match atI ds i with | some d => Q d | none => False)
  | .tuple ds, .int i, Q => (match atI ds i with | some d => Q d | none => False)
  | .str x, .int i, Q => x.length ≤ sizeLine ∧ (match atI x.cps.toList i with | some k => Q (.str ⟨#[k]⟩) | none => False)
  | _, _, _ => False
theorem m_Ix : MonoG gIx := fun d e Q Q' k h => by
  unfold gIx at h ⊢
  split at h <;> first | exact h.elim | skip
  · split at h <;> first | exact h.elim | exact k _ h
  · split at h <;> first | exact h.elim | exact k _ h
  · refine ⟨h.1, ?_⟩
    have h2 := h.2
    split at h2 <;> first | exact h2.elim | exact k _ h2
theorem atI_rpa {B : Hp} {xs : List V} {ds : List D} {i : Int} {d : D} (r : RpA B xs ds) (h : atI ds i = some d) : ∃ v, atI xs i = some v ∧ Rp B v d := by
  unfold atI at h ⊢
  rw [rpa_len r]
  cases e : ixN ds.length i with
  | none => rw [e] at h; cases h
  | some j =>
    rw [e] at h
    obtain ⟨v, h1, h2⟩ := rpa_get r (show ds[j]? = some d from h)
    exact ⟨v, h1, h2⟩
theorem v_ix {a b : Expr} {fa fb : SE} {pos : Pos} (ha : PB X c a fa) (hb : PB X c b fb) (hs : PlainIx b := by exact fun _ _ => rfl) : PV X c (.Subscript a b pos) (fBin gIx fa fb) := by
  refine ⟨mono_Bin m_Ix ha.mono hb.mono, pe_weak (pe_ix ix_seq ha.pe hb.pe hs) fun σ H Q h => ?_⟩
  obtain ⟨B, ρ, ok, h⟩ := h
  refine ⟨B, ρ, ok, ha.mono _ _ _ (fun d hd v B1 H1 g1 r1 => ?_) h⟩
  refine ⟨B1, ρ, ok.mono g1, hb.mono _ _ _ (fun e he u B2 H2 g2 r2 => ?_) hd⟩
  have r1' := r1.mono g2
  have g3 := g1.trans ok.w g2
  unfold gIx at he
  split at he <;> first | exact he.elim | skip
  · split at he <;> first | exact he.elim | skip
    rename_i e1
    obtain ⟨p, xs, rfl, h1, h2⟩ := r1'.list g2.w
    obtain ⟨y, h3, h4⟩ := atI_rpa h2 e1
    rw [r2.int]
    exact .inl ⟨p, xs, _, y, rfl, rfl, SqL.of h1, h3, he _ B2 H2 g3 h4⟩
  · split at he <;> first | exact he.elim | skip
    rename_i e1
    obtain ⟨p, xs, rfl, h1, h2⟩ := r1'.tup g2.w
    obtain ⟨y, h3, h4⟩ := atI_rpa h2 e1
    rw [r2.int]
    exact .inr (.inl ⟨p, xs, _, y, rfl, rfl, SqT.of h1, h3, he _ B2 H2 g3 h4⟩)
  · obtain ⟨hz, he⟩ := he
    split at he <;> first | exact he.elim | skip
    rename_i e1
    rw [r1'.str, r2.int]
    exact .inr (.inr ⟨_, _, _, rfl, rfl, hz, e1, he _ B2 H2 g3 (.str _)⟩)
/-- the ends of a part -/
abbrev SO := Env → (Option Int → Prop) → Prop
def toO (c : C) (f : SO) : TO := fun σ H Q => ∃ B ρ, EOk c B H σ ρ ∧ f ρ fun o => ∀ B' H', Gr c B H B' H' → Q o H'
structure POd (X : Cx) (c : C) (e : Option Expr) (f : SO) : Prop where
  mono : ∀ ρ (Q Q' : Option Int → Prop), (∀ d, Q d → Q' d) → f ρ Q → f ρ Q'
  po : PO X e (toO c f)
theorem po_weak {e : Option Expr} {t t' : TO} (h : PO X e t) (w : ∀ σ H Q, t' σ H Q → t σ H Q) : PO X e t' := ⟨fun pins s σ H Q I q => h.run pins s σ H Q I (w σ H Q q)⟩
def fON : SO := fun _ Q => Q none
def fOS (fa : SE) : SO := fun ρ Q => fa ρ fun d => match d with | .int i => Q (some i) | _ => False
theorem po_n : POd X c none fON := ⟨fun _ _ _ k h => k _ h, po_weak po_none fun σ H Q ⟨B, ρ, ok, h⟩ => h B H (Gr.refl ok.w)⟩
theorem po_s {e : Expr} {fa : SE} (ha : PB X c e fa) : POd X c (some e) (fOS fa) := by
  refine ⟨fun ρ Q Q' k h => ha.mono _ _ _ (fun d hd => ?_) h, po_weak (po_some ha.pe) fun σ H Q ⟨B, ρ, ok, h⟩ => ⟨B, ρ, ok, ha.mono _ _ _ (fun d hd v B1 H1 g1 r1 => ?_) h⟩⟩
  · cases d <;> first | exact hd.elim | exact k _ hd
  · cases d <;> first | exact hd.elim | skip
    exact ⟨_, r1.int, hd B1 H1 g1⟩
def cutD (ds : List D) (lo hi : Option Int) : List D := (ds.drop (HT.sIx ds.length 0 lo)).take (HT.sIx ds.length ds.length hi - HT.sIx ds.length 0 lo)
theorem cut_rpa {B : Hp} {xs : List V} {ds : List D} (r : RpA B xs ds) (lo hi : Option Int) : RpA B (cutV xs lo hi) (cutD ds lo hi) := by
  unfold cutV cutD
  rw [rpa_len r]
  exact rpa_take _ (rpa_drop _ r)
/-- t[a:b] of a tuple, a text -/
def fSlT (fa : SE) (fl fh : SO) : SE := fun ρ Q => fa ρ fun d => fl ρ fun lo => fh ρ fun hi => match d with | .tuple ds => Q (.tuple (cutD ds lo hi)) | _ => False
/-- l[a:b] of a list -/
def fSlL (fa : SE) (fl fh : SO) : SL := fun ρ Q => fa ρ fun d => fl ρ fun lo => fh ρ fun hi => match d with | .list ds => Q (cutD ds lo hi) | _ => False
theorem cutV_whole {xs : List V} {lo hi : Option Int} (h : HT.sIx xs.length 0 lo = 0 ∧ HT.sIx xs.length xs.length hi = xs.length) : cutV xs lo hi = xs := by
  unfold cutV
  rw [h.1, h.2]
  simp
theorem v_slT {a : Expr} {lo hi : Option Expr} {fa : SE} {fl fh : SO} {p2 pos : Pos} (ha : PB X c a fa) (hl : POd X c lo fl) (hh : POd X c hi fh) : PV X c (.Subscript a (.Slice lo hi none p2) pos) (fSlT fa fl fh) := by
  refine ⟨fun ρ Q Q' k h => ha.mono _ _ _ (fun d hd => hl.mono _ _ _ (fun o1 h1 => hh.mono _ _ _ (fun o2 h2 => ?_) h1) hd) h, pe_weak (pe_slice sl_tupA ha.pe hl.po hh.po) fun σ H Q ⟨B, ρ, ok, h⟩ => ⟨B, ρ, ok, ha.mono _ _ _ (fun d hd v B1 H1 g1 r1 => ?_) h⟩⟩
  · cases d <;> first | exact h2.elim | exact k _ h2
  · refine ⟨B1, ρ, ok.mono g1, hl.mono _ _ _ (fun o1 h1 B2 H2 g2 => ?_) hd⟩
    refine ⟨B2, ρ, (ok.mono g1).mono g2, hh.mono _ _ _ (fun o2 h2 B3 H3 g3 => ?_) h1⟩
    have g := (g1.trans ok.w g2).trans ok.w g3
    cases d <;> first | exact h2.elim | skip
    have r := (r1.mono g2).mono g3
    obtain ⟨q, xs, rfl, h3, h4⟩ := r.tup g3.w
    refine ⟨q, xs, rfl, SqT.of h3, fun hw => ?_, fun _ t ht => ?_⟩
    · have e := cut_rpa h4 o1 o2
      rw [cutV_whole hw] at e
      rcases r with r | ⟨_, _, _, _, e, _⟩
      · obtain ⟨q', xs', e1, e2, e3⟩ := rp_tup r
        cases e1
        have e4 := g3.w.sub _ _ e2
        rw [h3] at e4
        cases e4
        exact h2 _ B3 H3 g (.tup e2 e)
      · cases e
    · have g4 := Gr.new (o := .tup (cutV xs o1 o2)) g3.w ht
      exact h2 _ _ _ (g.trans ok.w g4) (.tup upd_same (rpa_mono g4.b (cut_rpa h4 o1 o2)))
theorem n_slL {a : Expr} {lo hi : Option Expr} {fa : SE} {fl fh : SO} {p2 pos : Pos} (ha : PB X c a fa) (hl : POd X c lo fl) (hh : POd X c hi fh) : PN X c (.Subscript a (.Slice lo hi none p2) pos) (fSlL fa fl fh) := by
  refine ⟨fun ρ Q Q' k h => ha.mono _ _ _ (fun d hd => hl.mono _ _ _ (fun o1 h1 => hh.mono _ _ _ (fun o2 h2 => ?_) h1) hd) h, pe_weak (pe_slice sl_list ha.pe hl.po hh.po) fun σ H Q ⟨B, ρ, ok, h⟩ => ⟨B, ρ, ok, ha.mono _ _ _ (fun d hd v B1 H1 g1 r1 => ?_) h⟩⟩
  · cases d <;> first | exact h2.elim | exact k _ h2
  · refine ⟨B1, ρ, ok.mono g1, hl.mono _ _ _ (fun o1 h1 B2 H2 g2 => ?_) hd⟩
    refine ⟨B2, ρ, (ok.mono g1).mono g2, hh.mono _ _ _ (fun o2 h2 B3 H3 g3 => ?_) h1⟩
    have g := (g1.trans ok.w g2).trans ok.w g3
    cases d <;> first | exact h2.elim | skip
    have r := (r1.mono g2).mono g3
    obtain ⟨q, xs, rfl, h3, h4⟩ := r.list g3.w
    refine ⟨q, xs, rfl, SqL.of h3, fun t ht => ?_⟩
    have g4 := Gr.newO (o := .lst (cutV xs o1 o2)) g3.w ht
    exact h2 t _ B3 _ (g.trans ok.w g4) (g.back ht) (Evl.fresh_back g3.w.sub ht) upd_same (cut_rpa h4 o1 o2)
end
end DL
namespace DL
open PySem L2 PyProof.Rows
abbrev St := L2.St
/-! ### slots stored -/
section
variable {c : C} {B H : Hp} {σ : St} {ρ : Env}
theorem SlOk.congr {σ' : St} {i : Nat} {s : Sl} (e : σ'[i]? = σ[i]?) (h : SlOk c B H σ i s) : SlOk c B H σ' i s := by
  cases s with
  | un => trivial
  | sh d => obtain ⟨v, h1, h2⟩ := h; exact ⟨v, by rw [e]; exact h1, h2⟩
  | ow ds => obtain ⟨p, vs, h1, h2⟩ := h; exact ⟨p, vs, by rw [e]; exact h1, h2⟩
  | bg => show σ'[i]? = _; rw [e]; exact h
/-- a slot takes a new word -/
theorem EOk.put (ok : EOk c B H σ ρ) {i : Nat} {v : V} {s : Sl} (hs : i < σ.length → SlOk c B H (σ.set i (some v)) i s)
    (ha : ∀ ds p, s = Sl.ow ds → v = V.ref p → ∀ (j : Nat) (es : List D), j ≠ i → ρ[j]? = some (Sl.ow es) → ¬ σ[j]? = some (some (V.ref p))) : EOk c B H (σ.set i (some v)) (ρ.set i s) := by
  have len := ok.len
  refine ⟨ok.w0, ok.w, ok.g, by rw [List.length_set, List.length_set]; exact len, fun j u hj => ?_, fun j k p ds es hjk h1 h2 h3 h4 => ?_⟩
  · by_cases e : i = j
    · subst e
      have hl : i < ρ.length := by
        have := (List.getElem?_eq_some_iff.mp hj).1
        rw [List.length_set] at this; exact this
      rw [List.getElem?_set_self hl] at hj
      cases hj
      exact hs (by rw [← len]; exact hl)
    · rw [List.getElem?_set_ne e] at hj
      exact (ok.sl j u hj).congr (List.getElem?_set_ne e)
  · by_cases ej : i = j
    · subst ej
      have hl : i < ρ.length := by
        have := (List.getElem?_eq_some_iff.mp h1).1
        rw [List.length_set] at this; exact this
      rw [List.getElem?_set_self hl] at h1
      rw [List.getElem?_set_self (by rw [← len]; exact hl)] at h3
      rw [List.getElem?_set_ne hjk] at h2 h4
      cases h1
      cases h3
      exact ha ds p rfl rfl k es (Ne.symm hjk) h2 h4
    · rw [List.getElem?_set_ne ej] at h1 h3
      by_cases ek : i = k
      · subst ek
        have hl : i < ρ.length := by
          have := (List.getElem?_eq_some_iff.mp h2).1
          rw [List.length_set] at this; exact this
        rw [List.getElem?_set_self hl] at h2
        rw [List.getElem?_set_self (by rw [← len]; exact hl)] at h4
        cases h2
        cases h4
        exact ha es p rfl rfl j ds hjk h1 h3
      · rw [List.getElem?_set_ne ek] at h2 h4
        exact ok.ap j k p ds es hjk h1 h2 h3 h4
theorem EOk.putSh (ok : EOk c B H σ ρ) {i : Nat} {v : V} {d : D} (r : Rp B v d) : EOk c B H (σ.set i (some v)) (ρ.set i (.sh d)) :=
  ok.put (fun hi => ⟨v, List.getElem?_set_self hi, r⟩) fun _ _ e => nomatch e
/-- .. by a new list of one's own -/
theorem EOk.putOw (ok : EOk c B H σ ρ) {B' H' : Hp} {i : Nat} {p : Addr} {vs : List V} {ds : List D} (g : Gr c B H B' H') (h0 : H p = none) (h1 : B' p = none) (h2 : H' p = some (.lst vs)) (r : RpA B' vs ds) :
    EOk c B' H' (σ.set i (some (.ref p))) (ρ.set i (.ow ds)) := by
  have nb : ¬ c.isBag p := fun z => ok.w.there z h0
  have hH0 : c.H0 p = none := by
    cases e : c.H0 p with
    | none => rfl
    | some o => rw [ok.g.h p o nb e] at h0; cases h0
  refine (ok.mono g).put (fun hi => ⟨p, vs, List.getElem?_set_self hi, hH0, nb, h1, h2, r⟩) fun es q e1 e2 j fs hj h3 h4 => ?_
  cases e2
  obtain ⟨p', vs', k1, k2, k3, k4, k5, _⟩ := ok.sl j _ h3
  rw [k1] at h4
  cases h4
  rw [h0] at k5
  cases k5
end
/-! ### targets -/
abbrev GT := D → Env → (Env → Prop) → Prop
abbrev GTs := List D → Env → (Env → Prop) → Prop
/-- slots outside ks stay -/
def Off (ks : List Nat) (σ σ' : St) : Prop := σ'.length = σ.length ∧ ∀ j, j ∉ ks → σ'[j]? = σ[j]?
theorem Off.refl (ks : List Nat) (σ : St) : Off ks σ σ := ⟨rfl, fun _ _ => rfl⟩
def toG (c : C) (g : GT) (ks : List Nat) : TG := fun v σ H Q => ∃ B ρ d, EOk c B H σ ρ ∧ Rp B v d ∧ g d ρ fun ρ' => ∀ σ', EOk c B H σ' ρ' → Off ks σ σ' → Q σ' H
def toGs (c : C) (g : GTs) (ks : List Nat) : TGs := fun v σ H Q => ∃ B ρ d, EOk c B H σ ρ ∧ RpA B v d ∧ g d ρ fun ρ' => ∀ σ', EOk c B H σ' ρ' → Off ks σ σ' → Q σ' H
structure PGd (X : Cx) (c : C) (tg : Expr) (g : GT) (ks : List Nat) : Prop where
  mono : ∀ d ρ (Q Q' : Env → Prop), (∀ ρ, Q ρ → Q' ρ) → g d ρ Q → g d ρ Q'
  pg : PG X tg (toG c g ks)
structure PGsd (X : Cx) (c : C) (tg : List Expr) (g : GTs) (ks : List Nat) : Prop where
  mono : ∀ d ρ (Q Q' : Env → Prop), (∀ ρ, Q ρ → Q' ρ) → g d ρ Q → g d ρ Q'
  pg : PGs X tg (toGs c g ks)
def gNm (i : Nat) : GT := fun d ρ Q => Q (ρ.set i (.sh d))
def gsNil : GTs := fun ds ρ Q => ds = [] ∧ Q ρ
def gsCons (g : GT) (gs : GTs) : GTs := fun ds ρ Q => match ds with | d :: r => g d ρ fun ρ' => gs r ρ' Q | [] => False
def gTpl (n : Nat) (gs : GTs) : GT := fun d ρ Q => match d with | .tuple ds => ds.length = n ∧ gs ds ρ Q | _ => False
section
variable {X : Cx} {c : C}
theorem pg_weak {tg : Expr} {t t' : TG} (h : PG X tg t) (w : ∀ v σ H Q, t' v σ H Q → t v σ H Q) : PG X tg t' := ⟨fun pins s σ H v u Q I r q => h.run pins s σ H v u Q I r (w v σ H Q q)⟩
theorem pgs_weak {tg : List Expr} {t t' : TGs} (h : PGs X tg t) (w : ∀ v σ H Q, t' v σ H Q → t v σ H Q) : PGs X tg t' := ⟨fun pins s σ H v u Q I r q => h.run pins s σ H v u Q I r (w v σ H Q q)⟩
theorem g_nm (i : Nat) {x : Str} {pos : Pos} (hN : X.N.Nodup) (hi : X.N[i]? = some x := by rfl) (hx : Loc X.env.scope x := by first | exact Or.inl rfl | exact Or.inr rfl)
    (hf : X.fn x = true ∨ X.env.scope.names.lookup x = some .local := by first | exact .inl rfl | exact .inr rfl | assumption) : PGd X c (.Name x pos) (gNm i) [i] := by
  refine ⟨fun d ρ Q Q' k h => k _ h, pg_weak (pg_name hN hi hx hf) fun v σ H Q ⟨B, ρ, d, ok, r, h⟩ => h _ (ok.putSh r) ⟨by rw [List.length_set], fun j hj => List.getElem?_set_ne (fun e => hj (by simp [e]))⟩⟩
theorem gs_nil : PGsd X c [] gsNil [] := ⟨fun d ρ Q Q' k h => ⟨h.1, k _ h.2⟩, pgs_weak pgs_nil fun vs σ H Q ⟨B, ρ, ds, ok, r, h⟩ => by
  obtain ⟨e, h⟩ := h
  subst e
  cases r
  exact ⟨rfl, h σ ok (Off.refl _ _)⟩⟩
theorem gs_cons {e : Expr} {es : List Expr} {g : GT} {gs : GTs} {ks js : List Nat} (h1 : PGd X c e g ks) (h2 : PGsd X c es gs js)
    (hs : (assignEach (e :: es) X.env).map (·.2) = assign e X.env :: (assignEach es X.env).map (·.2) := by rfl) : PGsd X c (e :: es) (gsCons g gs) (ks ++ js) := by
  refine ⟨fun d ρ Q Q' k h => ?_, pgs_weak (pgs_cons h1.pg h2.pg hs) fun vs σ H Q ⟨B, ρ, ds, ok, r, h⟩ => ?_⟩
  · cases d with
    | nil => exact h
    | cons d r => exact h1.mono _ _ _ _ (fun ρ' h' => h2.mono _ _ _ _ k h') h
  · cases ds with
    | nil => exact h.elim
    | cons d ds =>
      cases r with
      | cons r rr =>
        refine ⟨_, _, rfl, B, ρ, d, ok, r, h1.mono _ _ _ _ (fun ρ1 h' σ1 ok1 o1 => ⟨B, ρ1, ds, ok1, rr, h2.mono _ _ _ _ (fun ρ2 h'' σ2 ok2 o2 => h'' σ2 ok2 ⟨o2.1.trans o1.1, fun j hj => ?_⟩) h'⟩) h⟩
        rw [o2.2 j (fun z => hj (List.mem_append_right _ z)), o1.2 j (fun z => hj (List.mem_append_left _ z))]
theorem g_tup {es : List Expr} {k : Nat} {gs : GTs} {ks : List Nat} {pos : Pos} (hc : X.calm = true) (h : PGsd X c es gs ks) {n : Nat} (hn : (assignEach es X.env).length = n := by rfl) (hst : (assignEach es X.env).findIdx? (·.1) = none := by rfl) :
    PGd X c (.Tuple es k pos) (gTpl n gs) ks := by
  refine ⟨fun d ρ Q Q' k h' => ?_, pg_weak (pg_tup hc h.pg hn hst) fun v σ H Q ⟨B, ρ, d, ok, r, h'⟩ => ?_⟩
  · cases d <;> first | exact h'.elim | exact ⟨h'.1, h.mono _ _ _ _ k h'.2⟩
  · cases d <;> first | exact h'.elim | skip
    obtain ⟨a, xs, rfl, h1, h2⟩ := rp_tup r
    exact ⟨a, xs, rfl, SqT.of (ok.w.sub _ _ h1), by rw [rpa_len h2]; exact h'.1, B, ρ, _, ok, h2, h'.2⟩
end
/-! ### statements -/
structure En where
  nx : Env → Prop
  rt : D → Prop
  bk : Env → Prop
  ct : Env → Prop
  ro : List D → Prop
abbrev SS := En → Env → Prop
structure En.le (D D' : En) : Prop where
  nx : ∀ ρ, D.nx ρ → D'.nx ρ
  rt : ∀ d, D.rt d → D'.rt d
  bk : ∀ ρ, D.bk ρ → D'.bk ρ
  ct : ∀ ρ, D.ct ρ → D'.ct ρ
  ro : ∀ ds, D.ro ds → D'.ro ds
theorem En.le.refl (D : En) : En.le D D := ⟨fun _ h => h, fun _ h => h, fun _ h => h, fun _ h => h, fun _ h => h⟩
def MonoS (f : SS) : Prop := ∀ D D' ρ, En.le D D' → f D ρ → f D' ρ
def liftE (c : C) (B : Hp) (D : Ends) : En where
  nx := fun ρ => ∀ σ' B' H', EOk c B' H' σ' ρ → Ex B B' → D.nx σ' H'
  rt := fun d => ∀ v B' H', Gr c c.B0 c.H0 B' H' → Rp B' v d → D.rt v H'
  bk := fun ρ => ∀ σ' B' H', EOk c B' H' σ' ρ → Ex B B' → D.bk σ' H'
  ct := fun ρ => ∀ σ' B' H', EOk c B' H' σ' ρ → Ex B B' → D.ct σ' H'
  ro := fun ds => ∀ p vs B' H', Gr c c.B0 c.H0 B' H' → c.H0 p = none → B' p = none → H' p = some (.lst vs) → RpA B' vs ds → D.rt (.ref p) H'
theorem liftE_le {c : C} {B B1 : Hp} (e : Ex B B1) (D : Ends) : En.le (liftE c B D) (liftE c B1 D) :=
  ⟨fun _ h σ' B' H' ok x => h σ' B' H' ok (e.trans x), fun _ h => h, fun _ h σ' B' H' ok x => h σ' B' H' ok (e.trans x), fun _ h σ' B' H' ok x => h σ' B' H' ok (e.trans x), fun _ h => h⟩
def toS (c : C) (f : SS) : TS := fun D σ H => ∃ B ρ, EOk c B H σ ρ ∧ f (liftE c B D) ρ
structure PSd (X : Cx) (c : C) (st : Stmt) (f : SS) : Prop where
  mono : MonoS f
  ps : PS X st (toS c f)
structure PSsd (X : Cx) (c : C) (st : List Stmt) (f : SS) : Prop where
  mono : MonoS f
  ps : PSs X st (toS c f)
def fNext : SS := fun D ρ => D.nx ρ
def fSeqS (f g : SS) : SS := fun D ρ => f { D with nx := g D } ρ
theorem mono_SeqS {f g : SS} (hf : MonoS f) (hg : MonoS g) : MonoS (fSeqS f g) := fun D D' ρ l h => hf { D with nx := g D } { D' with nx := g D' } ρ ⟨fun ρ h => hg _ _ _ l h, l.rt, l.bk, l.ct, l.ro⟩ h
section
variable {X : Cx} {c : C}
theorem ss_nil : PSsd X c [] fNext := ⟨fun _ _ _ l h => l.nx _ h, pss_weak pss_nil fun D σ H ⟨B, ρ, ok, h⟩ => h σ B H ok (Evl.Ex.refl B)⟩
theorem ss_cons {st : Stmt} {rest : List Stmt} {f g : SS} (h1 : PSd X c st f) (h2 : PSsd X c rest g) : PSsd X c (st :: rest) (fSeqS f g) := by
  refine ⟨mono_SeqS h1.mono h2.mono, pss_weak (pss_cons h1.ps h2.ps) fun D σ H ⟨B, ρ, ok, h⟩ => ?_⟩
  exact ⟨B, ρ, ok, h1.mono { liftE c B D with nx := g (liftE c B D) } _ _ ⟨fun ρ' q σ' B' H' ok' e => ⟨B', ρ', ok', h2.mono _ _ _ (liftE_le e D) q⟩, fun _ q => q, fun _ q => q, fun _ q => q, fun _ q => q⟩ h⟩
theorem ss_one {st : Stmt} {f : SS} (h1 : PSd X c st f) : PSsd X c [st] f := ⟨h1.mono, pss_one h1.ps⟩
def fBreak : SS := fun D ρ => D.bk ρ
def fCont : SS := fun D ρ => D.ct ρ
def fNever : SS := fun _ _ => False
theorem s_break {pos : Pos} : PSd X c (.Break pos) fBreak := ⟨fun _ _ _ l h => l.bk _ h, ps_weak ps_break fun D σ H ⟨B, ρ, ok, h⟩ => h σ B H ok (Evl.Ex.refl B)⟩
theorem s_continue {pos : Pos} : PSd X c (.Continue pos) fCont := ⟨fun _ _ _ l h => l.ct _ h, ps_weak ps_continue fun D σ H ⟨B, ρ, ok, h⟩ => h σ B H ok (Evl.Ex.refl B)⟩
theorem s_pass {pos : Pos} : PSd X c (.Pass pos) fNext := ⟨fun _ _ _ l h => l.nx _ h, ps_weak ps_pass fun D σ H ⟨B, ρ, ok, h⟩ => h σ B H ok (Evl.Ex.refl B)⟩
theorem s_never {st : Stmt} : PSd X c st fNever := ⟨fun _ _ _ _ h => h, ps_weak ps_never fun D σ H ⟨B, ρ, ok, h⟩ => h⟩
def fRet (fa : SE) : SS := fun D ρ => fa ρ D.rt
theorem s_ret {e : Expr} {fa : SE} {pos : Pos} (ha : PV X c e fa) : PSd X c (.Return (some e) pos) (fRet fa) :=
  ⟨fun D D' ρ l h => ha.mono _ _ _ l.rt h, ps_weak (ps_ret ha.pe) fun D σ H ⟨B, ρ, ok, h⟩ => ⟨B, ρ, ok, ha.mono _ _ _ (fun d hd v B' H' g r => hd v B' H' (ok.g.trans ok.w0 g) r) h⟩⟩
/-- a list of one's own is handed back -/
def fRetO (i : Nat) : SS := fun D ρ => match lk ρ i with | .ow ds => D.ro ds | _ => False
def fRetN (f : SL) : SS := fun D ρ => f ρ D.ro
theorem s_retO (i : Nat) {x : Str} {p pos : Pos} (hN : X.N[i]? = some x := by rfl) (hv : Vis X.env.scope x := by first | exact Or.inl rfl | exact Or.inr (Or.inl rfl) | exact Or.inr (Or.inr rfl))
    (hd : (x == ("__debug__" : Str)) = false := by decide) (hcd : (x == ("__classdict__" : Str)) = false := by decide) : PSd X c (.Return (some (.Name x p)) pos) (fRetO i) := by
  refine ⟨fun D D' ρ l h => ?_, ps_weak (ps_ret (pe_var hN hv hd hcd)) fun D σ H ⟨B, ρ, ok, h⟩ => ?_⟩
  · unfold fRetO at h ⊢
    cases e : lk ρ i with
    | ow ds => rw [e] at h; exact l.ro _ h
    | _ => rw [e] at h; exact h.elim
  · unfold fRetO at h
    cases e : lk ρ i with
    | ow ds =>
      rw [e] at h
      obtain ⟨q, vs, h1, h2, h3, h4, h5, h6⟩ := ok.sl i _ (lk_get e (fun z => nomatch z))
      exact ⟨_, h1, h q vs B H ok.g h2 h4 h5 h6⟩
    | _ => rw [e] at h; exact h.elim
theorem s_retN {e : Expr} {fa : SL} {pos : Pos} (ha : PN X c e fa) : PSd X c (.Return (some e) pos) (fRetN fa) :=
  ⟨fun D D' ρ l h => ha.mono _ _ _ l.ro h, ps_weak (ps_ret ha.pe) fun D σ H ⟨B, ρ, ok, h⟩ => ⟨B, ρ, ok, ha.mono _ _ _ (fun ds hd p vs B' H' g h0 h1 h2 r => hd p vs B' H' (ok.g.trans ok.w0 g) (ok.g.back h0) h1 h2 r) h⟩⟩
def fIfS (t : ST) (f g : SS) : SS := fun D ρ => t ρ fun b => if b = true then f D ρ else g D ρ
theorem s_if {cc : Expr} {a b : List Stmt} {t : ST} {f g : SS} {pos : Pos} (ht : PTd X c cc t) (ha : PSsd X c a f) (hb : PSsd X c b g) : PSd X c (.If cc a b pos) (fIfS t f g) := by
  refine ⟨fun D D' ρ l h => ht.mono _ _ _ (fun b hb' => ?_) h, ps_weak (ps_if ht.pt ha.ps hb.ps) fun D σ H ⟨B, ρ, ok, h⟩ => ⟨B, ρ, ok, ht.mono _ _ _ (fun b hb' B' H' g' => ?_) h⟩⟩
  · cases b with
    | true => exact ha.mono _ _ _ l hb'
    | false => exact hb.mono _ _ _ l hb'
  · cases b with
    | true => exact ⟨B', ρ, ok.mono g', ha.mono _ _ _ (liftE_le g'.b D) hb'⟩
    | false => exact ⟨B', ρ, ok.mono g', hb.mono _ _ _ (liftE_le g'.b D) hb'⟩
def fSet (i : Nat) (fa : SE) : SS := fun D ρ => fa ρ fun d => D.nx (ρ.set i (.sh d))
theorem mono_Set {i : Nat} {fa : SE} (h : Mono fa) : MonoS (fSet i fa) := fun D D' ρ l q => h _ _ _ (fun d hd => l.nx _ hd) q
theorem set_go {i : Nat} {fa : SE} (h : Mono fa) (D : Ends) (σ : St) (H : Hp) (q : toS c (fSet i fa) D σ H) : tAsg (toV c fa) (gName i) D σ H := by
  obtain ⟨B, ρ, ok, q⟩ := q
  exact ⟨B, ρ, ok, h _ _ _ (fun d hd v B' H' g r => hd _ _ _ ((ok.mono g).putSh r) g.b) q⟩
theorem s_set (i : Nat) {x : Str} {e : Expr} {fa : SE} {pos pos' : Pos} (hN : X.N.Nodup) (he : PV X c e fa) (hi : X.N[i]? = some x := by rfl) (hx : Loc X.env.scope x := by first | exact Or.inl rfl | exact Or.inr rfl)
    (hs : swapsWith e (some (.Name x pos')) pos.line X.env = pure false := by rfl) (hf : X.fn x = true ∨ X.env.scope.names.lookup x = some .local := by first | exact .inl rfl | exact .inr rfl | assumption) :
    PSd X c (.Assign [.Name x pos'] e pos) (fSet i fa) := ⟨mono_Set he.mono, ps_weak (ps_set hN hi hx he.pe hs hf) (set_go he.mono)⟩
/-- a name that shall be changed: a new list of one's own -/
def fSetN (i : Nat) (fa : SL) : SS := fun D ρ => fa ρ fun ds => D.nx (ρ.set i (.ow ds))
theorem mono_SetN {i : Nat} {fa : SL} (h : MonoL fa) : MonoS (fSetN i fa) := fun D D' ρ l q => h _ _ _ (fun d hd => l.nx _ hd) q
theorem setN_go {i : Nat} {fa : SL} (h : MonoL fa) (D : Ends) (σ : St) (H : Hp) (q : toS c (fSetN i fa) D σ H) : tAsg (toN c fa) (gName i) D σ H := by
  obtain ⟨B, ρ, ok, q⟩ := q
  exact ⟨B, ρ, ok, h _ _ _ (fun ds hd p vs B' H' g h0 h1 h2 r => hd _ _ _ (ok.putOw g h0 h1 h2 r) g.b) q⟩
theorem s_setN (i : Nat) {x : Str} {e : Expr} {fa : SL} {pos pos' : Pos} (hN : X.N.Nodup) (he : PN X c e fa) (hi : X.N[i]? = some x := by rfl) (hx : Loc X.env.scope x := by first | exact Or.inl rfl | exact Or.inr rfl)
    (hs : swapsWith e (some (.Name x pos')) pos.line X.env = pure false := by rfl) (hf : X.fn x = true ∨ X.env.scope.names.lookup x = some .local := by first | exact .inl rfl | exact .inr rfl | assumption) :
    PSd X c (.Assign [.Name x pos'] e pos) (fSetN i fa) := ⟨mono_SetN he.mono, ps_weak (ps_set hN hi hx he.pe hs hf) (setN_go he.mono)⟩
/-- any target -/
def fAsg (fa : SE) (g : GT) : SS := fun D ρ => fa ρ fun d => g d ρ D.nx
theorem s_asg {tg e : Expr} {fa : SE} {g : GT} {ks : List Nat} {pos : Pos} (he : PV X c e fa) (hg : PGd X c tg g ks) (hs : swapsWithSole [tg] e pos.line X.env = pure false := by rfl) (hw : swappedStores [tg] e X.env = pure none := by rfl)
    (h1 : (assignEach [tg] X.env).map (·.2) = [assign tg X.env] := by rfl) : PSd X c (.Assign [tg] e pos) (fAsg fa g) :=
  ⟨fun D D' ρ l h => he.mono _ _ _ (fun d hd => hg.mono _ _ _ _ l.nx hd) h, ps_weak (ps_asg he.pe hg.pg hs hw h1) fun D σ H ⟨B, ρ, ok, h⟩ => ⟨B, ρ, ok, he.mono _ _ _ (fun d hd v B' H' g' r =>
    ⟨B', ρ, d, ok.mono g', r, hg.mono _ _ _ _ (fun ρ' h' σ' ok' _ => h' σ' B' H' ok' g'.b) hd⟩) h⟩⟩
/-! ### a, b = x, y: data and new lists -/
abbrev SM := Env → (List Sl → Prop) → Prop
def MOk (c : C) (H B' H' : Hp) : List V → List Sl → Prop
  | [], [] => True
  | v :: vs, .sh d :: ss => Rp B' v d ∧ MOk c H B' H' vs ss
  | v :: vs, .ow ds :: ss => (∃ p ws, v = .ref p ∧ H p = none ∧ B' p = none ∧ H' p = some (.lst ws) ∧ RpA B' ws ds ∧ v ∉ vs) ∧ MOk c H B' H' vs ss
  | _, _ => False
def toM (c : C) (f : SM) : TA := fun σ H Q => ∃ B ρ, EOk c B H σ ρ ∧ f ρ fun ss => ∀ vs B' H', Gr c B H B' H' → MOk c H B' H' vs ss → Q vs H'
structure PMd (X : Cx) (c : C) (es : List Expr) (f : SM) : Prop where
  mono : MonoA f
  pa : PA X es (toM c f)
def fMV (fa : SE) (fr : SM) : SM := fun ρ Q => fa ρ fun d => fr ρ fun ss => Q (.sh d :: ss)
def fMN (fa : SL) (fr : SM) : SM := fun ρ Q => fa ρ fun ds => fr ρ fun ss => Q (.ow ds :: ss)
theorem MOk.back {B H B1 H1 B' H' : Hp} (g : Gr c B H B1 H1) (g2 : Gr c B1 H1 B' H') : ∀ {vs : List V} {ss : List Sl}, MOk c H1 B' H' vs ss → MOk c H B' H' vs ss
  | [], [], _ => trivial
  | _ :: _, .sh _ :: _, h => ⟨h.1, MOk.back g g2 h.2⟩
  | _ :: _, .ow _ :: _, h => by
    obtain ⟨⟨p, ws, e, h0, r⟩, h2⟩ := h
    exact ⟨⟨p, ws, e, g.back h0, r⟩, MOk.back g g2 h2⟩
  | _ :: _, .un :: _, h => h
  | _ :: _, .bg :: _, h => h
  | [], _ :: _, h => h
  | _ :: _, [], h => h
/-- an address that stands at H1 and is not shared is none of the later values -/
theorem MOk.notin {H1 B' H' : Hp} {p : Addr} {o : HO} (h1 : H1 p = some o) (h2 : B' p = none) : ∀ {vs : List V} {ss : List Sl}, MOk c H1 B' H' vs ss → V.ref p ∉ vs
  | [], [], _ => by simp
  | v :: vs, .sh d :: ss, h => by
    intro z
    rcases List.mem_cons.mp z with z | z
    · subst z
      obtain ⟨r, _⟩ := h
      cases r with
      | lst e _ => rw [h2] at e; cases e
      | tup e _ => rw [h2] at e; cases e
      | dct e _ => rw [h2] at e; cases e
    · exact MOk.notin h1 h2 h.2 z
  | v :: vs, .ow ds :: ss, h => by
    intro z
    obtain ⟨⟨q, ws, e, h0, _⟩, h3⟩ := h
    rcases List.mem_cons.mp z with z | z
    · rw [e] at z
      cases z
      rw [h1] at h0; cases h0
    · exact MOk.notin h1 h2 h3 z
  | _ :: _, .un :: _, h => h.elim
  | _ :: _, .bg :: _, h => h.elim
  | [], _ :: _, h => h.elim
  | _ :: _, [], h => h.elim
theorem m_nil : PMd X c [] fAN := ⟨fun _ _ _ k h => k _ h, pa_weak pa_nil fun σ H Q ⟨B, ρ, ok, h⟩ => h [] B H (Gr.refl ok.w) trivial⟩
theorem m_v {e : Expr} {es : List Expr} {fa : SE} {fr : SM} (ha : PV X c e fa) (hr : PMd X c es fr) (hs : starEach (e :: es) X.env = (false, eval e X.env) :: starEach es X.env := by rfl) : PMd X c (e :: es) (fMV fa fr) := by
  refine ⟨fun ρ Q Q' k h => ha.mono _ _ _ (fun d hd => hr.mono _ _ _ (fun ds he => k _ he) hd) h, pa_weak (pa_cons ha.pe hr.pa hs) fun σ H Q ⟨B, ρ, ok, h⟩ => ?_⟩
  refine ⟨B, ρ, ok, ha.mono _ _ _ (fun d hd v B1 H1 g1 r1 => ?_) h⟩
  exact ⟨B1, ρ, ok.mono g1, hr.mono _ _ _ (fun ds he vs B2 H2 g2 r2 => he _ B2 H2 (g1.trans ok.w g2) ⟨rp_mono g2.b r1, MOk.back g1 g2 r2⟩) hd⟩
theorem m_n {e : Expr} {es : List Expr} {fa : SL} {fr : SM} (ha : PN X c e fa) (hr : PMd X c es fr) (hs : starEach (e :: es) X.env = (false, eval e X.env) :: starEach es X.env := by rfl) : PMd X c (e :: es) (fMN fa fr) := by
  refine ⟨fun ρ Q Q' k h => ha.mono _ _ _ (fun d hd => hr.mono _ _ _ (fun ds he => k _ he) hd) h, pa_weak (pa_cons ha.pe hr.pa hs) fun σ H Q ⟨B, ρ, ok, h⟩ => ?_⟩
  refine ⟨B, ρ, ok, ha.mono _ _ _ (fun ds hd p ws B1 H1 g1 h0 h1 h2 r1 => ?_) h⟩
  refine ⟨B1, ρ, ok.mono g1, hr.mono _ _ _ (fun ss he vs B2 H2 g2 r2 => he _ B2 H2 (g1.trans ok.w g2) ⟨⟨p, ws, rfl, h0, ?_, ?_, rpa_mono g2.b r1, ?_⟩, MOk.back g1 g2 r2⟩) hd⟩
  · rw [g2.n p (by rw [h2]; exact fun q => nomatch q)]; exact h1
  · exact g2.h p _ (fun z => ok.w.there z h0) h2
  · exact MOk.notin h2 (by rw [g2.n p (by rw [h2]; exact fun q => nomatch q)]; exact h1) r2
/-- the slots at js take the words ss -/
def setAll : Env → List Nat → List Sl → Env
  | ρ, j :: js, s :: ss => setAll (ρ.set j s) js ss
  | ρ, _, _ => ρ
def setV : St → List Nat → List V → St
  | σ, j :: js, v :: vs => setV (σ.set j (some v)) js vs
  | σ, _, _ => σ
/-- σ0, H: the state ahead of the right side; the slots at done have taken values -/
theorem putAll {B H B' H' : Hp} (w : Wd c B H) (g : Gr c B H B' H') : ∀ {js : List Nat} {vs : List V} {ss : List Sl} {σ : St} {ρ : Env}, EOk c B' H' σ ρ → js.length = ss.length → MOk c H B' H' vs ss →
    (∀ (j : Nat) (es : List D) (p : Addr), V.ref p ∈ vs → H p = none → ρ[j]? = some (Sl.ow es) → ¬ σ[j]? = some (some (V.ref p))) → (c.H0 = c.H0) → (∀ a o, ¬ c.isBag a → c.H0 a = some o → H a = some o) → EOk c B' H' (setV σ js vs) (setAll ρ js ss)
  | [], [], [], _, _, ok, _, _, _, _, _ => ok
  | j :: js, v :: vs, .sh d :: ss, σ, ρ, ok, hl, h, hn, _, h0 => by
    show EOk c B' H' (setV (σ.set j (some v)) js vs) (setAll (ρ.set j (.sh d)) js ss)
    refine putAll w g (ok.putSh h.1) (by simpa using hl) h.2 (fun k es p hp hH h1 h2 => ?_) rfl h0
    by_cases e : j = k
    · subst e
      have hlen : j < ρ.length := by
        have := (List.getElem?_eq_some_iff.mp h1).1
        rw [List.length_set] at this; exact this
      rw [List.getElem?_set_self hlen] at h1
      cases h1
    · rw [List.getElem?_set_ne e] at h1 h2
      exact hn k es p (List.mem_cons_of_mem _ hp) hH h1 h2
  | j :: js, v :: vs, .ow ds :: ss, σ, ρ, ok, hl, h, hn, _, h0 => by
    obtain ⟨⟨p, ws, e, k0, k1, k2, k3, k4⟩, h2⟩ := h
    subst e
    have nb : ¬ c.isBag p := fun z => w.there z k0
    have hH0 : c.H0 p = none := by
      cases e : c.H0 p with
      | none => rfl
      | some o => rw [h0 p o nb e] at k0; cases k0
    show EOk c B' H' (setV (σ.set j (some (.ref p))) js vs) (setAll (ρ.set j (.ow ds)) js ss)
    refine putAll w g (ok.put (fun hi => ⟨p, ws, List.getElem?_set_self hi, hH0, nb, k1, k2, k3⟩) fun es q e1 e2 i fs hi h3 h4 => ?_) (by simpa using hl) h2 (fun k es q hq hH h1 h3 => ?_) rfl h0
    · cases e2
      exact hn i fs p List.mem_cons_self k0 h3 h4
    · by_cases e : j = k
      · subst e
        have hlen : j < ρ.length := by
          have := (List.getElem?_eq_some_iff.mp h1).1
          rw [List.length_set] at this; exact this
        rw [List.getElem?_set_self (by rw [← ok.len]; exact hlen)] at h3
        have e3 : V.ref p = V.ref q := Option.some.inj (Option.some.inj h3)
        rw [← e3] at hq
        exact k4 hq
      · rw [List.getElem?_set_ne e] at h1 h3
        exact hn k es q (List.mem_cons_of_mem _ hq) hH h1 h3
  | [], [], _ :: _, _, _, _, hl, _, _, _, _ => by simp at hl
  | [], _ :: _, [], _, _, _, _, h, _, _, _ => h.elim
  | _ :: _, _, [], _, _, _, hl, _, _, _, _ => by simp at hl
  | [], _ :: _, _ :: _, _, _, _, hl, _, _, _, _ => by simp at hl
  | _ :: _, [], _ :: _, _, _, _, _, h, _, _, _ => h.elim
  | _ :: _, _ :: _, .un :: _, _, _, _, _, h, _, _, _ => h.elim
  | _ :: _, _ :: _, .bg :: _, _, _, _, _, h, _, _, _ => h.elim
theorem putAll' {B H B' H' : Hp} {js : List Nat} {vs : List V} {ss : List Sl} {σ : St} {ρ : Env} (ok : EOk c B H σ ρ) (g : Gr c B H B' H') (hl : js.length = ss.length) (h : MOk c H B' H' vs ss) : EOk c B' H' (setV σ js vs) (setAll ρ js ss) :=
  putAll ok.w g (ok.mono g) hl h (fun j es p _ hp h1 h2 => by
    obtain ⟨q, ws, k1, _, _, _, k5, _⟩ := ok.sl j _ h1
    rw [k1] at h2
    cases h2
    rw [hp] at k5
    cases k5) rfl ok.g.h
theorem MOk.len {H B' H' : Hp} : ∀ {vs : List V} {ss : List Sl}, MOk c H B' H' vs ss → vs.length = ss.length
  | [], [], _ => rfl
  | _ :: _, .sh _ :: _, h => by rw [List.length_cons, List.length_cons, MOk.len h.2]
  | _ :: _, .ow _ :: _, h => by rw [List.length_cons, List.length_cons, MOk.len h.2]
  | _ :: _, .un :: _, h => h.elim
  | _ :: _, .bg :: _, h => h.elim
  | [], _ :: _, h => h.elim
  | _ :: _, [], h => h.elim
def fPar (js : List Nat) (f : SM) : SS := fun D ρ => f ρ fun ss => js.length = ss.length ∧ D.nx (setAll ρ js ss)
theorem mono_Par {js : List Nat} {f : SM} (h : MonoA f) : MonoS (fPar js f) := fun D D' ρ l q => h _ _ _ (fun ss hs => ⟨hs.1, l.nx _ hs.2⟩) q
theorem s_par (i j : Nat) {x y : Str} {a b : Expr} {f : SM} {px py pt pos : Pos} {kt k2 : Nat} {pt2 : Pos} (hc : X.calm = true) (hN : X.N.Nodup) (ha : PMd X c [a, b] f) (hi : X.N[i]? = some x := by rfl) (hj : X.N[j]? = some y := by rfl) (hij : i ≠ j := by decide)
    (hx : X.env.scope.names.lookup x = some .local := by rfl) (hy : X.env.scope.names.lookup y = some .local := by rfl)
    (hw : swappedStores [.Tuple [.Name x px, .Name y py] kt pt] (.Tuple [a, b] k2 pt2) X.env = pure (some [x, y]) := by rfl)
    (hs : swapsWithSole [.Tuple [.Name x px, .Name y py] kt pt] (.Tuple [a, b] k2 pt2) pos.line X.env = pure false := by rfl) :
    PSd X c (.Assign [.Tuple [.Name x px, .Name y py] kt pt] (.Tuple [a, b] k2 pt2) pos) (fPar [i, j] f) := by
  refine ⟨mono_Par ha.mono, ps_weak (ps_par hc hN hi hj hij hx hy ha.pa hw hs) fun D σ H ⟨B, ρ, ok, h⟩ => ⟨B, ρ, ok, ha.mono _ _ _ (fun ss hd vs B' H' g r => ?_) h⟩⟩
  have hv := r.len
  have hq := hd.2 _ B' H' (putAll' ok g hd.1 r) g.b
  rw [← hd.1] at hv
  match vs, hv with
  | [v, w], _ => exact ⟨v, w, rfl, hq⟩
theorem s_par3 (i j l : Nat) {x y z : Str} {a b d : Expr} {f : SM} {px py pz pt pos : Pos} {kt k2 : Nat} {pt2 : Pos} (hc : X.calm = true) (hN : X.N.Nodup) (ha : PMd X c [a, b, d] f) (hi : X.N[i]? = some x := by rfl) (hj : X.N[j]? = some y := by rfl) (hl : X.N[l]? = some z := by rfl)
    (hij : i ≠ j := by decide) (hil : i ≠ l := by decide) (hjl : j ≠ l := by decide) (hx : X.env.scope.names.lookup x = some .local := by rfl) (hy : X.env.scope.names.lookup y = some .local := by rfl) (hz : X.env.scope.names.lookup z = some .local := by rfl)
    (hw : swappedStores [.Tuple [.Name x px, .Name y py, .Name z pz] kt pt] (.Tuple [a, b, d] k2 pt2) X.env = pure (some [x, y, z]) := by rfl)
    (hs : swapsWithSole [.Tuple [.Name x px, .Name y py, .Name z pz] kt pt] (.Tuple [a, b, d] k2 pt2) pos.line X.env = pure false := by rfl) :
    PSd X c (.Assign [.Tuple [.Name x px, .Name y py, .Name z pz] kt pt] (.Tuple [a, b, d] k2 pt2) pos) (fPar [i, j, l] f) := by
  refine ⟨mono_Par ha.mono, ps_weak (ps_par3 hc hN hi hj hl hij hil hjl hx hy hz ha.pa hw hs) fun D σ H ⟨B, ρ, ok, h⟩ => ⟨B, ρ, ok, ha.mono _ _ _ (fun ss hd vs B' H' g r => ?_) h⟩⟩
  have hv := r.len
  have hq := hd.2 _ B' H' (putAll' ok g hd.1 r) g.b
  rw [← hd.1] at hv
  match vs, hv with
  | [u, v, w], _ => exact ⟨u, v, w, rfl, hq⟩
end
end DL
namespace DL
open PySem L2 PyProof.Rows
/-! ### a list of one's own is changed -/
section
variable {c : C} {B H : Hp} {σ : St} {ρ : Env}
theorem EOk.chg (ok : EOk c B H σ ρ) {i : Nat} {p : Addr} {ds ds' : List D} {vs' : List V} (hl : lk ρ i = .ow ds) (hp : σ[i]? = some (some (.ref p))) (r : RpA B vs' ds') : EOk c B (upd H p (.lst vs')) σ (ρ.set i (.ow ds')) := by
  have hi := lk_get hl (fun z => nomatch z)
  obtain ⟨p', vs, k1, k2, k3, k4, k5, k6⟩ := ok.sl i _ hi
  rw [hp] at k1
  cases k1
  have w' : Wd c B (upd H p (.lst vs')) := by
    refine ⟨fun a o e => ?_, ok.w.bag.keep fun a ha => ⟨rfl, upd_ne fun z => k3 (z ▸ ha)⟩⟩
    rw [upd_ne (ne_of_none e k4)]; exact ok.w.sub a o e
  have hil : i < ρ.length := (List.getElem?_eq_some_iff.mp hi).1
  refine ⟨ok.w0, w', ⟨ok.g.b, fun a o nb e => ?_, ok.g.n, w'⟩, by rw [List.length_set]; exact ok.len, fun j s hj => ?_, fun j k q es fs hjk h1 h2 h3 h4 => ?_⟩
  · rw [upd_ne (ne_of_none e k2)]; exact ok.g.h a o nb e
  · by_cases e : i = j
    · subst e
      rw [List.getElem?_set_self hil] at hj
      cases hj
      exact ⟨p, vs', hp, k2, k3, k4, upd_same, r⟩
    · rw [List.getElem?_set_ne e] at hj
      have o := ok.sl j s hj
      cases s with
      | un => trivial
      | sh d => exact o
      | bg => exact o
      | ow es =>
        obtain ⟨q, ws, m1, m2, m3, m4, m5, m6⟩ := o
        have ne : q ≠ p := fun z => by
          subst z
          exact ok.ap i j q _ _ e hi hj hp m1
        exact ⟨q, ws, m1, m2, m3, m4, by rw [upd_ne ne]; exact m5, m6⟩
  · have old : ∀ {x : Nat} {fs : List D}, (ρ.set i (Sl.ow ds'))[x]? = some (Sl.ow fs) → ∃ gs, ρ[x]? = some (Sl.ow gs) := fun {x fs} hx => by
      by_cases e : i = x
      · subst e; exact ⟨_, hi⟩
      · rw [List.getElem?_set_ne e] at hx; exact ⟨_, hx⟩
    obtain ⟨g1, e1⟩ := old h1
    obtain ⟨g2, e2⟩ := old h2
    exact ok.ap j k q g1 g2 hjk e1 e2 h3 h4
theorem EOk.own (ok : EOk c B H σ ρ) {i : Nat} {ds : List D} (hl : lk ρ i = .ow ds) : ∃ p vs, σ[i]? = some (some (.ref p)) ∧ H p = some (.lst vs) ∧ RpA B vs ds := by
  obtain ⟨p, vs, k1, k2, k3, k4, k5, k6⟩ := ok.sl i _ (lk_get hl (fun z => nomatch z))
  exact ⟨p, vs, k1, k5, k6⟩
/-- a list of one's own is shared from here on -/
theorem EOk.freeze (ok : EOk c B H σ ρ) {i : Nat} {ds : List D} (hl : lk ρ i = .ow ds) : ∃ p vs, EOk c (upd B p (.lst vs)) H σ (ρ.set i (.sh (.list ds))) ∧ B p = none := by
  have hi := lk_get hl (fun z => nomatch z)
  obtain ⟨p, vs, k1, k2, k3, k4, k5, k6⟩ := ok.sl i _ hi
  have x : Ex B (upd B p (.lst vs)) := Evl.Ex.new k4
  have w' : Wd c (upd B p (.lst vs)) H := by
    refine ⟨fun a o e => ?_, ok.w.bag.keep fun a ha => ⟨upd_ne fun z => k3 (z ▸ ha), rfl⟩⟩
    by_cases z : a = p
    · subst z
      rw [upd_same] at e
      rw [k5]; exact e
    · rw [upd_ne z] at e; exact ok.w.sub a o e
  have hil : i < ρ.length := (List.getElem?_eq_some_iff.mp hi).1
  refine ⟨p, vs, ⟨ok.w0, w', ⟨ok.g.b.trans x, ok.g.h, fun a ha => ?_, w'⟩, by rw [List.length_set]; exact ok.len, fun j s hj => ?_, fun j k q es fs hjk h1 h2 h3 h4 => ?_⟩, k4⟩
  · rw [upd_ne (fun z => ha (by rw [z]; exact k2))]; exact ok.g.n a ha
  · by_cases e : i = j
    · subst e
      rw [List.getElem?_set_self hil] at hj
      cases hj
      exact ⟨_, k1, .lst upd_same (rpa_mono x k6)⟩
    · rw [List.getElem?_set_ne e] at hj
      have o := ok.sl j s hj
      cases s with
      | un => trivial
      | sh d =>
        obtain ⟨v, m1, m2⟩ := o
        exact ⟨v, m1, rp_mono x m2⟩
      | bg => exact o
      | ow es =>
        obtain ⟨q, ws, m1, m2, m3, m4, m5, m6⟩ := o
        have ne : q ≠ p := fun z => by
          subst z
          exact ok.ap i j q _ _ e hi hj k1 m1
        exact ⟨q, ws, m1, m2, m3, by rw [upd_ne ne]; exact m4, m5, rpa_mono x m6⟩
  · have old : ∀ {y : Nat} {fs : List D}, (ρ.set i (Sl.sh (.list ds)))[y]? = some (Sl.ow fs) → ρ[y]? = some (Sl.ow fs) := fun {y fs} hx => by
      by_cases e : i = y
      · subst e; rw [List.getElem?_set_self hil] at hx; cases hx
      · rw [List.getElem?_set_ne e] at hx; exact hx
    exact ok.ap j k q _ _ hjk (old h1) (old h2) h3 h4
end
/-- the most items -/
def most : Nat := 4000000
theorem most_lt {n : Nat} (h : n < most) : n < sizeLine := by rw [sizeLine_eq]; unfold most at h; omega
theorem most_le {n : Nat} (h : n ≤ most) : n ≤ sizeLine := by rw [sizeLine_eq]; unfold most at h; omega
def fApp (i : Nat) (fa : SE) : SS := fun D ρ => match lk ρ i with | .ow ds => fa ρ fun d => ds.length < most ∧ D.nx (ρ.set i (.ow (ds ++ [d]))) | _ => False
def fExt (i : Nat) (fa : SE) : SS := fun D ρ => match lk ρ i with | .ow ds => fa ρ fun d => (match d with | .list es => ds.length + es.length ≤ most ∧ D.nx (ρ.set i (.ow (ds ++ es))) | _ => False) | _ => False
def fPop (i : Nat) (g : GT) : SS := fun D ρ => match lk ρ i with | .ow ds => (match ds.getLast? with | some d => g d (ρ.set i (.ow ds.dropLast)) D.nx | none => False) | _ => False
def fSetIx (i : Nat) (fa fk : SE) : SS := fun D ρ => match lk ρ i with
  | .ow ds => fa ρ fun d => fk ρ fun k => (match k with | .int k => (match ixN ds.length k with | some j => D.nx (ρ.set i (.ow (ds.set j d))) | none => False) | _ => False)
  | _ => False
def fFreeze (i : Nat) (f : SS) : SS := fun D ρ => match lk ρ i with | .ow ds => f D (ρ.set i (.sh (.list ds))) | _ => False
section
variable {X : Cx} {c : C}
theorem s_freeze (i : Nat) {st : Stmt} {f : SS} (h : PSd X c st f) : PSd X c st (fFreeze i f) := by
  refine ⟨fun D D' ρ l q => ?_, ps_weak h.ps fun D σ H ⟨B, ρ, ok, q⟩ => ?_⟩
  · unfold fFreeze at q ⊢
    split at q <;> first | exact q.elim | exact h.mono _ _ _ l q
  · unfold fFreeze at q
    split at q <;> first | exact q.elim | skip
    rename_i e
    obtain ⟨p, vs, ok', hb⟩ := ok.freeze e
    exact ⟨_, _, ok', h.mono _ _ _ (liftE_le (Evl.Ex.new hb) D) q⟩
theorem s_app (i : Nat) {x : Str} {e : Expr} {fa : SE} {p1 p2 pos pos' : Pos} (ha : PV X c e fa) (hN : X.N[i]? = some x := by rfl) (hv : Vis X.env.scope x := by first | exact Or.inl rfl | exact Or.inr (Or.inl rfl) | exact Or.inr (Or.inr rfl))
    (hd : (x == ("__debug__" : Str)) = false := by decide) (hcd : (x == ("__classdict__" : Str)) = false := by decide)
    (hbase : attributeBase (.Name x p1) "append" X.env (eval (.Name x p1) X.env) = eval (.Name x p1) X.env := by rfl)
    (hfew : ((backTo pos (starEach [e] X.env)).all (fun x => !x.1) && (backToKw pos (keywordEach [] X.env)).all (fun x => x.1.isSome) && decide ([e].length + ([] : List Keyword).length + (if ([] : List Keyword).isEmpty then 0 else 1) < 30)) = true := by rfl)
    (hline : (p2.endLine == pos.line) = true := by rfl) (hst : starEach [e] X.env = (false, eval e X.env) :: starEach [] X.env := by rfl) (hplain : (backTo pos (starEach [] X.env)).any (·.1) = false := by rfl)
    (hs : swapsWith (.Call (.Attribute (.Name x p1) "append" p2) [e] [] pos) none pos'.line X.env = pure false := by rfl) :
    PSd X c (.Expr (.Call (.Attribute (.Name x p1) "append" p2) [e] [] pos) pos') (fApp i fa) := by
  have hpe : PE X (.Call (.Attribute (.Name x p1) "append" p2) [e] [] pos) (tBM X.K "list" rAppend (tVar i) (tCons (toV c fa) tNil)) := pe_bm PySem.F.plainAttrs_list PySem.F.slot_list_append PySem.F.type_list_append mt_append (pe_var hN hv hd hcd) (pa_cons ha.pe pa_nil hst) hbase hfew hline hst hplain
  refine ⟨fun D D' ρ l q => ?_, ps_weak (ps_expr hpe hs) fun D σ H ⟨B, ρ, ok, q⟩ => ?_⟩
  · unfold fApp at q ⊢
    split at q <;> first | exact q.elim | exact ha.mono _ _ _ (fun d hd => ⟨hd.1, l.nx _ hd.2⟩) q
  · unfold fApp at q
    split at q <;> first | exact q.elim | skip
    rename_i ds e1
    obtain ⟨p, vs, k1, k2, k3⟩ := ok.own e1
    refine ⟨_, k1, .inl ⟨rfl, vs, SqL.of k2⟩, B, ρ, ok, ha.mono _ _ _ (fun d hd v B1 H1 g1 r1 => ?_) q⟩
    obtain ⟨p', vs1, m1, m2, m3⟩ := (ok.mono g1).own e1
    rw [k1] at m1
    cases m1
    refine ⟨p, vs1, v, rfl, rfl, m2, ?_, ?_⟩
    · rw [rpa_len m3]; exact most_lt hd.1
    · exact hd.2 σ B1 _ ((ok.mono g1).chg e1 k1 (rpa_app m3 (.cons r1 .nil))) g1.b
theorem s_ext (i : Nat) {x : Str} {e : Expr} {fa : SE} {p1 p2 pos pos' : Pos} (ha : PB X c e fa) (hN : X.N[i]? = some x := by rfl) (hv : Vis X.env.scope x := by first | exact Or.inl rfl | exact Or.inr (Or.inl rfl) | exact Or.inr (Or.inr rfl))
    (hd : (x == ("__debug__" : Str)) = false := by decide) (hcd : (x == ("__classdict__" : Str)) = false := by decide)
    (hbase : attributeBase (.Name x p1) "extend" X.env (eval (.Name x p1) X.env) = eval (.Name x p1) X.env := by rfl)
    (hfew : ((backTo pos (starEach [e] X.env)).all (fun x => !x.1) && (backToKw pos (keywordEach [] X.env)).all (fun x => x.1.isSome) && decide ([e].length + ([] : List Keyword).length + (if ([] : List Keyword).isEmpty then 0 else 1) < 30)) = true := by rfl)
    (hline : (p2.endLine == pos.line) = true := by rfl) (hst : starEach [e] X.env = (false, eval e X.env) :: starEach [] X.env := by rfl) (hplain : (backTo pos (starEach [] X.env)).any (·.1) = false := by rfl)
    (hs : swapsWith (.Call (.Attribute (.Name x p1) "extend" p2) [e] [] pos) none pos'.line X.env = pure false := by rfl) :
    PSd X c (.Expr (.Call (.Attribute (.Name x p1) "extend" p2) [e] [] pos) pos') (fExt i fa) := by
  have hpe : PE X (.Call (.Attribute (.Name x p1) "extend" p2) [e] [] pos) (tBM X.K "list" rExtend (tVar i) (tCons (toB c fa) tNil)) := pe_bm PySem.F.plainAttrs_list PySem.F.slot_list_extend PySem.F.type_list_extend mt_extend (pe_var hN hv hd hcd) (pa_cons ha.pe pa_nil hst) hbase hfew hline hst hplain
  refine ⟨fun D D' ρ l q => ?_, ps_weak (ps_expr hpe hs) fun D σ H ⟨B, ρ, ok, q⟩ => ?_⟩
  · unfold fExt at q ⊢
    split at q <;> first | exact q.elim | skip
    refine ha.mono _ _ _ (fun d hd => ?_) q
    cases d <;> first | exact hd.elim | exact ⟨hd.1, l.nx _ hd.2⟩
  · unfold fExt at q
    split at q <;> first | exact q.elim | skip
    rename_i ds e1
    obtain ⟨p, vs, k1, k2, k3⟩ := ok.own e1
    refine ⟨_, k1, .inl ⟨rfl, vs, SqL.of k2⟩, B, ρ, ok, ha.mono _ _ _ (fun d hd v B1 H1 g1 r1 => ?_) q⟩
    cases d <;> first | exact hd.elim | skip
    obtain ⟨p', vs1, m1, m2, m3⟩ := (ok.mono g1).own e1
    rw [k1] at m1
    cases m1
    obtain ⟨b, zs, rfl, h1, h2⟩ := r1.list g1.w
    refine ⟨p, b, vs1, zs, rfl, rfl, m2, h1, ?_, ?_⟩
    · rw [rpa_len m3, rpa_len h2]; exact most_le hd.1
    · exact hd.2 σ B1 _ ((ok.mono g1).chg e1 k1 (rpa_app m3 h2)) g1.b
theorem rpa_dropLast {B : Hp} {vs : List V} {ds : List D} (h : RpA B vs ds) : RpA B vs.dropLast ds.dropLast := by
  rw [List.dropLast_eq_take, List.dropLast_eq_take, rpa_len h]
  exact rpa_take _ h
theorem s_pop (i : Nat) {x : Str} {tg : Expr} {g : GT} {ks : List Nat} {p1 p2 pos pos' : Pos} (hg : PGd X c tg g ks) (hN : X.N[i]? = some x := by rfl) (hv : Vis X.env.scope x := by first | exact Or.inl rfl | exact Or.inr (Or.inl rfl) | exact Or.inr (Or.inr rfl))
    (hd : (x == ("__debug__" : Str)) = false := by decide) (hcd : (x == ("__classdict__" : Str)) = false := by decide)
    (hbase : attributeBase (.Name x p1) "pop" X.env (eval (.Name x p1) X.env) = eval (.Name x p1) X.env := by rfl) (hline : (p2.endLine == pos.line) = true := by rfl)
    (hs : swapsWithSole [tg] (.Call (.Attribute (.Name x p1) "pop" p2) [] [] pos) pos'.line X.env = pure false := by rfl) (hw : swappedStores [tg] (.Call (.Attribute (.Name x p1) "pop" p2) [] [] pos) X.env = pure none := by rfl)
    (h1 : (assignEach [tg] X.env).map (·.2) = [assign tg X.env] := by rfl) :
    PSd X c (.Assign [tg] (.Call (.Attribute (.Name x p1) "pop" p2) [] [] pos) pos') (fPop i g) := by
  have hpe : PE X (.Call (.Attribute (.Name x p1) "pop" p2) [] [] pos) (tBM0 X.K "list" rPop (tVar i)) := pe_bm0 PySem.F.plainAttrs_list PySem.F.slot_list_pop PySem.F.type_list_pop mt_pop (pe_var hN hv hd hcd) hbase hline
  refine ⟨fun D D' ρ l q => ?_, ps_weak (ps_asg hpe hg.pg hs hw h1) fun D σ H ⟨B, ρ, ok, q⟩ => ?_⟩
  · unfold fPop at q ⊢
    split at q <;> first | exact q.elim | skip
    split at q <;> first | exact q.elim | exact hg.mono _ _ _ _ l.nx q
  · unfold fPop at q
    split at q <;> first | exact q.elim | skip
    split at q <;> first | exact q.elim | skip
    rename_i ds e1 _ d e2
    obtain ⟨p, vs, k1, k2, k3⟩ := ok.own e1
    rw [List.getLast?_eq_getElem?] at e2
    obtain ⟨y, h3, h4⟩ := rpa_get k3 e2
    refine ⟨_, k1, .inl ⟨rfl, vs, SqL.of k2⟩, p, vs, y, rfl, rfl, k2, by rw [rpa_len k3]; exact h3, ?_⟩
    exact ⟨B, _, d, ok.chg e1 k1 (rpa_dropLast k3), h4, hg.mono _ _ _ _ (fun ρ' h' σ' ok' _ => h' σ' B _ ok' (Evl.Ex.refl B)) q⟩
theorem s_setIx (i : Nat) {x : Str} {e idx : Expr} {fa fk : SE} {p1 p2 pos : Pos} (he : PV X c e fa) (hk : PB X c idx fk) (hN : X.N[i]? = some x := by rfl) (hv : Vis X.env.scope x := by first | exact Or.inl rfl | exact Or.inr (Or.inl rfl) | exact Or.inr (Or.inr rfl))
    (hd : (x == ("__debug__" : Str)) = false := by decide) (hcd : (x == ("__classdict__" : Str)) = false := by decide)
    (ha : ∀ v, assign (.Subscript (.Name x p1) idx p2) X.env v = (do
      let ov ← holding [v] (eval (.Name x p1) X.env)
      let iv ← holding [v, ov] (eval idx X.env)
      standAt p2
      holding [v, ov, iv] (setItem ov iv v)
      release [v, ov, iv] []) := by intro _; rfl)
    (hs : swapsWithSole [.Subscript (.Name x p1) idx p2] e pos.line X.env = pure false := by rfl) (hw : swappedStores [.Subscript (.Name x p1) idx p2] e X.env = pure none := by rfl)
    (h1 : (assignEach [.Subscript (.Name x p1) idx p2] X.env).map (·.2) = [assign (.Subscript (.Name x p1) idx p2) X.env] := by rfl) :
    PSd X c (.Assign [.Subscript (.Name x p1) idx p2] e pos) (fSetIx i fa fk) := by
  refine ⟨fun D D' ρ l q => ?_, ps_weak (ps_asg he.pe (pg_sub (pe_var hN hv hd hcd) hk.pe set_list ha) hs hw h1) fun D σ H ⟨B, ρ, ok, q⟩ => ?_⟩
  · unfold fSetIx at q ⊢
    split at q <;> first | exact q.elim | skip
    refine he.mono _ _ _ (fun d hd => hk.mono _ _ _ (fun k hk' => ?_) hd) q
    cases k <;> first | exact hk'.elim | skip
    dsimp only at hk' ⊢
    split at hk' <;> first | exact hk'.elim | exact l.nx _ hk'
  · unfold fSetIx at q
    split at q <;> first | exact q.elim | skip
    rename_i ds e1
    refine ⟨B, ρ, ok, he.mono _ _ _ (fun d hd v B1 H1 g1 r1 => ?_) q⟩
    obtain ⟨p, vs, k1, k2, k3⟩ := (ok.mono g1).own e1
    refine ⟨_, k1, B1, ρ, ok.mono g1, hk.mono _ _ _ (fun k hk' u B2 H2 g2 r2 => ?_) hd⟩
    cases k <;> first | exact hk'.elim | skip
    rename_i k
    dsimp only at hk'
    split at hk' <;> first | exact hk'.elim | skip
    rename_i j e3
    have ok2 := (ok.mono g1).mono g2
    obtain ⟨p', vs1, m1, m2, m3⟩ := ok2.own e1
    rw [k1] at m1
    cases m1
    exact ⟨p, vs1, k, j, rfl, r2.int, m2, by rw [rpa_len m3]; exact e3, hk' σ B2 _ (ok2.chg e1 k1 (rpa_set (rp_mono g2.b r1) j m3)) (g1.b.trans g2.b)⟩
end
/-! ### what is walked -/
abbrev SI := Env → (List D → Prop) → Prop
/-- J yields ds, whatever more may come to stand -/
def ItOk (c : C) (J : It) (B : Hp) (ds : List D) : Prop := ∀ (i : Nat) (B1 H1 : Hp), Ex B B1 → Wd c B1 H1 →
  (ds.length ≤ i → J.stop i H1) ∧ ∀ d, ds[i]? = some d → J.go i H1 ∧ ∀ x H2, J.yld i H1 x H2 → ∃ B2, Gr c B1 H1 B2 H2 ∧ Rp B2 x d
def toI (c : C) (f : SI) : TI := fun σ H R => ∃ B ρ, EOk c B H σ ρ ∧ f ρ fun ds => ∀ J B' H', Gr c B H B' H' → ItOk c J B' ds → R J H'
structure PItd (X : Cx) (c : C) (tg iter : Expr) (f : SI) : Prop where
  mono : MonoL f
  pi : PI X tg iter (toI c f)
theorem pi_weak {X : Cx} {tg iter : Expr} {t t' : TI} (h : PI X tg iter t) (w : ∀ σ H R, t' σ H R → t σ H R) : PI X tg iter t' := ⟨fun pins s σ H R I q => h.run pins s σ H R I (w σ H R q)⟩
section
variable {X : Cx} {c : C} {tg : Expr}
theorem itok_list {B : Hp} {a : Addr} {xs : List V} {ds : List D} (h : B a = some (.lst xs)) (r : RpA B xs ds) : ItOk c (Itl X.K a) B ds := fun i B1 H1 e w => by
  have h1 : H1 a = some (.lst xs) := w.sub _ _ (e _ _ h)
  refine ⟨fun hi => ⟨xs, SqL.of h1, by rw [rpa_len r]; exact hi⟩, fun d hd => ?_⟩
  obtain ⟨v, h2, h3⟩ := rpa_get r hd
  refine ⟨⟨xs, v, SqL.of h1, h2⟩, fun x H2 ⟨e1, y⟩ => ?_⟩
  subst e1
  have := y xs (SqL.of h1)
  rw [h2] at this
  cases this
  exact ⟨B1, Gr.refl w, rp_mono e h3⟩
theorem itok_tup {B : Hp} {a : Addr} {xs : List V} {ds : List D} (h : B a = some (.tup xs)) (r : RpA B xs ds) : ItOk c (Itt X.K a) B ds := fun i B1 H1 e w => by
  have h1 : H1 a = some (.tup xs) := w.sub _ _ (e _ _ h)
  refine ⟨fun hi => ⟨xs, SqT.of h1, by rw [rpa_len r]; exact hi⟩, fun d hd => ?_⟩
  obtain ⟨v, h2, h3⟩ := rpa_get r hd
  refine ⟨⟨xs, v, SqT.of h1, h2⟩, fun x H2 ⟨e1, y⟩ => ?_⟩
  subst e1
  have := y xs (SqT.of h1)
  rw [h2] at this
  cases this
  exact ⟨B1, Gr.refl w, rp_mono e h3⟩
/-- a list or a tuple -/
def iSeqD (K : PySem.W.Frag) (tl : TE) : TI := fun σ H R => tl σ H fun x H1 => ∃ a xs, x = .ref a ∧ ((SqL K H1 a xs ∧ R (Itl K a) H1) ∨ (SqT K H1 a xs ∧ R (Itt K a) H1))
theorem pi_seqD {l : Expr} {tl : TE} (hl : PE X l tl) : PI X tg l (iSeqD X.K tl) := by
  refine ⟨fun pins s σ H R I h => thn (hl.run pins s σ H _ I h) fun v s1 hv => ?_⟩
  obtain ⟨x, H1, I1, r1, a, xs, ex, hq⟩ := hv
  subst ex
  cases r1
  have fr : FpOk X pins H1 s1.heap.objs.size := I1.fpOk (Nat.le_refl _) (I1.hok.fresh (Nat.le_refl _))
  have all : ∀ b ∈ [s1.heap.objs.size], FpOk X pins H1 b := fun b hb => by
    rw [List.mem_singleton] at hb
    rw [hb]; exact fr
  rcases hq with ⟨hq, q⟩ | ⟨hq, q⟩
  · obtain ⟨its, _, p, _⟩ := I1.list hq
    exact wpAny_pyIter_list p.isList ⟨_, _, _, _, H1, rfl, I1.kept (t' := s1.toks) fun _ _ e => Heap.get?_push_of_some _ e, turn_list a _, ⟨_, Heap.get?_push_size _ rfl, rfl, rfl⟩, all, q⟩
  · obtain ⟨its, _, p, _⟩ := I1.tuple hq
    exact wpAny_pyIter_tuple (show s1.heap.IsTuple a its.toArray from p) ⟨_, _, _, _, H1, rfl, I1.kept (t' := s1.toks) fun _ _ e => Heap.get?_push_of_some _ e, turn_tuple a _, ⟨_, Heap.get?_push_size _ rfl, rfl, rfl⟩, all, q⟩
theorem i_seq {e : Expr} {fa : SE} (ha : PV X c e fa) : PItd X c tg e (fSeq fa) := by
  refine ⟨mono_Seq ha.mono, pi_weak (pi_seqD ha.pe) fun σ H R ⟨B, ρ, ok, h⟩ => ⟨B, ρ, ok, ha.mono _ _ _ (fun d hd v B' H' g r => ?_) h⟩⟩
  cases d <;> simp only [seqOf] at hd <;> first | exact hd.elim | skip
  · obtain ⟨a, xs, rfl, h1, h2⟩ := rp_lst r
    exact ⟨a, xs, rfl, .inl ⟨SqL.of (g.w.sub _ _ h1), hd _ B' H' g (itok_list h1 h2)⟩⟩
  · obtain ⟨a, xs, rfl, h1, h2⟩ := rp_tup r
    exact ⟨a, xs, rfl, .inr ⟨SqT.of (g.w.sub _ _ h1), hd _ B' H' g (itok_tup h1 h2)⟩⟩
/-- lo, lo + 1, .. -/
def rng (lo : Int) (n : Nat) : List D := (List.range n).map fun i => .int (lo + (i : Nat))
theorem rng_len (lo : Int) (n : Nat) : (rng lo n).length = n := by unfold rng; rw [List.length_map, List.length_range]
theorem rng_get {lo : Int} {n i : Nat} {d : D} (h : (rng lo n)[i]? = some d) : i < n ∧ d = .int (lo + (i : Nat)) := by
  have hi : i < n := by
    have := (List.getElem?_eq_some_iff.mp h).1
    rw [rng_len] at this; exact this
  refine ⟨hi, ?_⟩
  unfold rng at h
  rw [List.getElem?_map, List.getElem?_range hi] at h
  cases h; rfl
theorem itok_rng {B : Hp} {lo : Int} {n : Nat} : ItOk c (Itr lo n) B (rng lo n) := fun i B1 H1 e w => by
  refine ⟨fun hi => by rw [rng_len] at hi; exact hi, fun d hd => ?_⟩
  obtain ⟨h1, h2⟩ := rng_get hd
  refine ⟨h1, fun x H2 ⟨e1, y⟩ => ?_⟩
  subst e1 y h2
  exact ⟨B1, Gr.refl w, .int _⟩
def fRng1 (fa : SE) : SI := fun ρ Q => fa ρ fun d => match d with | .int j => -(2 ^ 62) ≤ j ∧ j < 2 ^ 62 ∧ Q (rng 0 j.toNat) | _ => False
def fRng2 (fa fb : SE) : SI := fun ρ Q => fa ρ fun d => fb ρ fun e => match d, e with | .int i, .int j => (-(2 ^ 62) ≤ i ∧ i < 2 ^ 62 ∧ -(2 ^ 62) ≤ j ∧ j < 2 ^ 62) ∧ Q (rng i (j - i).toNat) | _, _ => False
theorem i_rng1 {a : Expr} {fa : SE} {p pos : Pos} (hm : X.mg "range" = none) (ha : PB X c a fa) (hg : Gl X "range" := by rfl) (hs : starEach [a] X.env = [(false, eval a X.env)] := by rfl) : PItd X c tg (.Call (.Name "range" p) [a] [] pos) (fRng1 fa) := by
  refine ⟨fun ρ Q Q' k h => ha.mono _ _ _ (fun d hd => ?_) h, pi_weak (pi_range1 hg hm (pa_cons ha.pe pa_nil (by rw [hs]; rfl)) hs) fun σ H R ⟨B, ρ, ok, h⟩ => ⟨B, ρ, ok, ha.mono _ _ _ (fun d hd v B' H' g r => ?_) h⟩⟩
  · cases d <;> first | exact hd.elim | exact ⟨hd.1, hd.2.1, k _ hd.2.2⟩
  · cases d <;> first | exact hd.elim | skip
    rw [r.int]
    exact ⟨_, rfl, hd.1, hd.2.1, hd.2.2 _ B' H' g itok_rng⟩
theorem i_rng2 {a b : Expr} {fa fb : SE} {p pos : Pos} (hm : X.mg "range" = none) (ha : PB X c a fa) (hb : PB X c b fb) (hg : Gl X "range" := by rfl) (hs : starEach [a, b] X.env = [(false, eval a X.env), (false, eval b X.env)] := by rfl) (hs2 : starEach [b] X.env = [(false, eval b X.env)] := by rfl) :
    PItd X c tg (.Call (.Name "range" p) [a, b] [] pos) (fRng2 fa fb) := by
  refine ⟨fun ρ Q Q' k h => ha.mono _ _ _ (fun d hd => hb.mono _ _ _ (fun e he => ?_) hd) h, pi_weak (pi_range2 hg hm (pa_cons ha.pe (pa_cons hb.pe pa_nil (by rw [hs2]; rfl)) (by rw [hs, hs2])) hs hs2) fun σ H R ⟨B, ρ, ok, h⟩ =>
    ⟨B, ρ, ok, ha.mono _ _ _ (fun d hd v B' H' g r => ⟨B', ρ, ok.mono g, hb.mono _ _ _ (fun e he u B2 H2 g2 r2 => ?_) hd⟩) h⟩⟩
  · cases d <;> cases e <;> first | exact he.elim | exact ⟨he.1, k _ he.2⟩
  · cases d <;> cases e <;> first | exact he.elim | skip
    rw [r.int, r2.int]
    exact ⟨_, _, rfl, he.1, he.2 _ B2 H2 (g.trans ok.w g2) itok_rng⟩
/-! ### for, while -/
/-- what a turn is to reach: k, the next turn -/
def loopE (k : Env → Prop) (D : En) : En := { nx := k, rt := D.rt, bk := D.nx, ct := k, ro := D.ro }
theorem loopE_le {k k' : Env → Prop} {D D' : En} (h : ∀ ρ, k ρ → k' ρ) (l : En.le D D') : En.le (loopE k D) (loopE k' D') := ⟨h, l.rt, l.nx, h, l.ro⟩
def fFor (g : GT) (body : SS) : List D → SS
  | [] => fun D ρ => D.nx ρ
  | d :: ds => fun D ρ => g d ρ fun ρ' => body (loopE (fFor g body ds D) D) ρ'
theorem mono_For {g : GT} {body : SS} (hg : ∀ d ρ (Q Q' : Env → Prop), (∀ ρ, Q ρ → Q' ρ) → g d ρ Q → g d ρ Q') (hb : MonoS body) : ∀ ds, MonoS (fFor g body ds)
  | [] => fun _ _ _ l h => l.nx _ h
  | _ :: ds => fun D D' ρ l h => hg _ _ _ _ (fun ρ' h' => hb _ _ _ (loopE_le (fun ρ q => mono_For hg hb ds _ _ _ l q) l) h') h
theorem s_for {iter : Expr} {body : List Stmt} {fi : SI} {g : GT} {ks : List Nat} {f : SS} {pos : Pos} (hp : PassesOwn (model X.prog X.w) X.A X.env X.xe) (hc : X.calm = true) (hi : PItd X c tg iter fi) (hg : PGd X c tg g ks) (hb : PSsd X c body f)
    (hs : ∀ x, foldedSetIterable iter X.env x = pure x := by intro _; rfl) : PSd X c (.For tg iter body [] pos) (fun D ρ => fi ρ fun ds => fFor g f ds D ρ) := by
  refine ⟨fun D D' ρ l h => hi.mono _ _ _ (fun ds q => mono_For hg.mono hb.mono ds _ _ _ l q) h, ps_weak (ps_for hp hc hi.pi hg.pg hb.ps hs) fun D σ H ⟨B, ρ, ok, h⟩ => ?_⟩
  refine ⟨B, ρ, ok, hi.mono _ _ _ (fun ds hd J B' H' g' it => ?_) h⟩
  refine ⟨fun i m σ1 H1 => m = ds.length - i ∧ i ≤ ds.length ∧ ∃ B1 ρ1, EOk c B1 H1 σ1 ρ1 ∧ Ex B' B1 ∧ fFor g f (ds.drop i) (liftE c B1 D) ρ1, ⟨ds.length, by simp, Nat.zero_le _, B', ρ, ok.mono g', Evl.Ex.refl _, ?_⟩, ?_⟩
  · rw [List.drop_zero]
    exact mono_For hg.mono hb.mono ds _ _ _ (liftE_le g'.b D) hd
  · rintro i m σ1 H1 ⟨rfl, hi', B1, ρ1, ok1, e1, q⟩
    obtain ⟨i1, i2⟩ := it i B1 H1 e1 ok1.w
    by_cases hlt : i < ds.length
    · refine .inr ?_
      obtain ⟨d, hd⟩ : ∃ d, ds[i]? = some d := ⟨ds[i], by simp [hlt]⟩
      obtain ⟨go, yl⟩ := i2 d hd
      refine ⟨go, fun σ' H' => ∃ B2 ρ2, EOk c B2 H' σ' ρ2 ∧ Ex B' B2 ∧ fFor g f (ds.drop (i + 1)) (liftE c B2 D) ρ2, fun σ' H' ⟨B2, ρ2, k1, k2, k3⟩ => ⟨ds.length - (i + 1), by omega, rfl, hlt, B2, ρ2, k1, k2, k3⟩, fun x H2 hy => ?_⟩
      obtain ⟨B2, g2, r2⟩ := yl x H2 hy
      have ed : ds.drop i = d :: ds.drop (i + 1) := by
        rw [List.drop_eq_getElem_cons hlt]
        congr 1
        have := List.getElem?_eq_getElem hlt
        rw [this] at hd
        exact Option.some.inj hd
      rw [ed] at q
      refine ⟨B2, ρ1, d, ok1.mono g2, r2, hg.mono _ _ _ _ (fun ρ' h' σ' ok' _ => ?_) q⟩
      refine ⟨B2, ρ', ok', hb.mono (loopE (fFor g f (ds.drop (i + 1)) (liftE c B1 D)) (liftE c B1 D)) _ _ ⟨fun ρ3 h3 σ3 B3 H3 ok3 e3 => ?_, fun _ h3 => h3, fun ρ3 h3 σ3 B3 H3 ok3 e3 => ?_, fun ρ3 h3 σ3 B3 H3 ok3 e3 => ?_, fun _ h3 => h3⟩ h'⟩
      · exact ⟨B3, ρ3, ok3, (e1.trans g2.b).trans e3, mono_For hg.mono hb.mono _ _ _ _ (liftE_le (g2.b.trans e3) D) h3⟩
      · exact h3 σ3 B3 H3 ok3 (g2.b.trans e3)
      · exact ⟨B3, ρ3, ok3, (e1.trans g2.b).trans e3, mono_For hg.mono hb.mono _ _ _ _ (liftE_le (g2.b.trans e3) D) h3⟩
    · refine .inl ⟨i1 (by omega), ?_⟩
      rw [List.drop_eq_nil_of_le (by omega)] at q
      exact q σ1 B1 H1 ok1 (Evl.Ex.refl _)
def fWhN (t : ST) (body : SS) : Nat → SS
  | 0 => fun _ _ => False
  | n + 1 => fun D ρ => t ρ fun b => if b = true then body (loopE (fWhN t body n D) D) ρ else D.nx ρ
theorem mono_WhN {t : ST} {body : SS} (ht : MonoT t) (hb : MonoS body) : ∀ n, MonoS (fWhN t body n)
  | 0 => fun _ _ _ _ h => h
  | n + 1 => fun D D' ρ l h => ht _ _ _ (fun b hb' => by
    cases b with
    | true => exact hb _ _ _ (loopE_le (fun ρ q => mono_WhN ht hb n _ _ _ l q) l) hb'
    | false => exact l.nx _ hb') h
def fWhile (t : ST) (body : SS) : SS := fun D ρ => ∃ n, fWhN t body n D ρ
theorem s_while {cc : Expr} {body : List Stmt} {t : ST} {f : SS} {pos : Pos} (hp : PassesOwn (model X.prog X.w) X.A X.env X.xe) (ht : PTd X c cc t) (hb : PSsd X c body f) : PSd X c (.While cc body [] pos) (fWhile t f) := by
  refine ⟨fun D D' ρ l ⟨n, h⟩ => ⟨n, mono_WhN ht.mono hb.mono n _ _ _ l h⟩, ps_weak (ps_while hp ht.pt hb.ps) fun D σ H ⟨B, ρ, ok, n, h⟩ => ?_⟩
  refine ⟨fun m σ1 H1 => ∃ B1 ρ1, EOk c B1 H1 σ1 ρ1 ∧ fWhN t f m (liftE c B1 D) ρ1, ⟨n, B, ρ, ok, h⟩, ?_⟩
  rintro m σ1 H1 ⟨B1, ρ1, ok1, q⟩
  cases m with
  | zero => exact q.elim
  | succ m =>
    refine ⟨B1, ρ1, ok1, ht.mono _ _ _ (fun b hb' B2 H2 g2 => ?_) q⟩
    cases b with
    | false => exact hb' σ1 B2 H2 (ok1.mono g2) g2.b
    | true =>
      rw [if_pos rfl] at hb' ⊢
      refine ⟨fun σ' H' => ∃ B3 ρ3, EOk c B3 H' σ' ρ3 ∧ fWhN t f m (liftE c B3 D) ρ3, fun σ' H' k => ⟨m, Nat.lt_succ_self _, k⟩, ?_⟩
      refine ⟨B2, ρ1, ok1.mono g2, hb.mono (loopE (fWhN t f m (liftE c B1 D)) (liftE c B1 D)) _ _ ⟨fun ρ3 h3 σ3 B3 H3 ok3 e3 => ?_, fun _ h3 => h3, fun ρ3 h3 σ3 B3 H3 ok3 e3 => ?_, fun ρ3 h3 σ3 B3 H3 ok3 e3 => ?_, fun _ h3 => h3⟩ hb'⟩
      · exact ⟨B3, ρ3, ok3, mono_WhN ht.mono hb.mono _ _ _ _ (liftE_le (g2.b.trans e3) D) h3⟩
      · exact h3 σ3 B3 H3 ok3 (g2.b.trans e3)
      · exact ⟨B3, ρ3, ok3, mono_WhN ht.mono hb.mono _ _ _ _ (liftE_le (g2.b.trans e3) D) h3⟩
end
/-! ### list comprehensions -/
def wipeE (ρ : Env) : List Nat → Env
  | [] => ρ
  | v :: vs => (wipeE ρ vs).set v .un
theorem EOk.wiped {c : C} {B H : Hp} {σ : St} {ρ : Env} (ok : EOk c B H σ ρ) : ∀ vs : List Nat, EOk c B H (wipe σ vs) (wipeE ρ vs)
  | [] => ok
  | v :: vs => by
    have h := EOk.wiped ok vs
    show EOk c B H ((wipe σ vs).set v none) ((wipeE ρ vs).set v .un)
    have len := h.len
    refine ⟨h.w0, h.w, h.g, by rw [List.length_set, List.length_set]; exact len, fun j s hj => ?_, fun j k p ds es hjk h1 h2 h3 h4 => ?_⟩
    · by_cases e : v = j
      · subst e
        have hl : v < (wipeE ρ vs).length := by
          have := (List.getElem?_eq_some_iff.mp hj).1
          rw [List.length_set] at this; exact this
        rw [List.getElem?_set_self hl] at hj
        cases hj
        trivial
      · rw [List.getElem?_set_ne e] at hj
        exact (h.sl j s hj).congr (List.getElem?_set_ne e)
    · have old : ∀ {y : Nat} {fs : List D}, ((wipeE ρ vs).set v Sl.un)[y]? = some (Sl.ow fs) → v ≠ y ∧ (wipeE ρ vs)[y]? = some (Sl.ow fs) := fun {y fs} hx => by
        by_cases e : v = y
        · subst e
          have hl : v < (wipeE ρ vs).length := by
            have := (List.getElem?_eq_some_iff.mp hx).1
            rw [List.length_set] at this; exact this
          rw [List.getElem?_set_self hl] at hx; cases hx
        · rw [List.getElem?_set_ne e] at hx; exact ⟨e, hx⟩
      obtain ⟨n1, o1⟩ := old h1
      obtain ⟨n2, o2⟩ := old h2
      rw [List.getElem?_set_ne n1] at h3
      rw [List.getElem?_set_ne n2] at h4
      exact h.ap j k p ds es hjk o1 o2 h3 h4
theorem wipe_get {σ : St} : ∀ {vs : List Nat} {j : Nat}, (wipe σ vs)[j]? = if j ∈ vs then (if j < σ.length then some none else none) else σ[j]?
  | [], j => by simp [wipe]
  | v :: vs, j => by
    show ((wipe σ vs).set v none)[j]? = _
    by_cases e : v = j
    · subst e
      by_cases h : v < σ.length
      · rw [List.getElem?_set_self (by rw [wipe_length]; exact h)]
        simp [h]
      · rw [List.getElem?_eq_none (by rw [List.length_set, wipe_length]; omega)]
        simp [h]
    · rw [List.getElem?_set_ne e, wipe_get]
      by_cases h : j ∈ vs
      · simp [h]
      · have : j ∉ v :: vs := by simp only [List.mem_cons, not_or]; exact ⟨fun z => e z.symm, h⟩
        rw [if_neg h, if_neg this]
theorem wipe_off {σ σ' : St} {ks vs : List Nat} (hk : ∀ k ∈ ks, k ∈ vs) (h : Off ks (wipe σ vs) σ') : wipe σ' vs = wipe σ vs := by
  apply List.ext_getElem?
  intro j
  have hl : σ'.length = σ.length := by rw [h.1, wipe_length]
  rw [wipe_get, wipe_get, hl]
  by_cases hj : j ∈ vs
  · rw [if_pos hj, if_pos hj]
  · rw [if_neg hj, if_neg hj, h.2 j (fun z => hj (hk j z)), wipe_get, if_neg hj]
structure PTsd (X : Cx) (c : C) (ifs : List Expr) (t : ST) : Prop where
  mono : MonoT t
  pts : PTs X ifs (toT c t)
def fYes : ST := fun _ Q => Q true
theorem ts_nil {X : Cx} {c : C} : PTsd X c [] fYes := ⟨fun _ _ _ k h => k _ h, ⟨fun pins s σ H Q I h => pts_nil.run pins s σ H Q I (by
  obtain ⟨B, ρ, ok, h⟩ := h
  exact h B H (Gr.refl ok.w))⟩⟩
theorem ts_one {X : Cx} {c : C} {e : Expr} {t : ST} (h : PTd X c e t) : PTsd X c [e] t := ⟨h.mono, pts_one h.pt⟩
def lcRun (g : GT) (t : ST) (e : SE) (ρ : Env) : List D → (List D → Prop) → Prop
  | [], Q => Q []
  | d :: ds, Q => g d ρ fun ρ1 => t ρ1 fun b => if b = true then e ρ1 fun y => lcRun g t e ρ ds fun ys => Q (y :: ys) else lcRun g t e ρ ds Q
theorem mono_lcRun {g : GT} {t : ST} {e : SE} {ρ : Env} (hg : ∀ d ρ (Q Q' : Env → Prop), (∀ ρ, Q ρ → Q' ρ) → g d ρ Q → g d ρ Q') (ht : MonoT t) (he : Mono e) : ∀ (ds : List D) (Q Q' : List D → Prop), (∀ ys, Q ys → Q' ys) → lcRun g t e ρ ds Q → lcRun g t e ρ ds Q'
  | [], _, _, k, h => k _ h
  | _ :: ds, Q, Q', k, h => hg _ _ _ _ (fun ρ1 h1 => ht _ _ _ (fun b hb => by
    cases b with
    | true => exact he _ _ _ (fun y hy => mono_lcRun hg ht he ds _ _ (fun ys h => k _ h) hy) hb
    | false => exact mono_lcRun hg ht he ds _ _ k hb) h1) h
def fLc (vs : List Nat) (fi : SI) (g : GT) (t : ST) (e : SE) : SL := fun ρ Q => fi ρ fun ds => ds.length ≤ most ∧ lcRun g t e (wipeE ρ vs) ds Q
theorem Gr.upN {c : C} {B H B' H' : Hp} (w : Wd c B H) (g : Gr c B H B' H') {p : Addr} {o : HO} (h0 : H p = none) (h1 : B' p = none) : Gr c B H B' (upd H' p o) := by
  have nb : ¬ c.isBag p := fun z => w.there z h0
  refine ⟨g.b, fun a u na e => ?_, g.n, fun a u e => ?_, g.w.bag.keep fun a ha => ⟨rfl, upd_ne fun z => nb (z ▸ ha)⟩⟩
  · rw [upd_ne (ne_of_none e h0)]; exact g.h a u na e
  · rw [upd_ne (ne_of_none e h1)]; exact g.w.sub a u e
section
variable {X : Cx} {c : C}
theorem lc_go {vs ks : List Nat} {fi : SI} {g : GT} {t : ST} {e : SE} (hk : ∀ k ∈ ks, k ∈ vs) (hi : MonoL fi) (hg : ∀ d ρ (Q Q' : Env → Prop), (∀ ρ, Q ρ → Q' ρ) → g d ρ Q → g d ρ Q') (ht : MonoT t) (he : Mono e)
    (σ : St) (H : Hp) (Q : VK) (h : toN c (fLc vs fi g t e) σ H Q) : tLc (toI c fi) (toG c g ks) (toT c t) (toV c e) vs σ H Q := by
  obtain ⟨B, ρ, ok, h⟩ := h
  refine ⟨B, ρ, ok, hi _ _ _ (fun ds hd J B1 H1 g1 it Dl hD => ?_) h⟩
  obtain ⟨hm, hd⟩ := hd
  have ok1 := ok.mono g1
  refine ⟨fun i m H2 => m = ds.length - i ∧ i ≤ ds.length ∧ ∃ B2 acc ad, Gr c B1 H1 B2 H2 ∧ B2 Dl = none ∧ H2 Dl = some (.lst acc) ∧ RpA B2 acc ad ∧ ad.length ≤ i ∧
    lcRun g t e (wipeE ρ vs) (ds.drop i) fun ys => ∀ p ws B' H', Gr c B H B' H' → H p = none → B' p = none → H' p = some (.lst ws) → RpA B' ws (ad ++ ys) → Q (.ref p) H', ⟨ds.length, by simp, Nat.zero_le _, B1, [], [], ?_, ?_, upd_same, .nil, Nat.le_refl _, ?_⟩, ?_⟩
  · exact Gr.newO g1.w hD
  · exact Evl.fresh_back g1.w.sub hD
  · rw [List.drop_zero]; exact hd
  · rintro i m H2 ⟨rfl, hi', B2, acc, ad, g2, k1, k2, k3, k4, q⟩
    obtain ⟨i1, i2⟩ := it i B2 H2 g2.b g2.w
    by_cases hlt : i < ds.length
    · refine .inr ?_
      obtain ⟨d, hd'⟩ : ∃ d, ds[i]? = some d := ⟨ds[i], by simp [hlt]⟩
      obtain ⟨go, yl⟩ := i2 d hd'
      refine ⟨go, fun H' => ∃ B2 acc ad, Gr c B1 H1 B2 H' ∧ B2 Dl = none ∧ H' Dl = some (.lst acc) ∧ RpA B2 acc ad ∧ ad.length ≤ i + 1 ∧
        lcRun g t e (wipeE ρ vs) (ds.drop (i + 1)) fun ys => ∀ p ws B' H', Gr c B H B' H' → H p = none → B' p = none → H' p = some (.lst ws) → RpA B' ws (ad ++ ys) → Q (.ref p) H', fun H' hn => ⟨ds.length - (i + 1), by omega, rfl, hlt, hn⟩, fun x H3 hy => ?_⟩
      obtain ⟨B3, g3, r3⟩ := yl x H3 hy
      have ed : ds.drop i = d :: ds.drop (i + 1) := by
        rw [List.drop_eq_getElem_cons hlt]
        congr 1
        have := List.getElem?_eq_getElem hlt
        rw [this] at hd'
        exact Option.some.inj hd'
      rw [ed] at q
      have stay : ∀ {B4 H4 : Hp}, Gr c B2 H2 B4 H4 → B4 Dl = none ∧ H4 Dl = some (.lst acc) := fun {B4 H4} g4 => by
        have hne : H2 Dl ≠ none := by rw [k2]; exact fun z => nomatch z
        refine ⟨by rw [g4.n Dl hne]; exact k1, g4.h Dl _ (fun z => g1.w.there z hD) k2⟩
      have okw := ((ok1.mono g2).mono g3).wiped vs
      refine ⟨B3, wipeE ρ vs, d, okw, r3, hg _ _ _ _ (fun ρ1 h1 σ1 okg off => ?_) q⟩
      refine ⟨wipe_off hk off, B3, ρ1, okg, ht _ _ _ (fun b hb B4 H4 g4 => ?_) h1⟩
      have g34 := g3.trans g2.w g4
      cases b with
      | true =>
        refine ⟨B4, ρ1, okg.mono g4, he _ _ _ (fun y hy v B5 H5 g5 r5 => ?_) hb⟩
        have g35 := g34.trans g2.w g5
        obtain ⟨s1, s2⟩ := stay g35
        refine ⟨acc, s2, ?_, B5, acc ++ [v], ad ++ [y], Gr.upN g1.w (g2.trans g1.w g35) hD s1, s1, upd_same, rpa_app (rpa_mono g35.b k3) (.cons r5 .nil), ?_, ?_⟩
        · rw [rpa_len k3]; exact most_lt (by omega)
        · rw [List.length_append, List.length_singleton]; omega
        · refine mono_lcRun hg ht he _ _ _ (fun ys hq p ws B' H' a1 a2 a3 a4 a5 => hq p ws B' H' a1 a2 a3 a4 ?_) hy
          rw [List.append_assoc] at a5
          exact a5
      | false =>
        obtain ⟨s1, s2⟩ := stay g34
        exact ⟨B4, acc, ad, g2.trans g1.w g34, s1, s2, rpa_mono g34.b k3, by omega, hb⟩
    · refine .inl ⟨i1 (by omega), ?_⟩
      rw [List.drop_eq_nil_of_le (by omega)] at q
      have hH : H Dl = none := g1.back hD
      refine q Dl acc B2 H2 (g1.trans ok.w g2) hH k1 k2 ?_
      rw [List.append_nil]; exact k3
theorem mono_Lc {vs : List Nat} {fi : SI} {g : GT} {t : ST} {e : SE} (hi : MonoL fi) (hg : ∀ d ρ (Q Q' : Env → Prop), (∀ ρ, Q ρ → Q' ρ) → g d ρ Q → g d ρ Q') (ht : MonoT t) (he : Mono e) : MonoL (fLc vs fi g t e) := fun ρ Q Q' k h => hi _ _ _ (fun ds q => ⟨q.1, mono_lcRun hg ht he _ _ _ k q.2⟩) h
/-- the block's derivations: for each entry -/
abbrev Blk (X : Cx) (scope : Scope) (P : Cx → Prop) : Prop := ∀ (s : Shared) (H : Hp) (Ca : Addr) (cl : List (Str × Addr)) (fp : List Addr), P (X.blk s H scope (compEnvC scope cl Ca X.env) fp)
theorem n_lc {elt tg iter : Expr} {ifs : List Expr} {scope : Scope} {own : List (Str × Nat)} {pos : Pos} {fi : SI} {g : GT} {ks : List Nat} {t : ST} {fe : SE} (hc : X.calm = true) (hN : X.N.Nodup) (ok : blkC X.N X.env.scope scope own = true) (hi : PItd X c tg iter fi)
    (hg : Blk X scope fun Y => PGd Y c tg g ks) (ht : Blk X scope fun Y => PTsd Y c ifs t) (he : Blk X scope fun Y => PV Y c elt fe) (hk : ∀ k ∈ ks, k ∈ own.map (·.2) := by decide) (hs : ∀ x, foldedSetIterable iter X.env x = pure x := by intro _; rfl) :
    PN X c (.ListComp elt [⟨tg, iter, ifs, 0⟩] scope pos) (fLc (own.map (·.2)) fi g t fe) := by
  have m1 := (hg ({} : Shared) (fun _ => none) 0 [] []).mono
  have m2 := (ht ({} : Shared) (fun _ => none) 0 [] []).mono
  have m3 := (he ({} : Shared) (fun _ => none) 0 [] []).mono
  exact ⟨mono_Lc hi.mono m1 m2 m3, pe_weak (pe_lc hc hN hi.pi (blkOk_by ok) (fun s H C cl fp => (hg s H C cl fp).pg) (fun s H C cl fp => (ht s H C cl fp).pts) (fun s H C cl fp => (he s H C cl fp).pe) hs) (lc_go hk hi.mono m1 m2 m3)⟩
/-- name = [..] on one line, the name a local -/
theorem s_lc (i : Nat) {y : Str} {py : Pos} {elt tg iter : Expr} {ifs : List Expr} {scope : Scope} {own : List (Str × Nat)} {pos spos : Pos} {fi : SI} {g : GT} {ks : List Nat} {t : ST} {fe : SE} (hc : X.calm = true) (hN : X.N.Nodup) (ok : blkC X.N X.env.scope scope own = true) (hi : PItd X c tg iter fi)
    (hg : Blk X scope fun Y => PGd Y c tg g ks) (ht : Blk X scope fun Y => PTsd Y c ifs t) (he : Blk X scope fun Y => PV Y c elt fe) (hk : ∀ k ∈ ks, k ∈ own.map (·.2) := by decide) (hy : X.N[i]? = some y := by rfl) (hyl : X.env.scope.names.lookup y = some .local := by rfl)
    (hsw : swapsWith (.ListComp elt [⟨tg, iter, ifs, 0⟩] scope pos) (some (.Name y py)) spos.line X.env = pure true := by exact sw_true rfl rfl rfl (by decide +kernel)) (hs : ∀ x, foldedSetIterable iter X.env x = pure x := by intro _; rfl) :
    PSd X c (.Assign [.Name y py] (.ListComp elt [⟨tg, iter, ifs, 0⟩] scope pos) spos) (fSetN i (fLc (own.map (·.2)) fi g t fe)) := by
  have m1 := (hg ({} : Shared) (fun _ => none) 0 [] []).mono
  have m2 := (ht ({} : Shared) (fun _ => none) 0 [] []).mono
  have m3 := (he ({} : Shared) (fun _ => none) 0 [] []).mono
  have m := mono_Lc (vs := own.map (·.2)) hi.mono m1 m2 m3
  refine ⟨mono_SetN m, ps_weak (ps_setLc hc hN hy hyl hsw hi.pi (blkOk_by ok) (fun s H C cl fp => (hg s H C cl fp).pg) (fun s H C cl fp => (ht s H C cl fp).pts) (fun s H C cl fp => (he s H C cl fp).pe) hs) fun D σ H q => ?_⟩
  exact lc_go hk hi.mono m1 m2 m3 σ H _ (setN_go m D σ H q)
end
end DL
namespace DL
open PySem L2 PyProof.Rows
/-! ### defs, with what guards stand around told -/
abbrev Spec := List Sl → (D → Prop) → Prop
def toSp (G : C → Prop) (S : Spec) : Sp := fun vs H Q _ => ∃ c : C, G c ∧ c.H0 = H ∧ Wd c c.B0 H ∧ ∃ ss, ArgsOk c c.B0 H vs ss ∧ S ss fun d => ∀ v B' H', Gr c c.B0 H B' H' → Rp B' v d → Q v H'
theorem ArgsOk.len {c : C} {B H : Hp} : ∀ {vs : List V} {ss : List Sl}, ArgsOk c B H vs ss → vs.length = ss.length
  | [], [], _ => rfl
  | _ :: _, _ :: _, h => by rw [List.length_cons, List.length_cons, ArgsOk.len h.2]
  | [], _ :: _, h => h.elim
  | _ :: _, [], h => h.elim
theorem ArgsOk.get {c : C} {B H : Hp} : ∀ {vs : List V} {ss : List Sl} {i : Nat} {s : Sl}, ArgsOk c B H vs ss → ss[i]? = some s → ∃ v, vs[i]? = some v ∧ ArgOk c B H v s
  | _ :: _, _ :: _, 0, _, h, e => by
    simp at e
    subst e
    exact ⟨_, rfl, h.1⟩
  | _ :: _, _ :: _, i + 1, s, h, e => by
    obtain ⟨v, h1, h2⟩ := ArgsOk.get (i := i) h.2 (by simpa using e)
    exact ⟨v, by simpa using h1, h2⟩
  | [], [], _, _, _, e => by simp at e
  | [], _ :: _, _, _, h, _ => h.elim
  | _ :: _, [], _, _, h, _ => h.elim
structure FnG (G : C → Prop) (P : Program) (w : World) (K : PySem.W.Frag) (mg : Str → Option Value) (base : Heap) (k : Nat) (f : Addr) (fd : FuncData) (ps : List Str) (S : Spec) : Prop where
  mono : ∀ ss (Q Q' : D → Prop), (∀ d, Q d → Q' d) → S ss Q → S ss Q'
  len : ∀ ss Q, S ss Q → ss.length = ps.length
  run : ∀ (A : Around) (outer : List PySem.Env) (s : Shared) (H : Hp) (args : Args) (us : List Value) (vs : List V) (Q : VK), A.guards = some [] → Room k A → Env0 P w K mg base A outer s H →
    BindsTo s fd args (ps.zip us) → Vals vs us → toSp G S vs H Q E0 → codeAny (model P w) A (.call (.ref f) args) (CR CX0 outer P w H s Q E0) s
theorem FnG.up {G : C → Prop} {P : Program} {w : World} {K : PySem.W.Frag} {mg : Str → Option Value} {base : Heap} {j k : Nat} {f : Addr} {fd : FuncData} {ps : List Str} {S : Spec} (F : FnG G P w K mg base j f fd ps S) (h : j ≤ k) : FnG G P w K mg base k f fd ps S :=
  ⟨F.mono, F.len, fun A outer s H args us vs Q hg hr => F.run A outer s H args us vs Q hg (hr.mono h)⟩
/-- the slots at the entry -/
def initE (N : List Str) (ss : List Sl) : Env := ss ++ List.replicate (N.length - ss.length) .un
theorem EOk.init {c : C} {N : List Str} {vs : List V} {ss : List Sl} (w : Wd c c.B0 c.H0) (h : ArgsOk c c.B0 c.H0 vs ss) : EOk c c.B0 c.H0 (L2.start N vs) (initE N ss) := by
  have hl := h.len
  have key : ∀ {i : Nat} {s : Sl}, (initE N ss)[i]? = some s → s ≠ .un → ∃ v, (L2.start N vs)[i]? = some (some v) ∧ ArgOk c c.B0 c.H0 v s := fun {i s} e n => by
    unfold initE at e
    unfold L2.start
    by_cases hi : i < ss.length
    · rw [List.getElem?_append_left hi] at e
      obtain ⟨v, h1, h2⟩ := h.get e
      refine ⟨v, ?_, h2⟩
      rw [List.getElem?_append_left (by rw [List.length_map]; omega), List.getElem?_map, h1]
      rfl
    · rw [List.getElem?_append_right (by omega), List.getElem?_replicate] at e
      split at e
      · cases e; exact absurd rfl n
      · cases e
  refine ⟨w, w, Gr.refl w, ?_, fun i s e => ?_, fun i j p ds es _ h1 _ _ _ => ?_⟩
  · unfold initE L2.start
    rw [List.length_append, List.length_append, List.length_replicate, List.length_replicate, List.length_map, hl]
  · cases s with
    | un => trivial
    | sh d => exact key e (fun z => nomatch z)
    | bg =>
      obtain ⟨v, h1, h2⟩ := key e (fun z => nomatch z)
      have h3 : v = .ref c.pb := h2
      rw [h3] at h1
      exact h1
    | ow ds =>
      obtain ⟨v, _, h2⟩ := key e (fun z => nomatch z)
      exact h2.elim
  · obtain ⟨v, _, h2⟩ := key h1 (fun z => nomatch z)
    exact h2.elim
/-- a def's end -/
def endsOf (Q : D → Prop) : En := ⟨fun _ => Q .none, Q, fun _ => False, fun _ => False, fun _ => False⟩
section
variable {G : C → Prop} {P : Program} {w : World} {K : PySem.W.Frag} {mg : Str → Option Value} {base : Heap}
/-- THE RULE for a def -/
theorem fng_of {x qual : Str} {st : Stmt} {f : Addr} {fd : FuncData} {N ps : List Str} {k : Nat} {S : Spec} (F : Fun K x qual st f fd) (sc : FnScope N ps (defScope st)) (mono : ∀ ss (Q Q' : D → Prop), (∀ d, Q d → Q' d) → S ss Q → S ss Q') (len : ∀ ss Q, S ss Q → ss.length = ps.length)
    (body : ∀ (cdv : Value) (A : Around) (outer : List PySem.Env) (s : Shared) (c : C), G c → A.guards = some [] → Room k (A.deeper (envOfC qual (defScope st) s.heap.objs.size f cdv)) →
      ∃ g, PSsd (cxOf CX0 P w K mg base N qual (defScope st) f cdv A outer s c.H0 E0).nox c (defBody st) g ∧ ∀ ss Q, S ss Q → g (endsOf Q) (initE N ss)) : FnG G P w K mg base (k + 1) f fd ps S := by
  obtain ⟨oc, od, kV, doc, pm, an, cdv, ct, osl, rfl, lk', hcd⟩ := F.ex
  refine ⟨mono, len, ?_⟩
  intro A outer s H args us vs Q hg hr e0 hb r hsp
  obtain ⟨c, hG, hH, wd, ss, ha, hS⟩ := hsp
  subst hH
  have hvl : vs.length = ps.length := by rw [ha.len]; exact len _ _ hS
  have stands : ∀ b o, base.get? b = some o → s.heap.get? b = some o := fun b o z => (e0.bs b o z).1
  have KX : K.In s.heap := e0.mod.kin.keeps stands
  refine codeAny_call_function hr.depth (KX _ _ lk') rfl sc.co sc.gen rfl (PySem.W.codeRec_of KX hcd) (hb _ _ _ _ (wpAny_newFunctionEnv_cells sc.kind ?_ ?_))
  · rintro ⟨n, v⟩ hy
    rcases sc.par n (List.of_mem_zip hy).1 with q | q
    · exact Or.inl q
    · exact Or.inr ⟨q, PySem.W.cellsFrom_some _ _ _ (Or.inl q)⟩
  · intro env he s1 x
    subst he
    refine ⟨(e0.mod.nolimit.keeps stands).keeps x.toInCall.keep, codeAny_func ?_⟩
    obtain ⟨g, hg1, hg2⟩ := body cdv A outer s c hG hg (hr.deeper _)
    have I := inv_start (CX := CX0) (E := E0) (qual := qual) sc hr.hd e0 hvl r x
    have ok := EOk.init (N := N) wd ha
    have goal := hg1.ps.nox.run [] s1 (L2.start N vs) c.H0 { nx := fun _ H' => Q .non H', rt := Q } I ⟨c.B0, initE N ss, ok, hg1.mono (endsOf fun d => ∀ v B' H', Gr c c.B0 c.H0 B' H' → Rp B' v d → Q v H') _ _ ⟨fun ρ h σ' B' H' ok' _ => h .non B' H' ok'.g .non, fun _ h => h, fun _ h => h.elim, fun _ h => h.elim, fun _ h => h.elim⟩ (hg2 ss _ hS)⟩
    refine wpAny_mono goal (fun fl s' hs => ?_) fun _ _ z => z
    cases fl with
    | ret u =>
      obtain ⟨v, σ', H', J, rv, q⟩ := hs
      exact ⟨v, H', J.os, J.bare, J.base, J.hok, rv, q⟩
    | next =>
      obtain ⟨σ', H', J, q⟩ := hs
      exact ⟨.non, H', J.os, J.bare, J.base, J.hok, rfl, q⟩
    | brk => exact hs.elim fun _ z => z.elim fun _ y => y.2.elim
    | cont => exact hs.elim fun _ z => z.elim fun _ y => y.2.elim
end
/-! ### calls of defs -/
def fCall (S : Spec) (fa : SA) : SE := fun ρ Q => fa ρ fun ss => S ss Q
section
variable {G : C → Prop} {X : Cx} {c : C} {k : Nat} {f : Addr} {fd : FuncData} {ps : List Str} {S : Spec}
theorem run_fng {pins : List (Addr × Obj)} {σ : St} {H : Hp} {s : Shared} {Q : VK} {args : Args} {us : List Value} {vs : List V} (F : FnG G X.prog X.w X.K X.mg X.base k f fd ps S) (hgd : X.A.guards = some []) (hr : Room k X.A) (I : Inv X pins σ H s)
    (hb : BindsTo s fd args (ps.zip us)) (r : Vals vs us) (h : toSp G S vs H Q E0) : codeAny (model X.prog X.w) X.A (.call (.ref f) args) (wants (EP X pins σ Q) X.xe) s := by
  refine codeAny_mono (F.run X.A X.stack s H args us vs Q hgd hr I.env0 hb r h) fun z s' hq => ?_
  cases z with
  | error e => exact False.elim hq
  | ok fl => cases fl <;> first | exact I.after hq | exact False.elim hq
theorem BagOk.again {c : C} {B0 H0 B H : Hp} (b : BagOk c B H) : BagOk { c with B0 := B0, H0 := H0 } B H := ⟨b.out, b.here, b.ok⟩
theorem toSp_of {B H B1 H1 : Hp} {Q : VK} {vs : List V} {ss : List Sl} (hG : ∀ B1 H1, G { c with B0 := B1, H0 := H1 }) (w0 : Wd c B H) (g : Gr c B H B1 H1) (F : FnG G X.prog X.w X.K X.mg X.base k f fd ps S) (r : ArgsOk c B1 H1 vs ss) (h : S ss fun d => ∀ v B' H', Gr c B H B' H' → Rp B' v d → Q v H') : toSp G S vs H1 Q E0 :=
  ⟨{ c with B0 := B1, H0 := H1 }, hG _ _, rfl, ⟨g.w.sub, g.w.bag.again⟩, ss, by
    have conv : ∀ {vs : List V} {ss : List Sl}, ArgsOk c B1 H1 vs ss → ArgsOk { c with B0 := B1, H0 := H1 } B1 H1 vs ss := by
      intro vs
      induction vs with
      | nil => intro ss h; cases ss with
        | nil => trivial
        | cons _ _ => exact h
      | cons v vs ih => intro ss h; cases ss with
        | nil => exact h
        | cons s ss => exact ⟨by cases s <;> exact h.1, ih h.2⟩
    exact conv r, F.mono _ _ _ (fun d hd v B' H' g2 r2 => hd v B' H' (g.trans w0 ⟨g2.b, g2.h, g2.n, ⟨g2.w.sub, ⟨g2.w.bag.out, g2.w.bag.here, g2.w.bag.ok⟩⟩⟩) r2) h⟩
theorem v_call {x : Str} {p pos : Pos} {e : Expr} {es : List Expr} {fa : SA} (F : FnG G X.prog X.w X.K X.mg X.base k f fd ps S) (hG : ∀ B1 H1, G { c with B0 := B1, H0 := H1 }) (hgd : X.A.guards = some []) (hr : Room k X.A) (hm : X.mg x = some (.ref f)) (hk : PySem.W.keepIn X.K (.ref f) = true) (hb : Binds X.K fd ps []) (ha : PAd X c (e :: es) fa)
    (hg : Gl X x := by rfl) (hdb : (x == ("__debug__" : Str)) = false := by decide) (he : starEach (e :: es) X.env = (false, eval e X.env) :: starEach es X.env := by rfl) (hpl : (backTo pos (starEach es X.env)).any (·.1) = false := by rfl) :
    PV X c (.Call (.Name x p) (e :: es) [] pos) (fCall S fa) := by
  refine ⟨fun ρ Q Q' k h => ha.mono _ _ _ (fun ss hs => F.mono _ _ _ k hs) h, ⟨fun pins s σ H Q I ⟨B, ρ, ok, h⟩ => wpAny_Call_Name_kw (ld_glob I hg hm (PySem.W.callWith_K (h₀ := X.base) I.ok.mod.kin hk (wpAny_mono (ha.pa.run pos pins s σ H
    (fun vs H1 => ∃ B1 ss, Gr c B H B1 H1 ∧ ArgsOk c B1 H1 vs ss ∧ S ss fun d => ∀ v B' H', Gr c B H B' H' → Rp B' v d → Q v H') I ⟨B, ρ, ok, ha.mono _ _ _ (fun ss hs vs B1 H1 g r => ⟨B1, ss, g, r, hs⟩) h⟩) (fun us s1 hv => ?_) fun _ _ z => z) he hpl) hdb)⟩⟩
  obtain ⟨vs, H1, I1, rv, B1, ss, g, ra, hS⟩ := hv
  have hl : us.length = ps.length := by rw [← rv.length, ra.len]; exact F.len _ _ hS
  refine ⟨I1.kIn, wpAny_call (run_fng F hgd hr I1 ?_ rv (toSp_of hG ok.w g F ra hS))⟩
  have := hb s1 us I1.kIn (by rw [List.append_nil]; exact hl)
  rw [List.append_nil] at this
  exact this
/-- keywords -/
structure PKd (X : Cx) (c : C) (kws : List Keyword) (f : SA) : Prop where
  mono : MonoA f
  pk : PK X kws (toA c f)
  len : ∀ ρ Q, f ρ Q → f ρ fun ss => Q ss ∧ ss.length = kws.length
theorem pk_weak {kws : List Keyword} {t t' : TA} (h : PK X kws t) (w : ∀ σ H Q, t' σ H Q → t σ H Q) : PK X kws t' := ⟨fun pos pins s σ H Q I q => h.run pos pins s σ H Q I (w σ H Q q)⟩
theorem k_nil : PKd X c [] fAN := ⟨fun _ _ _ k h => k _ h, pk_weak pk_nil fun σ H Q ⟨B, ρ, ok, h⟩ => h [] B H (Gr.refl ok.w) trivial, fun _ _ h => ⟨h, rfl⟩⟩
theorem k_cons {nm : Option Str} {kpos : Pos} {e : Expr} {kws : List Keyword} {fa : SE} {fr : SA} (ha : PV X c e fa) (hr : PKd X c kws fr) : PKd X c (⟨nm, e, kpos⟩ :: kws) (fAC fa fr) := by
  refine ⟨fun ρ Q Q' k h => ha.mono _ _ _ (fun d hd => hr.mono _ _ _ (fun ds he => k _ he) hd) h, pk_weak (pk_cons ha.pe hr.pk) fun σ H Q ⟨B, ρ, ok, h⟩ => ?_, fun ρ Q h => ha.mono _ _ _ (fun d hd => hr.mono _ _ _ (fun ss q => ⟨q.1, by rw [List.length_cons, List.length_cons, q.2]⟩) (hr.len _ _ hd)) h⟩
  refine ⟨B, ρ, ok, ha.mono _ _ _ (fun d hd v B1 H1 g1 r1 => ?_) h⟩
  exact ⟨B1, ρ, ok.mono g1, hr.mono _ _ _ (fun ds he vs B2 H2 g2 r2 => he _ B2 H2 (g1.trans ok.w g2) ⟨rp_mono g2.b r1, r2⟩) hd⟩
/-- how n keywords' values come to the parameters: is tells which of them each parameter takes -/
def perm {α : Type} (is : List Nat) (ws : List α) : List α := is.filterMap fun i => ws[i]?
structure KwB (K : PySem.W.Frag) (fd : FuncData) (ps ks : List Str) (is : List Nat) : Prop where
  to : ∀ (s : Shared) (ws : List Value), K.In s.heap → ws.length = ks.length → BindsTo s fd ⟨[], ks.zip ws⟩ (ps.zip (perm is ws))
theorem perm_vals {vs : List V} {us : List Value} (r : Vals vs us) : ∀ is : List Nat, Vals (perm is vs) (perm is us)
  | [] => .nil
  | i :: is => by
    unfold perm
    rw [List.filterMap_cons, List.filterMap_cons]
    cases e : vs[i]? with
    | none =>
      rw [r.none_of e]
      exact perm_vals r is
    | some v =>
      obtain ⟨u, h1, h2⟩ := r.get e
      rw [h1]
      exact .cons h2 (perm_vals r is)
theorem perm_args {B H : Hp} {vs : List V} {ss : List Sl} (r : ArgsOk c B H vs ss) : ∀ is : List Nat, ArgsOk c B H (perm is vs) (perm is ss)
  | [] => trivial
  | i :: is => by
    unfold perm
    rw [List.filterMap_cons, List.filterMap_cons]
    cases e : ss[i]? with
    | none =>
      have : vs[i]? = none := List.getElem?_eq_none_iff.mpr (by rw [r.len]; exact List.getElem?_eq_none_iff.mp e)
      rw [this]
      exact perm_args r is
    | some s =>
      obtain ⟨v, h1, h2⟩ := r.get e
      rw [h1]
      exact ⟨h2, perm_args r is⟩
def fCallK (S : Spec) (is : List Nat) (fa : SA) : SE := fun ρ Q => fa ρ fun ss => S (perm is ss) Q
theorem v_callK {x : Str} {p pos : Pos} {kws : List Keyword} {ks : List Str} {is : List Nat} {fa : SA} (F : FnG G X.prog X.w X.K X.mg X.base k f fd ps S) (hG : ∀ B1 H1, G { c with B0 := B1, H0 := H1 }) (hgd : X.A.guards = some []) (hr : Room k X.A) (hm : X.mg x = some (.ref f)) (hk : PySem.W.keepIn X.K (.ref f) = true) (hb : KwB X.K fd ps ks is) (ha : PKd X c kws fa)
    (hn : kws.length = ks.length := by rfl) (hg : Gl X x := by rfl) (hdb : (x == ("__debug__" : Str)) = false := by decide) (hall : (backToKw pos (keywordEach kws X.env)).all (·.1.isSome) = true := by rfl) (hks : (backToKw pos (keywordEach kws X.env)).filterMap (·.1) = ks := by rfl)
    (hpl : ((backTo pos (starEach [] X.env)).any (·.1) || (backToKw pos (keywordEach kws X.env)).any (·.1.isNone)) = false := by rfl) :
    PV X c (.Call (.Name x p) [] kws pos) (fCallK S is fa) := by
  refine ⟨fun ρ Q Q' k h => ha.mono _ _ _ (fun ss hs => F.mono _ _ _ k hs) h, ⟨fun pins s σ H Q I ⟨B, ρ, ok, h⟩ => wpAny_Call_Name_kw (ld_glob I hg hm (PySem.W.callWith_KW0 (h₀ := X.base) I.ok.mod.kin hk hall (wpAny_mono (ha.pk.run pos pins s σ H
    (fun vs H1 => ∃ B1 ss, Gr c B H B1 H1 ∧ ArgsOk c B1 H1 vs ss ∧ ss.length = kws.length ∧ S (perm is ss) fun d => ∀ v B' H', Gr c B H B' H' → Rp B' v d → Q v H') I ⟨B, ρ, ok, ha.mono _ _ _ (fun ss hs vs B1 H1 g r => ⟨B1, ss, g, r, hs.2, hs.1⟩) (ha.len _ _ h)⟩) (fun us s1 hv => ?_) fun _ _ z => z) hpl) hdb)⟩⟩
  obtain ⟨vs, H1, I1, rv, B1, ss, g, ra, hsl, hS⟩ := hv
  rw [hks]
  exact ⟨I1.kIn, wpAny_call (run_fng F hgd hr I1 (hb.to s1 us I1.kIn (by rw [← rv.length, ra.len, hsl, hn])) (perm_vals rv is) (toSp_of hG ok.w g F (perm_args ra is) hS))⟩
/-! ### repr -/
def bRepr : GB := fun ds Q => match ds with | [d] => PyData.showable d = true ∧ PyData.hasDict d = false ∧ (PyData.shown d).length ≤ sizeLine ∧ PyData.depth d ≤ 60 ∧ Q (.str (PyData.shown d)) | _ => False
theorem m_Repr : MonoB bRepr := fun ds Q Q' k h => by
  unfold bRepr at h ⊢
  split at h <;> first | exact h.elim | exact ⟨h.1, h.2.1, h.2.2.1, h.2.2.2.1, k _ h.2.2.2.2⟩
mutual
theorem rp_reads {pins : List (Addr × Obj)} {σ : St} {H : Hp} {s : Shared} (I : Inv X pins σ H s) : ∀ (d : D) (v : V) (u : Value), d.hasDict = false → Rp H v d → RelV v u → ∃ as, Reads s.heap u d as
  | .none, _, _, _, .non, r => by
    cases r
    exact ⟨_, Reads.none⟩
  | .bool b, _, _, _, .bl _, r => by
    cases r
    exact ⟨_, Reads.bool b⟩
  | .int i, _, _, _, .int _, r => by
    obtain ⟨t, rfl⟩ := r
    exact ⟨_, Reads.int i t⟩
  | .str x, _, _, _, .str _, r => by
    obtain ⟨t, rfl⟩ := r
    exact ⟨_, Reads.str x t⟩
  | .list ds, _, _, hd, .lst h1 h2, r => by
    cases r
    obtain ⟨its, rv, ⟨o, n, ho, hc, _, hdt⟩, _⟩ := I.list (SqL.of h1)
    obtain ⟨as, hr⟩ := rpa_reads I ds _ its (by simpa [PyData.hasDict] using hd) h2 rv
    exact ⟨_, Reads.list ho hc hdt hr⟩
  | .tuple ds, _, _, hd, .tup h1 h2, r => by
    cases r
    obtain ⟨its, rv, ⟨o, ho, hc, n, hdt⟩, _⟩ := I.tuple (SqT.of h1)
    obtain ⟨as, hr⟩ := rpa_reads I ds _ its (by simpa [PyData.hasDict] using hd) h2 rv
    exact ⟨_, Reads.tuple ho hc hdt hr⟩
  | .dict _, _, _, hd, _, _ => by simp [PyData.hasDict] at hd
theorem rpa_reads {pins : List (Addr × Obj)} {σ : St} {H : Hp} {s : Shared} (I : Inv X pins σ H s) : ∀ (ds : List D) (vs : List V) (us : List Value), PyData.hasDictAll ds = false → RpA H vs ds → Vals vs us → ∃ as, ReadsAll s.heap us ds as
  | [], _, _, _, .nil, r => by
    cases r
    exact ⟨_, ReadsAll.nil⟩
  | d :: ds, _, _, hd, .cons h1 h2, r => by
    have hd' := hd
    simp only [PyData.hasDictAll, Bool.or_eq_false_iff] at hd'
    cases r with
    | cons r1 r2 =>
      obtain ⟨as, q1⟩ := rp_reads I d _ _ hd'.1 h1 r1
      obtain ⟨bs, q2⟩ := rpa_reads I ds _ _ hd'.2 h2 r2
      exact ⟨_, ReadsAll.cons q1 q2⟩
end
theorem c_repr (hgd : X.A.guards = some []) (hu : X.A.units + 64 < cLine) : CallD X c (.builtin "repr") bRepr := by
  refine ⟨m_Repr, fun pins s σ H xs us Q I rv ⟨B, ds, w, ra, q⟩ => ?_⟩
  cases ds with
  | nil => exact q.elim
  | cons d r0 =>
  cases r0 with
  | cons _ _ => exact q.elim
  | nil =>
  obtain ⟨q1, q2, q3, q4, q⟩ : PyData.showable d = true ∧ PyData.hasDict d = false ∧ (PyData.shown d).length ≤ sizeLine ∧ PyData.depth d ≤ 60 ∧ ∀ v B' H', Gr c B H B' H' → Rp B' v (.str (PyData.shown d)) → Q v H' := q
  obtain ⟨v, e, r⟩ := ra.one
  subst e
  obtain ⟨u, rfl, ru⟩ := vals1 rv
  have fin : ∀ {h' : Heap} {tk : Tok} {t : Nat}, (∀ b o, s.heap.get? b = some o → h'.get? b = some o) → EP X pins σ Q (.str (PyData.shown d) tk) { s with heap := h', toks := t } := fun {h' tk t} hk => ⟨.str (PyData.shown d), H, I.kept hk, ⟨tk, rfl⟩, q _ B H (Gr.refl w) (.str _)⟩
  have here : ∀ {tk : Tok} {t : Nat}, EP X pins σ Q (.str (PyData.shown d) tk) { s with toks := t } := fun {tk t} => ⟨.str (PyData.shown d), H, I.tok _, ⟨tk, rfl⟩, q _ B H (Gr.refl w) (.str _)⟩
  cases d with
  | dict kvs => simp [PyData.hasDict] at q2
  | list ds =>
    obtain ⟨as, rd⟩ := rp_reads I _ v u q2 (r.rp w) ru
    obtain ⟨a, ys, rfl, _, _⟩ := r.list w
    cases ru
    exact repr_of_reads' rd q1 (PyData.noDict_hsm q2) hgd (by omega) (fun _ _ z => z) (fun h' tk t hk => fin hk) q3
  | tuple ds =>
    obtain ⟨as, rd⟩ := rp_reads I _ v u q2 (r.rp w) ru
    obtain ⟨a, ys, rfl, _, _⟩ := r.tup w
    cases ru
    exact repr_of_reads' rd q1 (PyData.noDict_hsm q2) hgd (by omega) (fun _ _ z => z) (fun h' tk t hk => fin hk) q3
  | int i =>
    have e := r.int
    subst e
    obtain ⟨t, rfl⟩ := ru
    simp only [PyData.shown] at here
    exact PySem.P.repr_of_int (by simpa [PyData.showable] using q1) here
  | none =>
    have e := r.non
    subst e
    cases ru
    simp only [PyData.shown] at here
    exact PySem.P.repr_of_none here
  | bool b =>
    have e := r.bl
    subst e
    cases ru
    simp only [PyData.shown] at here
    exact PySem.P.repr_of_bool here
  | str x =>
    have e := r.str
    subst e
    obtain ⟨t, rfl⟩ := ru
    simp only [PyData.shown] at here q3
    exact PySem.P.repr_of_str here q3
end
end DL
namespace DL
open PySem L2 PyProof.Rows
/-! ### list(reversed(a list)) -/
section
variable {prog : Program} {w : World} {A : Around} {E : Value → Shared → Prop} {s : Shared}
theorem list_rev_call {it l : Addr} {items : Array Value} {Q : Value → Shared → Prop} (hh : A.handled = none) (hit : s.heap.IsRevIter it l ((items.size : Int) - 1)) (hl : s.heap.IsList l items) (hne : l ≠ it) (hn : items.size ≤ sizeLine)
    (hQ : ∀ (h' : Heap) (tk : Nat) (acc : Array Value) (c' : Nat), (∀ b o, b ≠ it → s.heap.get? b = some o → h'.get? b = some o) → h'.get? s.heap.objs.size = some { cls := .type "list", data := .seq acc c' } →
      ItemsOf (fun i v => items[items.size - 1 - i]? = some v) acc items.size → Q (.ref s.heap.objs.size) { s with heap := h', toks := tk }) : wpAny (model prog w) A (call (.type "list") [.ref it]) Q E s := by
  have hil : it < s.heap.objs.size := by
    obtain ⟨oi, hoi, _⟩ := id hit
    exact Heap.lt_size hoi
  have hll : l < s.heap.objs.size := by
    obtain ⟨ol, hol, _⟩ := id hl
    exact Heap.lt_size hol
  have n1 : s.heap.objs.size ≠ it := Nat.ne_of_gt hil
  have n2 : s.heap.objs.size ≠ l := Nat.ne_of_gt hll
  refine callType_codes (Q₁ := fun obj s₁ => obj = .ref s.heap.objs.size ∧ s₁ = { s with heap := s.heap.push { cls := .type "list", data := .seq #[] } }) PySem.F.called_list (PySem.F.typeCall_list_1 _) PySem.F.entry_list_init
    (code_list_new _ ⟨rfl, rfl⟩) ?_
  rintro obj s₁ ⟨rfl, rfl⟩
  have new : (s.heap.push { cls := .type "list", data := .seq #[] }).get? s.heap.objs.size = some { cls := .type "list", data := .seq #[] } := Heap.get?_push_size _ rfl
  refine ⟨⟨_, new, rfl⟩, PySem.F.args_list_init_2 _ _, ?_⟩
  show wpAny _ _ (do let old ← Builtin.List.listItems (.ref s.heap.objs.size); Builtin.List.listUpdate (.ref s.heap.objs.size) (fun _ => #[]); letGo old.toList.reverse; Builtin.List.listExtendWith (.ref s.heap.objs.size) (.ref it) .none) _ _ _
  unfold Builtin.List.listItems
  refine wpAny_bind (wpAny_bind (wpAny_seqItems new rfl (wpAny_pure (wpAny_bind ?_))))
  show wpAny _ _ (updateSeq s.heap.objs.size (fun _ => #[])) _ _ _
  refine wpAny_updateSeq new rfl (wpAny_bind (wpAny_letGo ?_))
  generalize hgen : (s.heap.push { cls := .type "list", data := .seq #[] }).update s.heap.objs.size (Obj.mapSeq fun _ => (#[] : Array Value)) = h1
  have fresh : h1.get? s.heap.objs.size = some (Obj.mapSeq (fun _ => (#[] : Array Value)) { cls := .type "list", data := .seq #[] }) := by
    rw [← hgen]
    exact Heap.get?_update_self (Obj.mapSeq fun _ => (#[] : Array Value)) new rfl
  have stay : ∀ b o, b ≠ s.heap.objs.size → s.heap.get? b = some o → h1.get? b = some o := fun b o hb e => by
    rw [← hgen]
    exact (Heap.get?_update_other _ _ (Ne.symm hb)).trans (Heap.get?_push_of_some _ e)
  have hit1 : h1.IsRevIter it l ((items.size : Int) - 1) := hit.at fun o e => stay _ _ (Ne.symm n1) e
  have hl1 : h1.IsList l items := by
    obtain ⟨o, e, r⟩ := hl
    exact ⟨o, stay _ _ (Ne.symm n2) e, r⟩
  have ty : ({ s with heap := h1 } : Shared).TypeIs (.ref it) "list_reverseiterator" := Heap.IsRevIter.typeIs (s := { s with heap := h1 }) hit1
  have same : Builtin.List.listSameRef (.ref s.heap.objs.size) (.ref it) = false := by simp [Builtin.List.listSameRef, n1]
  unfold Builtin.List.listExtendWith
  refine wpAny_bind (wpAny_typeOf ty ?_)
  rw [if_neg (by rw [same]; decide)]
  refine wpAny_bind (wpAny_pyIter_revIter (s := { s with heap := h1 }) hit1 (wpAny_bind (wpAny_holding ?_)))
  unfold Builtin.List.listLengthHint
  refine wpAny_bind (wpAny_specialOf ty RT.nolen_lri ?_)
  show wpAny _ _ (specialOf (Value.ref it) (Str.ofString "__length_hint__") >>= _) _ _ _
  refine wpAny_bind (wpAny_specialOf ty RT.hint_lri ?_)
  generalize hid : ("list_reverseiterator.__length_hint__" : String) = id0
  wp_delta
  have sp : splitId id0 = some ("list_reverseiterator", "__length_hint__") := by
    subst hid
    decide +kernel
  rw [sp]
  subst hid
  refine wpAny_bind (wpAny_isInstance (b := true) ty (by rw [isSubtype_type]; kernel_rfl) (wpAny_pure ?_))
  rw [if_neg (by decide)]
  have W := (Walks.listRev (prog := prog) (w := w) (A := A.in1.in1) hh it l hne items).toS
  have out : s.heap.objs.size ∉ [it, l] := by
    intro z
    rcases List.mem_cons.mp z with z | z
    · exact n1 z
    · exact n2 (List.mem_singleton.mp z)
  refine wpAny_pure ⟨plainId_quiet F.plain_extend_loop _, codeAny_extend_loopS W hn _ out _ items.size 0 _ _ _ rfl (Nat.zero_le _) ⟨Nat.zero_le _, ?_, hl1⟩ fresh (ItemsOf.nil _) fun s' acc' c' hm hS' hacc => ?_⟩
  · have e0 : ((items.size : Nat) : Int) - 1 - ((0 : Nat) : Int) = (items.size : Int) - 1 := by omega
    rw [e0]
    exact hit1
  · rw [Moved.eq_with hm]
    refine ⟨rfl, hQ s'.heap s'.toks acc' c' (fun b o hb e => ?_) hS' hacc⟩
    have nb : b ≠ s.heap.objs.size := Nat.ne_of_lt (Heap.lt_size e)
    refine hm.heap b o (fun hmem => ?_) (stay b o nb e)
    rcases List.mem_cons.mp hmem with z | z
    · exact nb z
    · exact hb (List.mem_singleton.mp z)
end
end DL
namespace DL
open PySem L2 PyProof.Rows
section
variable {X : Cx} {c : C}
/-- list(reversed(x)), x a list -/
def tListRev (K : PySem.W.Frag) (te : TE) : TE := fun σ H Q => te σ H fun v H1 => ∃ (a : Addr) (xs : List V), v = .ref a ∧ SqL K H1 a xs ∧ ∀ q, H1 q = none → Q (.ref q) (upd H1 q (.lst xs.reverse))
theorem pe_listRev {e : Expr} {te : TE} {p p2 pos pos2 : Pos} (hc : X.calm = true) (hm : X.mg "list" = none) (hm2 : X.mg "reversed" = none) (he : PE X e te) (hg : Gl X "list") (hg2 : Gl X "reversed")
    (hs : starEach [e] X.env = (false, eval e X.env) :: starEach [] X.env) (hs2 : starEach [.Call (.Name "reversed" p2) [e] [] pos2] X.env = (false, eval (.Call (.Name "reversed" p2) [e] [] pos2) X.env) :: starEach [] X.env) :
    PE X (.Call (.Name "list" p) [.Call (.Name "reversed" p2) [e] [] pos2] [] pos) (tListRev X.K te) := by
  refine ⟨fun pins s σ H Q I h => ?_⟩
  have inner : ∀ {R : Value → Shared → Prop}, wpAny (model X.prog X.w) X.A (eval e X.env) (fun u s1 => wpAny (model X.prog X.w) X.A (call (.type "reversed") [u]) R X.xe s1) X.xe s → wpAny (model X.prog X.w) X.A (eval (.Call (.Name "reversed" p2) [e] [] pos2) X.env) R X.xe s := fun hh =>
    Call_ (ld_blt I hg2 hm2 PyProof.Rows.boot_reversed (PyProof.Rows.callWith_type1 (args_cons (thn hh fun u s1 q => args_nil q) hs) hs rfl))
  refine Call_ (ld_blt I hg hm boot_list (PyProof.Rows.callWith_type1 (args_cons (inner (thn (he.run pins s σ H _ I h) fun u s1 hv => ?_)) hs2) hs2 rfl))
  obtain ⟨v, H1, I1, r1, a, xs, ev, hq, q⟩ := hv
  subst ev
  obtain rfl : u = Value.ref a := r1
  obtain ⟨its, rv, p', hz⟩ := I1.list hq
  have hl := p'.isList
  refine call_reversed_list hl (args_nil ?_)
  have I2 : Inv X pins σ H1 { s1 with heap := s1.heap.push (revObj a ((its.toArray.size : Int) - 1)) } := I1.kept (t' := s1.toks) fun _ _ z => Heap.get?_push_of_some _ z
  obtain ⟨f0, f1, f2, f3, f4, f5⟩ := I1.fpOk (H' := H1) (b := s1.heap.objs.size) (Nat.le_refl _) (I1.hok.fresh (Nat.le_refl _))
  have hal : a ≠ s1.heap.objs.size := by
    obtain ⟨ol, hol, _⟩ := id hl
    exact Nat.ne_of_lt (Heap.lt_size hol)
  refine list_rev_call (s := { s1 with heap := s1.heap.push (revObj a ((its.toArray.size : Int) - 1)) }) (I1.ok.hd hc) ⟨_, Heap.get?_push_size _ rfl, rfl, rfl⟩ (hl.push _) hal (by rw [List.size_toArray, ← rv.length]; exact hz) fun h' tk acc c' hk hn hi => ?_
  have I3 : Inv X pins σ H1 { s1 with heap := h', toks := tk } := I2.turned (t' := tk) (fun b o hb z => hk b o hb z) f0 f1 f3 f4 f5
  have fr : H1 (s1.heap.push (revObj a ((its.toArray.size : Int) - 1))).objs.size = none := I2.hok.fresh (Nat.le_refl _)
  have obj : ObjOk X.prog X.w (upd H1 (s1.heap.push (revObj a ((its.toArray.size : Int) - 1))).objs.size (.lst xs.reverse)) h' (s1.heap.push (revObj a ((its.toArray.size : Int) - 1))).objs.size (.lst xs.reverse) :=
    ⟨by rw [List.length_reverse]; exact hz, acc.toList, c', RT.vals_rev rv hi, by rw [Array.toArray_toList]; exact hn⟩
  have I4 : Inv X pins σ (upd H1 (s1.heap.push (revObj a ((its.toArray.size : Int) - 1))).objs.size (.lst xs.reverse)) { s1 with heap := h', toks := tk } := by
    refine I2.turnedNew (ch := [s1.heap.objs.size]) (fun b ob hb z => hk b ob (fun y => hb (by simp [y])) z) (fun b hb => ?_) (Nat.le_refl _) obj
    rw [List.mem_singleton.mp hb]
    exact ⟨f0, f1, f2, f3, f4, f5⟩
  exact ⟨.ref (s1.heap.push (revObj a ((its.toArray.size : Int) - 1))).objs.size, _, I4, rfl, q _ fr⟩
def fLRev (fa : SE) : SL := fun ρ Q => fa ρ fun d => match d with | .list ds => Q ds.reverse | _ => False
def fTRev (fa : SE) : SE := fun ρ Q => fa ρ fun d => match d with | .list ds => Q (.tuple ds.reverse) | _ => False
theorem n_listRev {e : Expr} {fa : SE} {p p2 pos pos2 : Pos} (hc : X.calm = true) (hm : X.mg "list" = none) (hm2 : X.mg "reversed" = none) (ha : PB X c e fa) (hg : Gl X "list" := by rfl) (hg2 : Gl X "reversed" := by rfl)
    (hs : starEach [e] X.env = (false, eval e X.env) :: starEach [] X.env := by rfl) (hs2 : starEach [.Call (.Name "reversed" p2) [e] [] pos2] X.env = (false, eval (.Call (.Name "reversed" p2) [e] [] pos2) X.env) :: starEach [] X.env := by rfl) :
    PN X c (.Call (.Name "list" p) [.Call (.Name "reversed" p2) [e] [] pos2] [] pos) (fLRev fa) := by
  refine ⟨fun ρ Q Q' k h => ha.mono _ _ _ (fun d hd => ?_) h, pe_weak (pe_listRev hc hm hm2 ha.pe hg hg2 hs hs2) fun σ H Q ⟨B, ρ, ok, h⟩ => ⟨B, ρ, ok, ha.mono _ _ _ (fun d hd v B1 H1 g1 r1 => ?_) h⟩⟩
  · cases d <;> first | exact hd.elim | exact k _ hd
  · cases d <;> first | exact hd.elim | skip
    obtain ⟨a, xs, rfl, h1, h2⟩ := r1.list g1.w
    refine ⟨a, xs, rfl, SqL.of h1, fun l hl => ?_⟩
    have g2 := Gr.newO (o := .lst xs.reverse) g1.w hl
    exact hd l _ B1 _ (g1.trans ok.w g2) (g1.back hl) (Evl.fresh_back g1.w.sub hl) upd_same (rpa_rev h2)
theorem v_tupRev {e : Expr} {fa : SE} {p p2 pos pos2 : Pos} (hc : X.calm = true) (hm : X.mg "tuple" = none) (hm2 : X.mg "reversed" = none) (ha : PB X c e fa) (hg : Gl X "tuple" := by rfl) (hg2 : Gl X "reversed" := by rfl)
    (hs : starEach [e] X.env = (false, eval e X.env) :: starEach [] X.env := by rfl) (hs2 : starEach [.Call (.Name "reversed" p2) [e] [] pos2] X.env = (false, eval (.Call (.Name "reversed" p2) [e] [] pos2) X.env) :: starEach [] X.env := by rfl) :
    PV X c (.Call (.Name "tuple" p) [.Call (.Name "reversed" p2) [e] [] pos2] [] pos) (fTRev fa) := by
  refine ⟨fun ρ Q Q' k h => ha.mono _ _ _ (fun d hd => ?_) h, pe_weak (RT.pe_tupRev hc hg hm hg2 hm2 ha.pe hs hs2) fun σ H Q ⟨B, ρ, ok, h⟩ => ⟨B, ρ, ok, ha.mono _ _ _ (fun d hd v B1 H1 g1 r1 => ?_) h⟩⟩
  · cases d <;> first | exact hd.elim | exact k _ hd
  · cases d <;> first | exact hd.elim | skip
    obtain ⟨a, xs, rfl, h1, h2⟩ := r1.list g1.w
    refine ⟨a, xs, rfl, SqL.of h1, fun l hl => ?_⟩
    have g2 := Gr.new (o := .tup xs.reverse) g1.w hl
    exact hd _ _ _ (g1.trans ok.w g2) (.tup upd_same (rpa_mono g2.b (rpa_rev h2)))
/-- list(range(..)) -/
theorem rng_rgV {B : Hp} (a b : Int) : RpA B (rgV a b) (rng a (b - a).toNat) := by
  unfold rgV rng
  generalize List.range (b - a).toNat = l
  induction l with
  | nil => exact .nil
  | cons i l ih => exact .cons (.int _) ih
def fLRng1 (fa : SE) : SL := fun ρ Q => fa ρ fun d => match d with | .int j => RgOk 0 j ∧ Q (rng 0 (j - 0).toNat) | _ => False
def fLRng2 (fa fb : SE) : SL := fun ρ Q => fa ρ fun d => fb ρ fun e => match d, e with | .int i, .int j => RgOk i j ∧ Q (rng i (j - i).toNat) | _, _ => False
theorem n_lrng1 {a : Expr} {fa : SE} {p p2 pos pos2 : Pos} (hc : X.calm = true) (hm : X.mg "list" = none) (hm2 : X.mg "range" = none) (ha : PB X c a fa) (hg : Gl X "list" := by rfl) (hg2 : Gl X "range" := by rfl)
    (na : starEach [a] X.env = (false, eval a X.env) :: starEach [] X.env := by rfl) (na2 : starEach [.Call (.Name "range" p2) [a] [] pos2] X.env = (false, eval (.Call (.Name "range" p2) [a] [] pos2) X.env) :: starEach [] X.env := by rfl) :
    PN X c (.Call (.Name "list" p) [.Call (.Name "range" p2) [a] [] pos2] [] pos) (fLRng1 fa) := by
  refine ⟨fun ρ Q Q' k h => ha.mono _ _ _ (fun d hd => ?_) h, pe_weak (pe_listRg hc hg hm (prg_1 hg2 hm2 ha.pe na) na2) fun σ H Q ⟨B, ρ, ok, h⟩ => ⟨B, ρ, ok, ha.mono _ _ _ (fun d hd v B1 H1 g1 r1 => ?_) h⟩⟩
  · cases d <;> first | exact hd.elim | exact ⟨hd.1, k _ hd.2⟩
  · cases d <;> first | exact hd.elim | skip
    rename_i j
    rw [r1.int]
    refine ⟨j, rfl, hd.1, fun l hl => ?_⟩
    have g2 := Gr.newO (o := .lst (rgV 0 j)) g1.w hl
    exact hd.2 l _ B1 _ (g1.trans ok.w g2) (g1.back hl) (Evl.fresh_back g1.w.sub hl) upd_same (rng_rgV _ _)
theorem n_lrng2 {a b : Expr} {fa fb : SE} {p p2 pos pos2 : Pos} (hc : X.calm = true) (hm : X.mg "list" = none) (hm2 : X.mg "range" = none) (ha : PB X c a fa) (hb : PB X c b fb) (hg : Gl X "list" := by rfl) (hg2 : Gl X "range" := by rfl)
    (na : starEach [a, b] X.env = (false, eval a X.env) :: starEach [b] X.env := by rfl) (nb : starEach [b] X.env = (false, eval b X.env) :: starEach [] X.env := by rfl)
    (hp : (backTo pos2 (starEach [b] X.env)).any (·.1) = false := by rfl) (na2 : starEach [.Call (.Name "range" p2) [a, b] [] pos2] X.env = (false, eval (.Call (.Name "range" p2) [a, b] [] pos2) X.env) :: starEach [] X.env := by rfl) :
    PN X c (.Call (.Name "list" p) [.Call (.Name "range" p2) [a, b] [] pos2] [] pos) (fLRng2 fa fb) := by
  refine ⟨fun ρ Q Q' k h => ha.mono _ _ _ (fun d hd => hb.mono _ _ _ (fun e he => ?_) hd) h, pe_weak (pe_listRg hc hg hm (prg_2 hg2 hm2 ha.pe hb.pe na nb hp) na2) fun σ H Q ⟨B, ρ, ok, h⟩ =>
    ⟨B, ρ, ok, ha.mono _ _ _ (fun d hd v B1 H1 g1 r1 => ⟨B1, ρ, ok.mono g1, hb.mono _ _ _ (fun e he u B2 H2 g2 r2 => ?_) hd⟩) h⟩⟩
  · cases d <;> cases e <;> first | exact he.elim | exact ⟨he.1, k _ he.2⟩
  · cases d <;> cases e <;> first | exact he.elim | skip
    rename_i i j
    rw [r1.int, r2.int]
    refine ⟨i, j, rfl, rfl, he.1, fun l hl => ?_⟩
    have g3 := Gr.newO (o := .lst (rgV i j)) g2.w hl
    exact he.2 l _ B2 _ ((g1.trans ok.w g2).trans ok.w g3) ((g1.trans ok.w g2).back hl) (Evl.fresh_back g2.w.sub hl) upd_same (rng_rgV _ _)
/-- x.bit_length() -/
def fBits (fa : SE) : SE := fun ρ Q => fa ρ fun d => match d with | .int i => Q (.int (Builtin.Int.intBits i : Nat)) | _ => False
theorem v_bits {o : Expr} {fa : SE} {apos pos : Pos} (ha : PB X c o fa) (hbase : attributeBase o "bit_length" X.env (eval o X.env) = eval o X.env := by rfl) (hline : (apos.endLine == pos.line) = true := by rfl) : PV X c (.Call (.Attribute o "bit_length" apos) [] [] pos) (fBits fa) := by
  refine ⟨fun ρ Q Q' k h => ha.mono _ _ _ (fun d hd => ?_) h, pe_weak (pe_bits ha.pe hbase hline) fun σ H Q ⟨B, ρ, ok, h⟩ => ⟨B, ρ, ok, ha.mono _ _ _ (fun d hd v B1 H1 g1 r1 => ?_) h⟩⟩
  · cases d <;> first | exact hd.elim | exact k _ hd
  · cases d <;> first | exact hd.elim | skip
    exact ⟨_, r1.int, hd _ B1 H1 g1 (.int _)⟩
/-- 1 << k of any size -/
def gShlW : G2 | .int i, .int j, Q => CShl i j ∧ Q (.int (i * 2 ^ j.toNat)) | _, _, _ => False
theorem m_ShlW : MonoG gShlW := fun d e Q Q' k h => by cases d <;> cases e <;> first | exact ⟨h.1, k _ h.2⟩ | exact h.elim
theorem o_shlW : OpD X c (binaryOp .LShift) gShlW := opd_int op_shlW (fun d e Q h => by cases d <;> cases e <;> first | exact ⟨_, _, rfl, rfl, h.1, h.2⟩ | exact h.elim) m_ShlW
/-! ### a tuple or a list unpacked -/
theorem PG.or {tg : Expr} {t t' : TG} (h : PG X tg t) (h' : PG X tg t') : PG X tg fun v σ H Q => t v σ H Q ∨ t' v σ H Q := ⟨fun pins s σ H v u Q I r q => q.elim (h.run pins s σ H v u Q I r) (h'.run pins s σ H v u Q I r)⟩
def gSq (n : Nat) (gs : GTs) : GT := fun d ρ Q => match seqOf d with | some ds => ds.length = n ∧ gs ds ρ Q | none => False
theorem g_sq {es : List Expr} {k : Nat} {gs : GTs} {ks : List Nat} {pos : Pos} (hc : X.calm = true) (h : PGsd X c es gs ks) {n : Nat} (hn : (assignEach es X.env).length = n := by rfl) (hst : (assignEach es X.env).findIdx? (·.1) = none := by rfl) :
    PGd X c (.Tuple es k pos) (gSq n gs) ks := by
  refine ⟨fun d ρ Q Q' k h' => ?_, pg_weak (PG.or (pg_tup hc h.pg hn hst) (pg_unl hc h.pg hn hst)) fun v σ H Q ⟨B, ρ, d, ok, r, h'⟩ => ?_⟩
  · unfold gSq at h' ⊢
    split at h' <;> first | exact h'.elim | exact ⟨h'.1, h.mono _ _ _ _ k h'.2⟩
  · unfold gSq at h'
    cases d <;> simp only [seqOf] at h' <;> first | exact h'.elim | skip
    · obtain ⟨a, xs, rfl, h1, h2⟩ := rp_lst r
      exact .inr ⟨a, xs, rfl, SqL.of (ok.w.sub _ _ h1), by rw [rpa_len h2]; exact h'.1, B, ρ, _, ok, h2, h'.2⟩
    · obtain ⟨a, xs, rfl, h1, h2⟩ := rp_tup r
      exact .inl ⟨a, xs, rfl, SqT.of (ok.w.sub _ _ h1), by rw [rpa_len h2]; exact h'.1, B, ρ, _, ok, h2, h'.2⟩
/-! ### enumerate(list), zip -/
variable {elts : List Expr} {kk : Nat} {tpos : Pos}
def enumD : Nat → List D → List D
  | _, [] => []
  | k, d :: ds => .tuple [.int (k : Nat), d] :: enumD (k + 1) ds
theorem enumD_len : ∀ (k : Nat) (ds : List D), (enumD k ds).length = ds.length
  | _, [] => rfl
  | k, _ :: ds => by simp only [enumD, List.length_cons, enumD_len (k + 1) ds]
theorem enumD_get : ∀ {k : Nat} {ds : List D} {i : Nat} {d : D}, (enumD k ds)[i]? = some d → ∃ e, ds[i]? = some e ∧ d = .tuple [.int ((k + i : Nat) : Int), e]
  | _, [], _, _, h => by simp [enumD] at h
  | k, e :: ds, 0, d, h => by
    simp [enumD] at h
    exact ⟨e, rfl, h.symm⟩
  | k, e :: ds, i + 1, d, h => by
    simp only [enumD, List.getElem?_cons_succ] at h
    obtain ⟨x, h1, h2⟩ := enumD_get h
    refine ⟨x, by simpa using h1, ?_⟩
    rw [h2]
    have e : k + 1 + i = k + (i + 1) := by omega
    rw [e]
def fEnum (fa : SE) : SI := fun ρ Q => fa ρ fun d => match d with | .list ds => Q (enumD 0 ds) | _ => False
theorem i_enum {e : Expr} {fa : SE} {p pos : Pos} (hm : X.mg "enumerate" = none) (ha : PV X c e fa) (hg : Gl X "enumerate" := by rfl) (hs : starEach [e] X.env = [(false, eval e X.env)] := by rfl) : PItd X c (.Tuple elts kk tpos) (.Call (.Name "enumerate" p) [e] [] pos) (fEnum fa) := by
  refine ⟨fun ρ Q Q' k h => ha.mono _ _ _ (fun d hd => ?_) h, pi_weak (pi_enum hg hm (pa_cons ha.pe pa_nil (by rw [hs]; rfl)) hs) fun σ H R ⟨B, ρ, ok, h⟩ => ⟨B, ρ, ok, ha.mono _ _ _ (fun d hd v B' H' g r => ?_) h⟩⟩
  · cases d <;> first | exact hd.elim | exact k _ hd
  · cases d <;> first | exact hd.elim | skip
    rename_i ds
    obtain ⟨a, xs, rfl, h1, h2⟩ := rp_lst r
    refine ⟨a, xs, rfl, SqL.of (g.w.sub _ _ h1), hd _ B' H' g fun i B1 H1 e1 w => ?_⟩
    have h3 : H1 a = some (.lst xs) := w.sub _ _ (e1 _ _ h1)
    refine ⟨fun hi => ⟨xs, SqL.of h3, by rw [rpa_len h2]; rw [enumD_len] at hi; exact hi⟩, fun d hd' => ?_⟩
    obtain ⟨x, h4, h5⟩ := enumD_get hd'
    obtain ⟨y, h6, h7⟩ := rpa_get h2 h4
    refine ⟨⟨xs, y, SqL.of h3, h6⟩, fun z H2 ⟨T, u, e2, hT, e3, hy⟩ => ?_⟩
    subst e2 e3 h5
    have hu := hy xs (SqL.of h3)
    rw [h6] at hu
    cases hu
    have g4 := Gr.new (o := .tup [.int (i : Nat), y]) w hT
    refine ⟨_, g4, .tup upd_same (.cons ?_ (.cons (rp_mono g4.b (rp_mono e1 h7)) .nil))⟩
    rw [Nat.zero_add]
    exact .int _
def zipD : List D → List D → List D
  | a :: as, b :: bs => .tuple [a, b] :: zipD as bs
  | _, _ => []
theorem zipD_get : ∀ {as bs : List D} {i : Nat} {d : D}, (zipD as bs)[i]? = some d → ∃ a b, as[i]? = some a ∧ bs[i]? = some b ∧ d = .tuple [a, b]
  | a :: as, b :: bs, 0, d, h => by
    simp [zipD] at h
    exact ⟨a, b, rfl, rfl, h.symm⟩
  | a :: as, b :: bs, i + 1, d, h => by
    simp only [zipD, List.getElem?_cons_succ] at h
    obtain ⟨x, y, h1, h2, h3⟩ := zipD_get h
    exact ⟨x, y, by simpa using h1, by simpa using h2, h3⟩
  | [], _, _, _, h => by simp [zipD] at h
  | _ :: _, [], _, _, h => by simp [zipD] at h
theorem zipD_len : ∀ (as bs : List D), (zipD as bs).length = min as.length bs.length
  | a :: as, b :: bs => by simp only [zipD, List.length_cons, zipD_len as bs]; omega
  | [], bs => by simp [zipD]
  | _ :: _, [] => by simp [zipD]
def fZip (fa fb : SE) : SI := fun ρ Q => fa ρ fun d => fb ρ fun e => match d, e with | .list as, .list bs => Q (zipD as bs) | .tuple as, .tuple bs => Q (zipD as bs) | _, _ => False
theorem i_zip {e e2 : Expr} {fa fb : SE} {p pos : Pos} (hm : X.mg "zip" = none) (ha : PV X c e fa) (hb : PV X c e2 fb) (hg : Gl X "zip" := by rfl) (hs : starEach [e, e2] X.env = (false, eval e X.env) :: starEach [e2] X.env := by rfl) (hs2 : starEach [e2] X.env = (false, eval e2 X.env) :: starEach [] X.env := by rfl)
    (hpl : (backTo pos (starEach [e2] X.env)).any (·.1) = false := by rfl) : PItd X c (.Tuple elts kk tpos) (.Call (.Name "zip" p) [e, e2] [] pos) (fZip fa fb) := by
  refine ⟨fun ρ Q Q' k h => ha.mono _ _ _ (fun d hd => hb.mono _ _ _ (fun e he => ?_) hd) h, pi_weak (RZ.pi_zipA hg hm (pa_cons ha.pe (pa_cons hb.pe pa_nil hs2) hs) hs hpl) fun σ H R ⟨B, ρ, ok, h⟩ =>
    ⟨B, ρ, ok, ha.mono _ _ _ (fun d hd v B' H' g r => ⟨B', ρ, ok.mono g, hb.mono _ _ _ (fun e he u B2 H2 g2 r2 => ?_) hd⟩) h⟩⟩
  · cases d <;> cases e <;> first | exact he.elim | exact k _ he
  · have r' := rp_mono g2.b r
    have gg := g.trans ok.w g2
    cases d <;> cases e <;> first | exact he.elim | skip
    · obtain ⟨a, xs, rfl, h1, h2⟩ := rp_lst r'
      obtain ⟨b, ys, rfl, h3, h4⟩ := rp_lst r2
      refine ⟨a, b, xs, ys, rfl, .inl ⟨SqL.of (g2.w.sub _ _ h1), SqL.of (g2.w.sub _ _ h3), he _ B2 H2 gg fun i B1 H1 e1 w => ?_⟩⟩
      have k1 : H1 a = some (.lst xs) := w.sub _ _ (e1 _ _ h1)
      have k2 : H1 b = some (.lst ys) := w.sub _ _ (e1 _ _ h3)
      refine ⟨fun hi => ⟨xs, ys, SqL.of k1, SqL.of k2, by rw [rpa_len h2, rpa_len h4]; rw [zipD_len] at hi; omega⟩, fun d hd' => ?_⟩
      obtain ⟨p, q, m1, m2, m3⟩ := zipD_get hd'
      obtain ⟨x, n1, n2⟩ := rpa_get h2 m1
      obtain ⟨y, n3, n4⟩ := rpa_get h4 m2
      refine ⟨⟨xs, ys, x, y, SqL.of k1, SqL.of k2, n1, n3⟩, fun z H3 ⟨T, x', y', e2, hT, e3, hx, hy⟩ => ?_⟩
      subst e2 e3 m3
      have hx := hx xs (SqL.of k1)
      have hy := hy ys (SqL.of k2)
      rw [n1] at hx
      rw [n3] at hy
      cases hx
      cases hy
      have g4 := Gr.new (o := .tup [x, y]) w hT
      exact ⟨_, g4, .tup upd_same (.cons (rp_mono g4.b (rp_mono e1 n2)) (.cons (rp_mono g4.b (rp_mono e1 n4)) .nil))⟩
    · obtain ⟨a, xs, rfl, h1, h2⟩ := rp_tup r'
      obtain ⟨b, ys, rfl, h3, h4⟩ := rp_tup r2
      refine ⟨a, b, xs, ys, rfl, .inr ⟨SqT.of (g2.w.sub _ _ h1), SqT.of (g2.w.sub _ _ h3), he _ B2 H2 gg fun i B1 H1 e1 w => ?_⟩⟩
      have k1 : H1 a = some (.tup xs) := w.sub _ _ (e1 _ _ h1)
      have k2 : H1 b = some (.tup ys) := w.sub _ _ (e1 _ _ h3)
      refine ⟨fun hi => ⟨xs, ys, SqT.of k1, SqT.of k2, by rw [rpa_len h2, rpa_len h4]; rw [zipD_len] at hi; omega⟩, fun d hd' => ?_⟩
      obtain ⟨p, q, m1, m2, m3⟩ := zipD_get hd'
      obtain ⟨x, n1, n2⟩ := rpa_get h2 m1
      obtain ⟨y, n3, n4⟩ := rpa_get h4 m2
      refine ⟨⟨xs, ys, x, y, SqT.of k1, SqT.of k2, n1, n3⟩, fun z H3 ⟨T, x', y', e2, hT, e3, hx, hy⟩ => ?_⟩
      subst e2 e3 m3
      have hx := hx xs (SqT.of k1)
      have hy := hy ys (SqT.of k2)
      rw [n1] at hx
      rw [n3] at hy
      cases hx
      cases hy
      have g4 := Gr.new (o := .tup [x, y]) w hT
      exact ⟨_, g4, .tup upd_same (.cons (rp_mono g4.b (rp_mono e1 n2)) (.cons (rp_mono g4.b (rp_mono e1 n4)) .nil))⟩
end
end DL
namespace DL
open PySem L2 PyProof.Rows
/-! ### bags: none; a list of a list of ints and two ints -/
def noBag (a : Addr) : Bg := ⟨a, fun _ => False, fun _ => True, fun _ _ _ _ => trivial⟩
/-- the bag's words -/
structure BagW (pb pc : Addr) (H : Hp) (cs : List Int) (d m : Int) : Prop where
  ne : pb ≠ pc
  b : H pb = some (.lst [.ref pc, .int d, .int m])
  c : H pc = some (.lst (cs.map V.int))
  cs0 : ∀ x ∈ cs, 0 ≤ x
  d0 : 0 ≤ d
  m0 : 0 ≤ m
  m1 : m < 2147483647
def lstBag (pb pc : Addr) : Bg where
  pb := pb
  mem := fun a => a = pb ∨ a = pc
  ok := fun H => ∃ cs d m, BagW pb pc H cs d m
  loc := fun H H' k ⟨cs, d, m, w⟩ => ⟨cs, d, m, w.ne, by rw [k pb (.inl rfl)]; exact w.b, by rw [k pc (.inr rfl)]; exact w.c, w.cs0, w.d0, w.m0, w.m1⟩
def IsLst (c : C) : Prop := ∃ pb pc, c.toBg = lstBag pb pc
theorem IsLst.up {c : C} (h : IsLst c) : ∀ B1 H1, IsLst { c with B0 := B1, H0 := H1 } := fun _ _ => h
/-- the bag's own objects changed -/
theorem Gr.bag {c : C} {B H H' : Hp} (w : Wd c B H) (k : ∀ a, ¬ c.isBag a → H' a = H a) (h : ∀ a, c.isBag a → H' a ≠ none) (ok : c.ok H') : Gr c B H B H' := by
  refine ⟨Evl.Ex.refl B, fun a o n e => by rw [k a n]; exact e, fun _ _ => rfl, fun a o e => ?_, w.bag.out, h, ok⟩
  rw [k a (w.nb e)]; exact w.sub a o e
/-! ### ints read without a change -/
abbrev RI := St → Hp → Int → Prop
structure PI (X : Cx) (e : Expr) (f : RI) : Prop where
  pe : PE X e (fun σ H Q => ∃ i, f σ H i ∧ Q (.int i) H)
section
variable {X : Cx}
theorem PI.of {e : Expr} {f : RI} {t : TE} (h : PE X e t) (w : ∀ σ H Q i, f σ H i → Q (.int i) H → t σ H Q) : PI X e f := ⟨pe_weak h fun σ H Q ⟨i, h1, h2⟩ => w σ H Q i h1 h2⟩
theorem pi_nm (i : Nat) {x : Str} {pos : Pos} (hN : X.N[i]? = some x := by rfl) (hv : Vis X.env.scope x := by first | exact Or.inl rfl | exact Or.inr (Or.inl rfl) | exact Or.inr (Or.inr rfl))
    (hd : (x == ("__debug__" : Str)) = false := by decide) (hcd : (x == ("__classdict__" : Str)) = false := by decide) : PI X (.Name x pos) (fun σ _ j => σ[i]? = some (some (.int j))) :=
  .of (pe_var hN hv hd hcd) fun σ H Q j h q => ⟨_, h, q⟩
theorem pi_c {i : Int} {j : Nat} {pos : Pos} : PI X (.Constant (.int i) j pos) (fun _ _ k => k = i) := .of pe_int fun σ H Q k h q => by
  subst h; exact q
theorem pi_bin {op : Operator} {C : Int → Int → Prop} {g : Int → Int → Int} {a b : Expr} {fa fb : RI} {pos : Pos} (ho : OpR X (binaryOp op) (rI C fun i j => .int (g i j))) (ha : PI X a fa) (hb : PI X b fb) :
    PI X (.BinOp a op b pos) (fun σ H k => ∃ i j, fa σ H i ∧ fb σ H j ∧ C i j ∧ k = g i j) :=
  .of (pe_op ho ha.pe hb.pe) fun σ H Q k ⟨i, j, h1, h2, h3, h4⟩ q => ⟨i, h1, j, h2, i, j, rfl, rfl, h3, by rw [h4] at q; exact q⟩
theorem iop_add : OpR X (binaryOp .Add) (rI (fun _ _ => True) fun i j => .int (i + j)) := rI0_I op_add
theorem pi_int {e : Expr} {f : RI} {p pos : Pos} (hm : X.mg "int" = none) (he : PI X e f) (hg : Gl X "int" := by rfl) (hs : starEach [e] X.env = (false, eval e X.env) :: starEach [] X.env := by rfl) (hpl : (backTo pos (starEach [] X.env)).any (·.1) = false := by rfl) :
    PI X (.Call (.Name "int" p) [e] [] pos) f :=
  .of (pe_callTy call_int1 hg hm (by decide +kernel) (pa_cons he.pe pa_nil hs) (by decide) (by decide) hs hpl) fun σ H Q k h q => ⟨k, h, .inl ⟨k, rfl, q⟩⟩
/-- bag[k], k ≥ 1 -/
theorem pi_bag (i : Nat) {x : Str} {k : Int} {jj : Nat} {p1 p2 pos : Pos} (hN : X.N[i]? = some x := by rfl) (hv : Vis X.env.scope x := by first | exact Or.inl rfl | exact Or.inr (Or.inl rfl) | exact Or.inr (Or.inr rfl))
    (hd : (x == ("__debug__" : Str)) = false := by decide) (hcd : (x == ("__classdict__" : Str)) = false := by decide) :
    PI X (.Subscript (.Name x p1) (.Constant (.int k) jj p2) pos) (fun σ H j => ∃ p xs, σ[i]? = some (some (.ref p)) ∧ H p = some (.lst xs) ∧ atI xs k = some (.int j)) :=
  .of (pe_ix ix_seq (pe_var hN hv hd hcd) pe_int (fun _ _ => rfl)) fun σ H Q j ⟨p, xs, h1, h2, h3⟩ q => ⟨_, h1, .inl ⟨p, xs, k, .int j, rfl, rfl, SqL.of h2, h3, q⟩⟩
/-- a test of two ints -/
theorem pt_i {op : CmpOp} {g : Int → Int → Bool} {a b : Expr} {fa fb : RI} {pos : Pos} (ho : OpR X (compareOp op) (rI0 fun i j => .bl (g i j))) (ha : PI X a fa) (hb : PI X b fb) (hm : behindInMarks op b = false := by first | exact nomark _ | rfl) :
    PT X (.Compare a [op] [b] pos) (fun σ H Q => ∃ i j, fa σ H i ∧ fb σ H j ∧ Q (g i j) H) := by
  refine pt_weak (pt_cmpR ho ha.pe hb.pe hm) fun σ H Q ⟨i, j, h1, h2, h3⟩ => ?_
  exact ⟨i, h1, j, h2, i, j, rfl, rfl, _, rfl, h3⟩
theorem iop_eq : OpR X (compareOp .Eq) (rI0 fun i j => .bl (decide (i = j))) := opr_weak op_eq fun x y H Q ⟨i, j, e1, e2, q⟩ => by
  subst e1 e2
  refine ⟨rfl, ?_⟩
  have e : decide (V.int i = V.int j) = decide (i = j) := by simp
  rw [e]; exact q
/-- bag[0], a list of ints, is not [] -/
theorem shaped_ints : ∀ cs : List Int, SeqAt.shaped (.list (cs.map PyData.int)) = true := by
  intro cs
  have h1 : ∀ cs : List Int, PyData.canLayAll0 (cs.map PyData.int) = true := fun cs => by
    induction cs with
    | nil => rfl
    | cons c cs ih => simp [PyData.canLayAll0, PyData.canLay0, ih]
  have h2 : ∀ cs : List Int, PyData.depthAll (cs.map PyData.int) ≤ 1 := fun cs => by
    induction cs with
    | nil => simp [PyData.depthAll]
    | cons c cs ih => simp [PyData.depthAll, PyData.depth, ih]
  have := h2 cs
  have e : (PyData.list (cs.map PyData.int)).depth ≤ 64 := by
    simp only [PyData.depth]
    omega
  unfold SeqAt.shaped
  rw [decide_eq_true e]
  simp only [PyData.canLay0, h1, Bool.and_self]
theorem dp_ints {K : PySem.W.Frag} {H : Hp} {p : Addr} {cs : List Int} (h : H p = some (.lst (cs.map V.int))) : Dp K H (.ref p) (.list (cs.map PyData.int)) :=
  rp_dp (B := H) (.lst h (rpa_of_ints cs)) (SeqAt.canLay_of_shaped (shaped_ints cs))
theorem eqv_nil (cs : List Int) : (!PyData.eqv (.list (cs.map PyData.int)) (.list [])) = !cs.isEmpty := by
  cases cs <;> simp [PyData.eqv, PyData.eqvAll]
theorem pt_full (i : Nat) {x : Str} {j0 : Nat} {p1 p2 p3 p4 pos : Pos} (hu : X.A.units + 64 < cLine) (hN : X.N[i]? = some x := by rfl) (hv : Vis X.env.scope x := by first | exact Or.inl rfl | exact Or.inr (Or.inl rfl) | exact Or.inr (Or.inr rfl))
    (hd : (x == ("__debug__" : Str)) = false := by decide) (hcd : (x == ("__classdict__" : Str)) = false := by decide) :
    PT X (.Compare (.Subscript (.Name x p1) (.Constant (.int 0) j0 p2) p3) [.NotEq] [.List [] p4] pos)
      (fun σ H Q => ∃ p xs q, ∃ cs : List Int, σ[i]? = some (some (.ref p)) ∧ H p = some (.lst xs) ∧ atI xs 0 = some (.ref q) ∧ H q = some (.lst (cs.map V.int)) ∧ ∀ H', (∀ a, H a ≠ none → H' a = H a) → Q (!cs.isEmpty) H') := by
  refine pt_weak (pt_cmpR (op_neD hu) (pe_ix ix_seq (pe_var hN hv hd hcd) pe_int (fun _ _ => rfl)) (pe_lst pa_nil) (by rfl)) fun σ H Q ⟨p, xs, q, cs, h1, h2, h3, h4, k⟩ => ?_
  refine ⟨_, h1, .inl ⟨p, xs, 0, .ref q, rfl, rfl, SqL.of h2, h3, ?_⟩⟩
  refine ⟨by decide, fun l hl => ?_⟩
  have nq : q ≠ l := ne_of_none h4 hl
  refine ⟨_, _, dp_ints (cs := cs) (by rw [upd_ne nq]; exact h4), dp_ints (cs := []) upd_same, shaped_ints cs, shaped_ints [], _, rfl, ?_⟩
  rw [show (List.map PyData.int ([] : List Int)) = [] from rfl, eqv_nil]
  exact k _ fun a ha => upd_ne fun z => ha (by rw [z]; exact hl)
/-- bag[k] = e -/
theorem ps_bag (i : Nat) {x : Str} {e : Expr} {f : RI} {k : Int} {j0 : Nat} {p1 p2 p3 pos : Pos} (he : PI X e f) (hN : X.N[i]? = some x := by rfl) (hv : Vis X.env.scope x := by first | exact Or.inl rfl | exact Or.inr (Or.inl rfl) | exact Or.inr (Or.inr rfl))
    (hd : (x == ("__debug__" : Str)) = false := by decide) (hcd : (x == ("__classdict__" : Str)) = false := by decide)
    (ha : ∀ v, assign (.Subscript (.Name x p1) (.Constant (.int k) j0 p2) p3) X.env v = (do
      let ov ← holding [v] (eval (.Name x p1) X.env)
      let iv ← holding [v, ov] (eval (.Constant (.int k) j0 p2) X.env)
      standAt p3
      holding [v, ov, iv] (setItem ov iv v)
      release [v, ov, iv] []) := by intro _; rfl)
    (hs : swapsWithSole [.Subscript (.Name x p1) (.Constant (.int k) j0 p2) p3] e pos.line X.env = pure false := by rfl) (hw : swappedStores [.Subscript (.Name x p1) (.Constant (.int k) j0 p2) p3] e X.env = pure none := by rfl)
    (h1 : (assignEach [.Subscript (.Name x p1) (.Constant (.int k) j0 p2) p3] X.env).map (·.2) = [assign (.Subscript (.Name x p1) (.Constant (.int k) j0 p2) p3) X.env] := by rfl) :
    PS X (.Assign [.Subscript (.Name x p1) (.Constant (.int k) j0 p2) p3] e pos) (fun D σ H => ∃ v p xs j, f σ H v ∧ σ[i]? = some (some (.ref p)) ∧ H p = some (.lst xs) ∧ ixN xs.length k = some j ∧ D.nx σ (upd H p (.lst (xs.set j (.int v))))) :=
  ps_weak (ps_asg he.pe (pg_sub (pe_var hN hv hd hcd) pe_int set_list ha) hs hw h1) fun D σ H ⟨v, p, xs, j, q1, q2, q3, q4, q⟩ => ⟨v, q1, _, q2, p, xs, k, j, rfl, rfl, q3, q4, q⟩
/-- cell = bag[0].pop() -/
theorem ps_bagPop (i j : Nat) {x y : Str} {j0 : Nat} {p0 p1 p2 p3 p4 p5 pos : Pos} (hNd : X.N.Nodup) (hN : X.N[i]? = some x := by rfl) (hv : Vis X.env.scope x := by first | exact Or.inl rfl | exact Or.inr (Or.inl rfl) | exact Or.inr (Or.inr rfl))
    (hd : (x == ("__debug__" : Str)) = false := by decide) (hcd : (x == ("__classdict__" : Str)) = false := by decide) (hj : X.N[j]? = some y := by rfl) (hy : Loc X.env.scope y := by first | exact Or.inl rfl | exact Or.inr rfl)
    (hf : X.fn y = true ∨ X.env.scope.names.lookup y = some .local := by first | exact .inl rfl | exact .inr rfl | assumption)
    (hbase : attributeBase (.Subscript (.Name x p1) (.Constant (.int 0) j0 p2) p3) "pop" X.env (eval (.Subscript (.Name x p1) (.Constant (.int 0) j0 p2) p3) X.env) = eval (.Subscript (.Name x p1) (.Constant (.int 0) j0 p2) p3) X.env := by rfl) (hline : (p4.endLine == p5.line) = true := by rfl)
    (hs : swapsWith (.Call (.Attribute (.Subscript (.Name x p1) (.Constant (.int 0) j0 p2) p3) "pop" p4) [] [] p5) (some (.Name y p0)) pos.line X.env = pure false := by rfl) :
    PS X (.Assign [.Name y p0] (.Call (.Attribute (.Subscript (.Name x p1) (.Constant (.int 0) j0 p2) p3) "pop" p4) [] [] p5) pos)
      (fun D σ H => ∃ p xs q ys v, σ[i]? = some (some (.ref p)) ∧ H p = some (.lst xs) ∧ atI xs 0 = some (.ref q) ∧ H q = some (.lst ys) ∧ ys[ys.length - 1]? = some v ∧ D.nx (σ.set j (some v)) (upd H q (.lst ys.dropLast))) :=
  ps_weak (ps_set hNd hj hy (pe_bm0 PySem.F.plainAttrs_list PySem.F.slot_list_pop PySem.F.type_list_pop mt_pop (pe_ix ix_seq (pe_var hN hv hd hcd) pe_int (fun _ _ => rfl)) hbase hline) hs hf) fun D σ H ⟨p, xs, q, ys, v, q1, q2, q3, q4, q5, k⟩ =>
    ⟨_, q1, .inl ⟨p, xs, 0, .ref q, rfl, rfl, SqL.of q2, q3, .inl ⟨rfl, ys, SqL.of q4⟩, q, ys, v, rfl, rfl, q4, q5, k⟩⟩
theorem pi_if {cc a b : Expr} {t : TT} {fa fb : RI} {pos : Pos} {r : St → Hp → Bool → Prop} (hc : PT X cc t) (w : ∀ σ H b Q, r σ H b → Q b H → t σ H Q) (ha : PI X a fa) (hb : PI X b fb) :
    PI X (.IfExp cc a b pos) (fun σ H i => ∃ k, r σ H k ∧ (if k = true then fa σ H i else fb σ H i)) :=
  .of (pe_ifExp hc ha.pe hb.pe) fun σ H Q i ⟨k, h1, h2⟩ q => w _ _ _ _ h1 (by
    cases k with
    | true => exact ⟨i, h2, q⟩
    | false => exact ⟨i, h2, q⟩)
theorem ps_retI {e : Expr} {f : RI} {pos : Pos} (he : PI X e f) : PS X (.Return (some e) pos) (fun D σ H => ∃ i, f σ H i ∧ D.rt (.int i) H) := ps_weak (ps_ret he.pe) fun D σ H h => h
theorem ps_setI (i : Nat) {x : Str} {e : Expr} {f : RI} {pos pos' : Pos} (hN : X.N.Nodup) (he : PI X e f) (hi : X.N[i]? = some x := by rfl) (hx : Loc X.env.scope x := by first | exact Or.inl rfl | exact Or.inr rfl)
    (hs : swapsWith e (some (.Name x pos')) pos.line X.env = pure false := by rfl) (hf : X.fn x = true ∨ X.env.scope.names.lookup x = some .local := by first | exact .inl rfl | exact .inr rfl | assumption) :
    PS X (.Assign [.Name x pos'] e pos) (fun D σ H => ∃ v, f σ H v ∧ D.nx (σ.set i (some (.int v))) H) := ps_weak (ps_set hN hi hx he.pe hs hf) fun D σ H ⟨v, h1, h2⟩ => ⟨v, h1, h2⟩
end
/-! ### the draw -/
abbrev rBg (k : Int) : RI := fun σ H j => ∃ p xs, σ[0]? = some (some (.ref p)) ∧ H p = some (.lst xs) ∧ atI xs k = some (.int j)
abbrev rNm (i : Nat) : RI := fun σ _ j => σ[i]? = some (some (.int j))
abbrev rK (i : Int) : RI := fun _ _ k => k = i
abbrev rBin (C : Int → Int → Prop) (g : Int → Int → Int) (fa fb : RI) : RI := fun σ H k => ∃ i j, fa σ H i ∧ fb σ H j ∧ C i j ∧ k = g i j
abbrev rMul := rBin CMulW fun i j => i * j
abbrev rAdd := rBin (fun _ _ => True) fun i j => i + j
abbrev rMod := rBin (fun _ j => 0 < j) fun i j => i % j
def CDv (i j : Int) : Prop := 0 < j ∧ j.natAbs.log2 < 9000
theorem iop_div {X : Cx} : OpR X (binaryOp .FloorDiv) (rI CDv fun i j => .int (i / j)) := opr_weak op_fdivA fun x y H Q ⟨i, j, e1, e2, h, q⟩ => by
  refine ⟨i, j, e1, e2, ⟨by have := h.1; omega, h.2⟩, ?_⟩
  show Q (V.int (i.fdiv j)) H
  rw [Int.fdiv_eq_ediv_of_nonneg _ (Int.le_of_lt h.1)]
  exact q
abbrev rDiv := rBin CDv fun i j => i / j
abbrev rPow := rBin CPow fun i j => i ^ j.toNat
abbrev tIt (g : Int → Int → Bool) (fa fb : RI) : TT := fun σ H Q => ∃ i j, fa σ H i ∧ fb σ H j ∧ Q (g i j) H
abbrev tFull : TT := fun σ H Q => ∃ p xs q, ∃ cs : List Int, σ[0]? = some (some (.ref p)) ∧ H p = some (.lst xs) ∧ atI xs 0 = some (.ref q) ∧ H q = some (.lst (cs.map V.int)) ∧ ∀ H', (∀ a, H a ≠ none → H' a = H a) → Q (!cs.isEmpty) H'
abbrev tPut (k : Int) (f : RI) : TS := fun D σ H => ∃ v p xs j, f σ H v ∧ σ[0]? = some (some (.ref p)) ∧ H p = some (.lst xs) ∧ ixN xs.length k = some j ∧ D.nx σ (upd H p (.lst (xs.set j (.int v))))
abbrev tPopB : TS := fun D σ H => ∃ p xs q ys v, σ[0]? = some (some (.ref p)) ∧ H p = some (.lst xs) ∧ atI xs 0 = some (.ref q) ∧ H q = some (.lst ys) ∧ ys[ys.length - 1]? = some v ∧ D.nx (σ.set 2 (some v)) (upd H q (.lst ys.dropLast))
abbrev rIfI (g : Int → Int → Bool) (c1 c2 fa fb : RI) : RI := fun σ H i => ∃ k, (∃ x y, c1 σ H x ∧ c2 σ H y ∧ k = g x y) ∧ (if k = true then fa σ H i else fb σ H i)
abbrev tSetI (i : Nat) (f : RI) : TS := fun D σ H => ∃ v, f σ H v ∧ D.nx (σ.set i (some (.int v))) H
abbrev tRetI (f : RI) : TS := fun D σ H => ∃ i, f σ H i ∧ D.rt (.int i) H
abbrev gEqI (i j : Int) : Bool := decide (i = j)
abbrev gGtI (i j : Int) : Bool := decide (j < i)
def tDraw (a b q : Int) : TS :=
  tSeq (tWhile (tAnd (tIt gEqI (rBg 1) (rK 0)) tFull) (tSeq tPopB (tPut 1 (rIfI gGtI (rNm 2) (rPow (rK 10) (rK 9)) (rNm 2) (rK 0)))))
    (tSeq (tIfS (tIt gGtI (rBg 1) (rK 0)) (tSeq (tSetI 3 (rMod (rBg 1) (rNm 1))) (tSeq (tPut 1 (rDiv (rBg 1) (rNm 1))) (tRetI (rNm 3)))) tNext)
      (tSeq (tPut 2 (rMod (rAdd (rMul (rBg 2) (rK a)) (rK b)) (rK 2147483647))) (tRetI (rMod (rDiv (rMod (rMul (rBg 2) (rBg 2)) (rK 2147483629)) (rK q)) (rNm 1)))))
def spDraw : Spec := fun ss Q => ∃ n : Int, ss = [.bg, .sh (.int n)] ∧ 0 < n ∧ n.natAbs.log2 < 9000 ∧ ∀ r : Int, 0 ≤ r → r < n → Q (.int r)
/-! what the draw does -/
theorem BagW.keep {pb pc : Addr} {H H' : Hp} {cs : List Int} {d m : Int} (w : BagW pb pc H cs d m) (k : ∀ a, H a ≠ none → H' a = H a) : BagW pb pc H' cs d m :=
  ⟨w.ne, by rw [k _ (by rw [w.b]; exact fun z => nomatch z)]; exact w.b, by rw [k _ (by rw [w.c]; exact fun z => nomatch z)]; exact w.c, w.cs0, w.d0, w.m0, w.m1⟩
theorem BagW.put1 {pb pc : Addr} {H : Hp} {cs : List Int} {d m : Int} (w : BagW pb pc H cs d m) {e : Int} (he : 0 ≤ e) : BagW pb pc (upd H pb (.lst ([V.ref pc, .int d, .int m].set 1 (.int e)))) cs e m :=
  ⟨w.ne, upd_same, by rw [upd_ne (Ne.symm w.ne)]; exact w.c, w.cs0, he, w.m0, w.m1⟩
theorem BagW.put2 {pb pc : Addr} {H : Hp} {cs : List Int} {d m : Int} (w : BagW pb pc H cs d m) {e : Int} (he : 0 ≤ e) (h1 : e < 2147483647) : BagW pb pc (upd H pb (.lst ([V.ref pc, .int d, .int m].set 2 (.int e)))) cs d e :=
  ⟨w.ne, upd_same, by rw [upd_ne (Ne.symm w.ne)]; exact w.c, w.cs0, w.d0, he, h1⟩
theorem BagW.pop {pb pc : Addr} {H : Hp} {cs : List Int} {d m : Int} (w : BagW pb pc H cs d m) : BagW pb pc (upd H pc (.lst (cs.map V.int).dropLast)) cs.dropLast d m :=
  ⟨w.ne, by rw [upd_ne w.ne]; exact w.b, by rw [upd_same, List.map_dropLast], fun x hx => w.cs0 x (List.dropLast_subset _ hx), w.d0, w.m0, w.m1⟩
theorem getLast_at {cs : List Int} (h : cs ≠ []) : ∃ x ∈ cs, (cs.map V.int)[(cs.map V.int).length - 1]? = some (.int x) := by
  refine ⟨cs.getLast h, List.getLast_mem h, ?_⟩
  rw [List.length_map, List.getElem?_map, ← List.getLast?_eq_getElem?, List.getLast?_eq_getLast h]
  rfl
/-- between two states: only the bag's objects have changed, and new ones came -/
def BagTo (pb pc : Addr) (H H' : Hp) : Prop := ∀ a, a ≠ pb → a ≠ pc → H a ≠ none → H' a = H a
theorem BagTo.refl {pb pc : Addr} {H : Hp} : BagTo pb pc H H := fun _ _ _ _ => rfl
theorem BagTo.keep {pb pc : Addr} {H H1 H2 : Hp} (t : BagTo pb pc H H1) (k : ∀ a, H1 a ≠ none → H2 a = H1 a) : BagTo pb pc H H2 := fun a h1 h2 h3 => by
  have e := t a h1 h2 h3
  rw [k a (by rw [e]; exact h3), e]
theorem BagTo.pb {pb pc : Addr} {H H1 : Hp} {o : HO} (t : BagTo pb pc H H1) : BagTo pb pc H (upd H1 pb o) := fun a h1 h2 h3 => by rw [upd_ne h1]; exact t a h1 h2 h3
theorem BagTo.pc {pb pc : Addr} {H H1 : Hp} {o : HO} (t : BagTo pb pc H H1) : BagTo pb pc H (upd H1 pc o) := fun a h1 h2 h3 => by rw [upd_ne h2]; exact t a h1 h2 h3
theorem draw_run {a b q n : Int} {pb pc : Addr} {D : Ends} {σ : L2.St} {H : Hp} {cs : List Int} {d m : Int} (hq : 0 < q ∧ q < 1000) (ha : 0 ≤ a ∧ a < 4294967296) (hb : 0 ≤ b) (hn : 0 < n) (hn2 : n.natAbs.log2 < 9000)
    (w : BagW pb pc H cs d m) (h0 : σ[0]? = some (some (.ref pb))) (h1 : σ[1]? = some (some (.int n))) (hl : σ.length = 4)
    (h : ∀ r : Int, 0 ≤ r → r < n → ∀ H', BagTo pb pc H H' → (∃ cs d m, BagW pb pc H' cs d m) → D.rt (.int r) H') : tDraw a b q D σ H := by
  have ml : ∀ {x y : Int}, 0 ≤ x → x < 4294967296 → 0 ≤ y → y < 4294967296 → CMulW x y := fun {x y} g1 g2 g3 g4 =>
    wide_mul (a := 32) (b := 32) (by omega) (by omega) (by decide) (by decide) (by decide)
  refine ⟨fun k σ' H' => σ'[0]? = some (some (.ref pb)) ∧ σ'[1]? = some (some (.int n)) ∧ σ'.length = 4 ∧ BagTo pb pc H H' ∧ ∃ cs d m, BagW pb pc H' cs d m ∧ cs.length = k, ⟨cs.length, h0, h1, hl, BagTo.refl, cs, d, m, w, rfl⟩, ?_⟩
  rintro k σ1 H1 ⟨g0, g1, gl, gt, cs, d, m, w, rfl⟩
  -- what comes behind the loop
  have rest : ∀ {H2 : Hp} {cs : List Int} {d m : Int} {σ1 : L2.St}, σ1[0]? = some (some (.ref pb)) → σ1[1]? = some (some (.int n)) → σ1.length = 4 → BagTo pb pc H H2 → BagW pb pc H2 cs d m →
      (tSeq (tIfS (tIt gGtI (rBg 1) (rK 0)) (tSeq (tSetI 3 (rMod (rBg 1) (rNm 1))) (tSeq (tPut 1 (rDiv (rBg 1) (rNm 1))) (tRetI (rNm 3)))) tNext)
      (tSeq (tPut 2 (rMod (rAdd (rMul (rBg 2) (rK a)) (rK b)) (rK 2147483647))) (tRetI (rMod (rDiv (rMod (rMul (rBg 2) (rBg 2)) (rK 2147483629)) (rK q)) (rNm 1))))) D σ1 H2 := by
    intro H2 cs d m σ1 g0 g1 gl gt w
    have b1 : rBg 1 σ1 H2 d := ⟨pb, _, g0, w.b, rfl⟩
    have b2 : rBg 2 σ1 H2 m := ⟨pb, _, g0, w.b, rfl⟩
    refine ⟨d, 0, b1, rfl, ?_⟩
    by_cases hd : 0 < d
    · rw [show gGtI d 0 = true from decide_eq_true hd]; dsimp only; rw [if_pos rfl]
      have r0 := Int.emod_nonneg d (Int.ne_of_gt hn)
      have r1 := Int.emod_lt_of_pos d hn
      refine ⟨d % n, ⟨d, n, b1, g1, hn, rfl⟩, ?_⟩
      have s0 : (σ1.set 3 (some (.int (d % n))))[0]? = some (some (.ref pb)) := by rw [List.getElem?_set_ne (by decide)]; exact g0
      have s1 : (σ1.set 3 (some (.int (d % n))))[1]? = some (some (.int n)) := by rw [List.getElem?_set_ne (by decide)]; exact g1
      refine ⟨d / n, pb, _, 1, ⟨d, n, ⟨pb, _, s0, w.b, rfl⟩, s1, ⟨hn, hn2⟩, rfl⟩, s0, w.b, rfl, ?_⟩
      refine ⟨d % n, ?_, h _ r0 r1 _ gt.pb ⟨cs, _, _, w.put1 (Int.ediv_nonneg w.d0 (Int.le_of_lt hn))⟩⟩
      show (σ1.set 3 (some (.int (d % n))))[3]? = _
      rw [List.getElem?_set_self (by omega)]
    · rw [show gGtI d 0 = false from decide_eq_false hd]; dsimp only; rw [if_neg (by decide)]
      have m0 := w.m0
      have m1 := w.m1
      have n0 := Int.emod_nonneg (m * a + b) (b := 2147483647) (by decide)
      have n1 := Int.emod_lt_of_pos (m * a + b) (b := 2147483647) (by decide)
      refine ⟨(m * a + b) % 2147483647, pb, _, 2, ⟨_, _, ⟨m * a, b, ⟨m, a, b2, rfl, ml m0 (by omega) ha.1 ha.2, rfl⟩, rfl, trivial, rfl⟩, rfl, show (0 : Int) < 2147483647 by decide, rfl⟩, g0, w.b, rfl, ?_⟩
      have w2 := w.put2 n0 n1
      generalize (m * a + b) % 2147483647 = z at n0 n1 w2
      have b3 : rBg 2 σ1 (upd H2 pb (.lst ([V.ref pc, .int d, .int m].set 2 (.int z)))) z := ⟨pb, _, g0, w2.b, rfl⟩
      have q0 : (0 : Int) < q := hq.1
      refine ⟨z * z % 2147483629 / q % n, ⟨_, n, ⟨_, q, ⟨_, _, ⟨z, z, b3, b3, ml n0 (by omega) n0 (by omega), rfl⟩, rfl, show (0 : Int) < 2147483629 by decide, rfl⟩, rfl, ⟨q0, ?_⟩, rfl⟩, g1, hn, rfl⟩, ?_⟩
      · have : q.natAbs < 2 ^ 10 := by omega
        by_cases z0 : q.natAbs = 0
        · rw [z0]; decide
        · exact Nat.lt_trans ((Nat.log2_lt z0).mpr this) (by decide)
      · exact h _ (Int.emod_nonneg _ (Int.ne_of_gt hn)) (Int.emod_lt_of_pos _ hn) _ gt.pb ⟨_, _, _, w2⟩
  refine ⟨d, 0, ⟨pb, _, g0, w.b, rfl⟩, rfl, ?_⟩
  by_cases hd : d = 0
  · rw [show gEqI d 0 = true from decide_eq_true hd]; dsimp only; rw [if_pos rfl]
    refine ⟨pb, _, pc, cs, g0, w.b, rfl, w.c, fun H2 k2 => ?_⟩
    have w2 := w.keep k2
    by_cases hc : cs = []
    · subst hc
      exact rest g0 g1 gl (gt.keep k2) w2
    · rw [show (!cs.isEmpty) = true by cases cs <;> first | exact absurd rfl hc | rfl]; dsimp only; rw [if_pos rfl]
      refine ⟨fun σ' H' => σ'[0]? = some (some (.ref pb)) ∧ σ'[1]? = some (some (.int n)) ∧ σ'.length = 4 ∧ BagTo pb pc H H' ∧ ∃ cs' d m, BagW pb pc H' cs' d m ∧ cs'.length < cs.length, fun σ' H' ⟨a0, a1, a2, a3, cs', d', m', a4, a5⟩ => ⟨_, a5, a0, a1, a2, a3, cs', d', m', a4, rfl⟩, ?_⟩
      obtain ⟨x, hx, hx2⟩ := getLast_at hc
      refine ⟨pb, _, pc, _, .int x, g0, w2.b, rfl, w2.c, hx2, ?_⟩
      have s0 : (σ1.set 2 (some (.int x)))[0]? = some (some (.ref pb)) := by rw [List.getElem?_set_ne (by decide)]; exact g0
      have s1 : (σ1.set 2 (some (.int x)))[1]? = some (some (.int n)) := by rw [List.getElem?_set_ne (by decide)]; exact g1
      have s2 : (σ1.set 2 (some (.int x)))[2]? = some (some (.int x)) := List.getElem?_set_self (by omega)
      have w3 := w2.pop
      have x0 := w2.cs0 x hx
      have len : cs.dropLast.length < cs.length := by
        rw [List.length_dropLast]
        have : 0 < cs.length := List.length_pos_iff.mpr hc
        omega
      refine ⟨if 10 ^ (9 : Int).toNat < x then x else 0, pb, _, 1, ⟨gGtI x (10 ^ (9 : Int).toNat), ⟨x, _, s2, ⟨10, 9, rfl, rfl, ⟨by decide, by decide, by decide⟩, rfl⟩, rfl⟩, ?_⟩, s0, w3.b, rfl, s0, s1, by rw [List.length_set]; exact gl, (gt.keep k2).pc.pb, _, _, _, w3.put1 ?_, len⟩
      · unfold gGtI
        by_cases e : (10 : Int) ^ (9 : Int).toNat < x
        · rw [decide_eq_true e, if_pos rfl, if_pos e]; exact s2
        · rw [decide_eq_false e, if_neg (by decide), if_neg e]
      · split
        · exact x0
        · exact Int.le_refl 0
  · rw [show gEqI d 0 = false from decide_eq_false hd]; dsimp only; rw [if_neg (by decide)]
    exact rest g0 g1 gl gt w
theorem BagTo.gr {c : C} {B H H' : Hp} {pb pc : Addr} (w : Wd c B H) (hc : c.toBg = lstBag pb pc) (t : BagTo pb pc H H') (k : ∃ cs d m, BagW pb pc H' cs d m) : Gr c B H B H' := by
  have hm : ∀ a, c.isBag a ↔ (a = pb ∨ a = pc) := fun a => by
    unfold C.isBag
    rw [hc]; exact Iff.rfl
  have hok : c.ok H' := by rw [hc]; exact k
  refine ⟨Evl.Ex.refl B, fun a o n e => ?_, fun _ _ => rfl, fun a o e => ?_, w.bag.out, fun a ha => ?_, hok⟩
  · rw [t a (fun z => n ((hm a).mpr (.inl z))) (fun z => n ((hm a).mpr (.inr z))) (by rw [e]; exact fun z => nomatch z)]; exact e
  · have n := w.nb e
    have e' := w.sub a o e
    rw [t a (fun z => n ((hm a).mpr (.inl z))) (fun z => n ((hm a).mpr (.inr z))) (by rw [e']; exact fun z => nomatch z)]; exact e'
  · obtain ⟨cs, d, m, v⟩ := k
    rcases (hm a).mp ha with z | z
    · rw [z, v.b]; exact fun q => nomatch q
    · rw [z, v.c]; exact fun q => nomatch q
def gDraw : SS := fun D ρ => ∃ n : Int, ρ = [.bg, .sh (.int n), .un, .un] ∧ 0 < n ∧ n.natAbs.log2 < 9000 ∧ ∀ r : Int, 0 ≤ r → r < n → D.rt (.int r)
theorem mono_Draw : MonoS gDraw := fun D D' ρ l ⟨n, h1, h2, h3, h4⟩ => ⟨n, h1, h2, h3, fun r a b => l.rt _ (h4 r a b)⟩
theorem draw_ss {X : Cx} {c : C} {sts : List Stmt} {a b q : Int} (hG : IsLst c) (hq : 0 < q ∧ q < 1000) (ha : 0 ≤ a ∧ a < 4294967296) (hb : 0 ≤ b) (h : PSs X sts (tDraw a b q)) : PSsd X c sts gDraw := by
  obtain ⟨pb, pc, hc⟩ := hG
  refine ⟨mono_Draw, pss_weak h fun D σ H ⟨B, ρ, ok, n, e1, h2, h3, h4⟩ => ?_⟩
  subst e1
  have s0 : SlOk c B H σ 0 .bg := ok.sl 0 _ rfl
  obtain ⟨v, s1, s2⟩ : SlOk c B H σ 1 (.sh (.int n)) := ok.sl 1 _ rfl
  rw [rp_int s2] at s1
  have s0' : σ[0]? = some (some (.ref c.pb)) := s0
  have hp : c.pb = pb := by
    have : c.toBg.pb = (lstBag pb pc).pb := by rw [hc]
    exact this
  rw [hp] at s0'
  have okk : c.ok H := ok.w.bag.ok
  rw [hc] at okk
  obtain ⟨cs, d, m, w⟩ : ∃ cs d m, BagW pb pc H cs d m := okk
  exact draw_run hq ha hb h2 h3 w s0' s1 (by rw [← ok.len]; rfl) fun r r0 r1 H' t k => h4 r r0 r1 _ B H' (ok.g.trans ok.w0 (t.gr ok.w hc k)) (.int r)
theorem spDraw_mono : ∀ ss (Q Q' : D → Prop), (∀ d, Q d → Q' d) → spDraw ss Q → spDraw ss Q' := fun ss Q Q' k ⟨n, h1, h2, h3, h4⟩ => ⟨n, h1, h2, h3, fun r a b => k _ (h4 r a b)⟩
theorem spDraw_len : ∀ ss Q, spDraw ss Q → ss.length = 2 := fun ss Q ⟨n, h1, _⟩ => by rw [h1]; rfl
theorem spDraw_go {N : List Str} (hN : N.length = 4) : ∀ ss (Q : D → Prop), spDraw ss Q → gDraw (endsOf Q) (initE N ss) := fun ss Q ⟨n, h1, h2, h3, h4⟩ => ⟨n, by
  subst h1
  unfold initE
  rw [hN]; rfl, h2, h3, h4⟩
end DL
namespace DL
open PySem L2 PyProof.Rows
/-! ### the script, cut -/
def GOwn (K : PySem.W.Frag) (c : C) : Prop := ∃ ns : List Int, ns.length ≤ most ∧ SqL K c.H0 c.pb (ns.map V.int) ∧ ∀ a, ¬ c.isBag a
theorem sql_up {K : PySem.W.Frag} {H H' : Hp} {a : Addr} {xs : List V} (k : ∀ a o, H a = some o → H' a = some o) (h : SqL K H a xs) : SqL K H' a xs := by
  rcases h with h | h
  · rcases h with h | ⟨ob, h⟩
    · exact .inl (.inl (k _ _ h))
    · exact .inl (.inr ⟨ob, k _ _ h⟩)
  · exact .inr h
theorem cut_map {α β : Type} (f : α → β) (ns : List α) (lo hi : Option Int) : ∃ ms : List α, ms.length ≤ ns.length ∧ (((ns.map f).drop (HT.sIx (ns.map f).length 0 lo)).take (HT.sIx (ns.map f).length (ns.map f).length hi - HT.sIx (ns.map f).length 0 lo)) = ms.map f :=
  ⟨(ns.drop (HT.sIx (ns.map f).length 0 lo)).take (HT.sIx (ns.map f).length (ns.map f).length hi - HT.sIx (ns.map f).length 0 lo), by rw [List.length_take, List.length_drop]; omega, by rw [List.map_take, List.map_drop]⟩
/-- script[a:b] -/
def fScr : SL := fun ρ Q => lk ρ 0 = .bg ∧ ∀ ms : List Int, ms.length ≤ most → Q (ms.map PyData.int)
theorem n_script {X : Cx} {c : C} {x : Str} {p1 p2 pos : Pos} {lo hi : Option Expr} {l h : Option Int} (hG : GOwn X.K c) (hl : POd X c lo fun _ Q => Q l) (hh : POd X c hi fun _ Q => Q h) (hN : X.N[0]? = some x := by rfl) (hv : Vis X.env.scope x := by first | exact Or.inl rfl | exact Or.inr (Or.inl rfl) | exact Or.inr (Or.inr rfl))
    (hd : (x == ("__debug__" : Str)) = false := by decide) (hcd : (x == ("__classdict__" : Str)) = false := by decide) : PN X c (.Subscript (.Name x p1) (.Slice lo hi none p2) pos) fScr := by
  obtain ⟨ns, hl0, hS, hno⟩ := hG
  refine ⟨fun ρ Q Q' k ⟨h1, h2⟩ => ⟨h1, fun ms hm => k _ (h2 ms hm)⟩, pe_weak (pe_slice sl_list (pe_var hN hv hd hcd) hl.po hh.po) fun σ H Q ⟨B, ρ, ok, e, q⟩ => ?_⟩
  have s0 : SlOk c B H σ 0 .bg := ok.sl 0 _ (lk_get e fun z => nomatch z)
  refine ⟨.ref c.pb, s0, B, ρ, ok, fun B1 H1 g1 => ⟨B1, ρ, ok.mono g1, fun B2 H2 g2 => ?_⟩⟩
  have g := g1.trans ok.w g2
  have S2 : SqL X.K H2 c.pb (ns.map V.int) := sql_up (fun a o e => g.h a o (hno a) (ok.g.h a o (hno a) e)) hS
  refine ⟨c.pb, _, rfl, S2, fun t ht => ?_⟩
  obtain ⟨ms, hml, hm⟩ := cut_map V.int ns l h
  have e2 : cutV (ns.map V.int) l h = ms.map V.int := hm
  have g3 := Gr.newO (o := .lst (cutV (ns.map V.int) l h)) g.w ht
  refine q ms (Nat.le_trans hml hl0) t _ B2 _ (g.trans ok.w g3) (g.back ht) (Evl.fresh_back g.w.sub ht) upd_same ?_
  rw [e2]; exact rpa_of_ints ms
end DL
namespace DL
open PySem L2 PySem.Spec PyProof.Rows
/-- try: a body that raises nothing -/
theorem s_tryN {X : Cx} {c : C} {body : List Stmt} {h : ExceptHandler} {hs : List ExceptHandler} {f : SS} {pos : Pos} (hn : ∀ e s, ¬ X.xe e s) (hb : PSsd X c body f) : PSd X c (.Try body (h :: hs) [] [] pos) f :=
  ⟨hb.mono, ps_weak (ps_try_never (u := tNext) hn hb.ps pss_nil) fun D σ H q => q⟩
/-! ### the bag is made -/
def spOwn : Spec := fun ss Q => ss = [.bg] ∧ ∀ (cs : List Int) (m : Int), (∀ x ∈ cs, 0 ≤ x) → 0 ≤ m → m < 2147483647 → Q (.list [.list (cs.map PyData.int), .int 0, .int m])
theorem spOwn_mono : ∀ ss (Q Q' : D → Prop), (∀ d, Q d → Q' d) → spOwn ss Q → spOwn ss Q' := fun ss Q Q' k ⟨h1, h2⟩ => ⟨h1, fun cs m a b e => k _ (h2 cs m a b e)⟩
theorem spOwn_len : ∀ ss Q, spOwn ss Q → ss.length = 1 := fun ss Q ⟨h, _⟩ => by rw [h]; rfl
theorem bag_of {B H : Hp} {v : V} {cs : List Int} {m : Int} (x : Ex B H) (r : Rp B v (.list [.list (cs.map PyData.int), .int 0, .int m])) (h1 : ∀ x ∈ cs, 0 ≤ x) (h2 : 0 ≤ m) (h3 : m < 2147483647) : ∃ pb pc, v = .ref pb ∧ BagW pb pc H cs 0 m := by
  obtain ⟨pb, xs, rfl, e1, r1⟩ := rp_lst r
  cases r1 with
  | cons r1 r2 =>
    cases r2 with
    | cons r2 r3 =>
      cases r3 with
      | cons r3 r4 =>
        cases r4
        obtain ⟨pc, ys, rfl, e2, r5⟩ := rp_lst r1
        have e3 := rp_int r2
        have e4 := rp_int r3
        subst e3 e4
        have e5 := rpa_ints r5
        subst e5
        refine ⟨pb, pc, rfl, fun z => ?_, x _ _ e1, x _ _ e2, h1, Int.le_refl 0, h2, h3⟩
        subst z
        rw [e1] at e2
        cases cs with
        | nil => cases e2
        | cons c cs => cases e2
section
variable {X : Cx} {k : Nat} {f : Addr} {fd : FuncData} {ps : List Str}
def tOwn (K : PySem.W.Frag) : TE := fun σ H Q => ∃ a, ∃ ns : List Int, σ[0]? = some (some (.ref a)) ∧ ns.length ≤ most ∧ SqL K H a (ns.map V.int) ∧ ∀ pb pc cs m H', BagW pb pc H' cs 0 m → Q (.ref pb) H'
theorem pe_own {x y : Str} {p p1 pos : Pos} {ps : List Str} (F : FnG (GOwn X.K) X.prog X.w X.K X.mg X.base k f fd ps spOwn) (hgd : X.A.guards = some []) (hr : Room k X.A) (hm : X.mg x = some (.ref f)) (hk : PySem.W.keepIn X.K (.ref f) = true) (hb : Binds X.K fd ps [])
    (hN : X.N[0]? = some y := by rfl) (hv : Vis X.env.scope y := by first | exact Or.inl rfl | exact Or.inr (Or.inl rfl) | exact Or.inr (Or.inr rfl)) (hd : (y == ("__debug__" : Str)) = false := by decide) (hcd : (y == ("__classdict__" : Str)) = false := by decide)
    (hg : Gl X x := by rfl) (hdb : (x == ("__debug__" : Str)) = false := by decide) (he : starEach [.Name y p1] X.env = (false, eval (.Name y p1) X.env) :: starEach [] X.env := by rfl) (hpl : (backTo pos (starEach [] X.env)).any (·.1) = false := by rfl) :
    PE X (.Call (.Name x p) [.Name y p1] [] pos) (tOwn X.K) := by
  refine ⟨fun pins s σ H Q I ⟨a, ns, h0, hl0, hS, q⟩ => wpAny_Call_Name_kw (ld_glob I hg hm (PySem.W.callWith_K (h₀ := X.base) I.ok.mod.kin hk (wpAny_mono ((pa_cons (pe_var hN hv hd hcd) pa_nil he).run pos pins s σ H (fun vs H1 => vs = [.ref a] ∧ H1 = H) I ⟨_, h0, rfl, rfl⟩) (fun us s1 hv => ?_) fun _ _ z => z) he hpl) hdb)⟩
  obtain ⟨vs, H1, I1, rv, e1, e2⟩ := hv
  subst e1 e2
  refine ⟨I1.kIn, wpAny_call ?_⟩
  have hl : us.length = ps.length := by
    rw [← rv.length]
    exact (F.len [.bg] (fun _ => True) ⟨rfl, fun _ _ _ _ _ => trivial⟩)
  have hbb := hb s1 us I1.kIn (by rw [List.append_nil]; exact hl)
  rw [List.append_nil] at hbb
  refine run_fng F hgd hr I1 hbb rv ⟨{ toBg := noBag a, B0 := fun _ => none, H0 := H1 }, ⟨ns, hl0, hS, fun _ z => z⟩, rfl, ⟨(fun _ _ z => nomatch z), ⟨fun _ z => z.elim, fun _ z => z.elim, trivial⟩⟩, [.bg], ⟨rfl, trivial⟩, rfl, fun cs m a1 a2 a3 v B' H' g r => ?_⟩
  obtain ⟨pb, pc, e, w⟩ := bag_of g.w.sub r a1 a2 a3
  subst e
  exact q pb pc cs m H' w
end
/-- the law's body: the bag, then the rest -/
def gLaw (n : Nat) (g : SS) : Prop := g ⟨fun _ => False, fun d => d = .bool true, fun _ => False, fun _ => False, fun _ => False⟩ (.un :: .bg :: List.replicate n .un)
theorem law_ss {X : Cx} {st : Stmt} {rest : List Stmt} {g : SS} {n : Nat} (h0 : PS X st (tAsg (tOwn X.K) (gName 1))) (h : ∀ c, IsLst c → PSsd X c rest g) (hg : gLaw n g) :
    PSs X (st :: rest) (fun D σ H => (∀ H', D.rt (.bl true) H') ∧ ∃ a, ∃ ns : List Int, σ = some (.ref a) :: List.replicate (n + 1) none ∧ ns.length ≤ most ∧ SqL X.K H a (ns.map V.int)) := by
  refine ⟨fun pins s σ H D I ⟨k, a, ns, e, hl0, hS⟩ => ?_⟩
  subst e
  have hr : PSs X rest (fun D σ H => (∀ H', D.rt (.bl true) H') ∧ ∃ pb pc cs m, BagW pb pc H cs 0 m ∧ σ[1]? = some (some (.ref pb)) ∧ σ.length = n + 2) := by
    refine ⟨fun pins s σ H D I ⟨k, pb, pc, cs, m, w, e1, e2⟩ => ?_⟩
    let c : C := { toBg := lstBag pb pc, B0 := fun _ => none, H0 := H }
    have hw : Wd c c.B0 H := ⟨(fun _ _ z => nomatch z), (fun _ _ => rfl), fun a ha => by
      rcases ha with z | z
      · rw [z, w.b]; exact fun q => nomatch q
      · rw [z, w.c]; exact (fun q => nomatch q), ⟨cs, 0, m, w⟩⟩
    refine (h c ⟨pb, pc, rfl⟩).ps.run pins s σ H D I ⟨c.B0, .un :: .bg :: List.replicate n .un, ⟨hw, hw, Gr.refl hw, by simp [e2], fun i s hi => ?_, fun i j p ds es _ hi _ _ => ?_⟩, (h c ⟨pb, pc, rfl⟩).mono _ _ _ ⟨fun _ z => False.elim z, fun d hd v B' H' g r => ?_, fun _ z => False.elim z, fun _ z => False.elim z, fun _ z => False.elim z⟩ hg⟩
    · match i with
      | 0 => cases hi; trivial
      | 1 => cases hi; exact e1
      | i + 2 =>
        simp only [List.getElem?_cons_succ, List.getElem?_replicate] at hi
        split at hi
        · cases hi; trivial
        · cases hi
    · match i with
      | 0 => cases hi
      | 1 => cases hi
      | i + 2 =>
        simp only [List.getElem?_cons_succ, List.getElem?_replicate] at hi
        split at hi <;> cases hi
    · subst hd
      rw [rp_bl r]; exact k H'
  exact (pss_cons h0 hr).run pins s _ H D I ⟨a, ns, rfl, hl0, hS, fun pb pc cs m H' w => ⟨k, pb, pc, cs, m, w, rfl, by simp⟩⟩
/-- the law's own promise: at the law's call, the guards empty -/
structure FnL (P : Program) (w : World) (K : PySem.W.Frag) (mg : Str → Option Value) (base : Heap) (f : Addr) : Prop where
  run : ∀ (s : Shared) (H : Hp) (a : Addr) (ns : List Int), Env0 P w K mg base callerA [] s H → ns.length ≤ most → SqL K H a (ns.map V.int) →
    codeAny (model P w) callerA (.call (.ref f) ⟨[.ref a], []⟩) (CR CX0 [] P w H s (fun v _ => v = .bl true) E0) s
theorem fnl_of {P : Program} {w : World} {K : PySem.W.Frag} {mg : Str → Option Value} {base : Heap} {x qual : Str} {st : Stmt} {f : Addr} {fd : FuncData} {y : Str} {N : List Str} {n k : Nat} (F : Fun K x qual st f fd) (sc : FnScope N [y] (defScope st)) (hN : N.length = n + 2) (hr : Room (k + 1) callerA)
    (body : ∀ (cdv : Value) (s : Shared) (H : Hp), Room k (callerA.deeper (envOfC qual (defScope st) s.heap.objs.size f cdv)) →
      PSs (cxOf CX0 P w K mg base N qual (defScope st) f cdv callerA [] s H E0).nox (defBody st) (fun D σ H => (∀ H', D.rt (.bl true) H') ∧ ∃ a, ∃ ns : List Int, σ = some (.ref a) :: List.replicate (n + 1) none ∧ ns.length ≤ most ∧ SqL K H a (ns.map V.int)))
    (hbind : ∀ (s : Shared) (u : Value), BindsTo s fd ⟨[u], []⟩ [(y, u)]) : FnL P w K mg base f := by
  obtain ⟨oc, od, kV, doc, pm, an, cdv, ct, osl, rfl, lk', hcd⟩ := F.ex
  refine ⟨fun s H a ns e0 hl0 hS => ?_⟩
  have stands : ∀ b o, base.get? b = some o → s.heap.get? b = some o := fun b o z => (e0.bs b o z).1
  have inK : K.In s.heap := e0.mod.kin.keeps stands
  have r : Vals [V.ref a] [Value.ref a] := .cons rfl .nil
  refine codeAny_call_function hr.depth (inK _ _ lk') rfl sc.co sc.gen rfl (PySem.W.codeRec_of inK hcd) ((hbind s (.ref a)) _ _ _ _ (wpAny_newFunctionEnv_cells sc.kind ?_ ?_))
  · rintro ⟨m, v⟩ hy
    have hm : m ∈ [y] := by
      rw [List.mem_singleton] at hy
      cases hy
      exact List.mem_singleton.mpr rfl
    exact (sc.par m hm).elim .inl fun q => .inr ⟨q, PySem.W.cellsFrom_some _ _ _ (.inl q)⟩
  · intro env he s1 hx
    subst he
    refine ⟨(e0.mod.nolimit.keeps stands).keeps hx.toInCall.keep, codeAny_func ?_⟩
    have I := inv_start (CX := CX0) (E := E0) (qual := qual) (vs := [V.ref a]) (us := [Value.ref a]) sc hr.hd e0 rfl r hx
    have go := (body cdv s H (hr.deeper _)).nox.run [] s1 (L2.start N [V.ref a]) H { nx := fun _ _ => False, rt := fun v _ => v = .bl true } I ⟨fun _ => rfl, a, ns, ?_, hl0, hS⟩
    · refine wpAny_mono go (fun fl s' hs => ?_) fun _ _ z => z
      cases fl with
      | ret u =>
        obtain ⟨v, σ', H', J, rv, q⟩ := hs
        exact ⟨v, H', J.os, J.bare, J.base, J.hok, rv, q⟩
      | next =>
        obtain ⟨σ', H', J, q⟩ := hs
        exact q.elim
      | brk => exact hs.elim fun _ z => z.elim fun _ y => y.2.elim
      | cont => exact hs.elim fun _ z => z.elim fun _ y => y.2.elim
    · unfold L2.start
      rw [hN]
      simp only [List.map_cons, List.map_nil, List.length_cons, List.length_nil]
      rfl
end DL
namespace DL
open PySem L2 PySem.Spec PyProof.Rows
/-- the state at the law's call: the script alone is tracked, or nothing is -/
structure Call0 (P : Program) (w : World) (K : PySem.W.Frag) (s : Shared) (a : Addr) (ns : List Int) (H : Hp) : Prop where
  only : Only H
  sql : SqL K H a (ns.map V.int)
  hok : HOk P w H s.heap
  just : ∀ b, b ≠ a → H b = none
  free : H a ≠ none → K.lookup a = none
theorem call0 {P : Program} {w : World} {K : PySem.W.Frag} {s : Shared} {a : Addr} {vs : List Value} {ns : List Int} (inK : K.In s.heap) (ha : s.heap.get? a = some { cls := .type "list", data := .seq vs.toArray }) (hi : IntsAre vs ns) (hl : ns.length ≤ sizeLine) : ∃ H, Call0 P w K s a ns H := by
  have vv := vals_ints hi
  cases hk : K.lookup a with
  | some ob =>
    have e := inK a ob hk
    rw [ha] at e
    cases e
    refine ⟨fun _ => none, fun _ => .inl rfl, .inr ⟨_, vs.toArray, _, hk, rfl, rfl, rfl, ?_, by simpa using vv⟩, fun b u z => ?_, fun _ _ => rfl, fun z => absurd rfl z⟩
    · rw [List.size_toArray, hi.length]; exact hl
    · exact nomatch (show (none : Option HO) = some u from z)
  | none =>
    have at_ : ∀ {b : Addr}, b = a → (if b = a then some (HO.frz { cls := .type "list", data := .seq vs.toArray } (.lst (ns.map V.int))) else none) = some (HO.frz { cls := .type "list", data := .seq vs.toArray } (.lst (ns.map V.int))) := fun e => if_pos e
    have off : ∀ {b : Addr}, b ≠ a → (if b = a then some (HO.frz { cls := .type "list", data := .seq vs.toArray } (.lst (ns.map V.int))) else none) = none := fun e => if_neg e
    refine ⟨fun b => if b = a then some (.frz { cls := .type "list", data := .seq vs.toArray } (.lst (ns.map V.int))) else none, fun b => ?_, .inl (.inr ⟨_, at_ rfl⟩), fun b u z => ?_, fun b e => off e, fun _ => hk⟩
    · by_cases e : b = a
      · exact .inr ⟨_, _, at_ e⟩
      · exact .inl (off e)
    · by_cases e : b = a
      · have z1 := (at_ e).symm.trans z
        cases z1
        subst e
        exact ⟨ha, by rw [List.length_map]; exact hl, vs, _, vv, ha⟩
      · exact nomatch ((off e).symm.trans z)
theorem law_run {P : Program} {w : World} {K : PySem.W.Frag} {mg mb : Str → Option Value} {f a : Addr} {s : Shared} {vs : List Value} {ns : List Int}
    (inK : K.In s.heap) (gl : s.heap.Ns mainGlobals mg) (bn : s.heap.Ns builtinsNs mb) (bb : ∀ x : Str, x ≠ "__name__" → mb x = bootBuiltins x) (lim : s.heap.NoLimit) (gn : s.gens = #[])
    (ha : s.heap.get? a = some { cls := .type "list", data := .seq vs.toArray }) (hi : IntsAre vs ns) (hm : ns.length ≤ most) (F : ∀ base : Heap, K.In base → base.Ns mainGlobals mg → FnL P w K mg base f) :
    codeAny (model P w) callerA (.call (.ref f) ⟨[.ref a], []⟩) (fun r s' => r = .ok (.ret (.bool true)) ∧ OldK s.heap s'.heap ∧ s'.os = s.os ∧ AllBare s'.gens) s := by
  obtain ⟨H, c⟩ := call0 (P := P) (w := w) inK ha hi (most_le hm)
  have hid : ∀ {b : Addr} {ob : Obj}, s.heap.get? b = some ob → H b = none → (hidT s.heap H).get? b = some ob := fun e n => hidT_get e n
  have there : ∀ {b : Addr} {ob : Obj}, b ≠ a → s.heap.get? b = some ob → (hidT s.heap H).get? b = some ob := fun ne e => hid e (c.just _ ne)
  have ns_ : ∀ {b : Addr} {m : Str → Option Value}, s.heap.Ns b m → (hidT s.heap H).Ns b m := fun {b m} ⟨ob, es, ep, e, d, r⟩ => by
    refine ⟨ob, es, ep, there (fun z => ?_) e, d, r⟩
    subst z
    rw [ha] at e
    cases e
    exact nomatch (show Data.seq vs.toArray _ = Data.dict es ep from d)
  have inB : K.In (hidT s.heap H) := fun b ob e => hid (inK b ob e) (by
    by_cases z : b = a
    · subst z
      cases q : H b with
      | none => rfl
      | some u => rw [c.free (by rw [q]; exact fun z => nomatch z)] at e; cases e
    · exact c.just b z)
  have env : Env0 P w K mg (hidT s.heap H) callerA [] s H :=
    ⟨rfl, ⟨inB, ns_ gl, ⟨mb, ns_ bn, bb⟩, lim.elim fun mc h => ⟨mc, ns_ h.1, h.2⟩⟩, fun b ob e => of_hidT e, Nat.le_of_eq (hidT_size _ _), trivial, (fun b hb => absurd (show b ∈ ([] : List Addr) from hb) (by simp)), c.hok, .of_eq gn⟩
  refine codeAny_mono ((F _ inB (ns_ gl)).run s H a ns env hm c.sql) fun r s' hh => ?_
  cases r with
  | error e => exact hh.elim
  | ok fl =>
    cases fl with
    | ret u =>
      obtain ⟨v, H', hos, bare, un, hok', rv, e⟩ := hh
      subst e
      have e2 : u = Value.bool true := rv
      subst e2
      refine ⟨rfl, OldK.of_keep fun b ob e => ?_, hos, bare⟩
      cases q : H b with
      | none => exact un.keep b ob e q (fun z => absurd (show b ∈ ([] : List Addr) from z) (by simp)) (by simp)
      | some u =>
        rcases c.only b with z | ⟨ox, xs, z⟩
        · rw [q] at z; cases z
        · have old := (c.hok b _ z).1
          rw [e] at old
          cases old
          exact (hok' b _ (un.frzs b _ _ z)).1
    | next => exact hh.elim
    | brk => exact hh.elim
    | cont => exact hh.elim
theorem walk_law {l : PySem.W.OpenLaw} {n : Nat} {q : Program} {loose : List Str} {XP : (Str → Option Value) → Heap → Prop} {YP : World → Heap → Prop} {d : DefRec} (hn : l.most = some n) (hn2 : n ≤ most) (hdf : d.params.defaults = [])
    (F : ∀ (w : World) (mg : Str → Option Value) (f : Addr) (h : Heap), YP w h → h.Ns mainGlobals mg → mg d.name = some (.ref f) → ∃ K : PySem.W.Frag, K.In h ∧ ∀ base : Heap, K.In base → base.Ns mainGlobals mg → FnL l.prog w K mg base f) :
    PySem.W.WalkO q loose XP YP l.row.toRowW d [] (fun f vs => PySem.call f vs) := by
  refine Att.attach_call hn hdf fun w s₀ s mg mb f ob pm cd doc a vs ns G Y _ _ _ hmg hobj hints hlen hg => ?_
  obtain ⟨K, inK, hF⟩ := F w mg f _ Y G.T.g hmg
  exact law_run inK G.T.g G.T.b G.T.builtins G.T.nolimit hg hobj hints (Nat.le_trans hlen hn2) hF
end DL
namespace DL
open PySem L2 PySem.Spec PyProof.Rows
/-- a def known by its name -/
def Kn (P : Program) (w : World) (K : PySem.W.Frag) (mg : Str → Option Value) (base : Heap) (k : Nat) (x : Str) (ps : List Str) (S : Spec) : Prop :=
  ∃ f fd, FnG IsLst P w K mg base k f fd ps S ∧ mg x = some (.ref f) ∧ PySem.W.keepIn K (.ref f) = true ∧ Binds K fd ps []
def KnK (P : Program) (w : World) (K : PySem.W.Frag) (mg : Str → Option Value) (base : Heap) (k : Nat) (x : Str) (ps ks : List Str) (is : List Nat) (S : Spec) : Prop :=
  ∃ f fd, FnG IsLst P w K mg base k f fd ps S ∧ mg x = some (.ref f) ∧ PySem.W.keepIn K (.ref f) = true ∧ KwB K fd ps ks is
theorem Kn.up {P : Program} {w : World} {K : PySem.W.Frag} {mg : Str → Option Value} {base : Heap} {j k : Nat} {x : Str} {ps : List Str} {S : Spec} (h : Kn P w K mg base j x ps S) (l : j ≤ k) : Kn P w K mg base k x ps S :=
  let ⟨f, fd, h1, h2⟩ := h
  ⟨f, fd, h1.up l, h2⟩
theorem KnK.up {P : Program} {w : World} {K : PySem.W.Frag} {mg : Str → Option Value} {base : Heap} {j k : Nat} {x : Str} {ps ks : List Str} {is : List Nat} {S : Spec} (h : KnK P w K mg base j x ps ks is S) (l : j ≤ k) : KnK P w K mg base k x ps ks is S :=
  let ⟨f, fd, h1, h2⟩ := h
  ⟨f, fd, h1.up l, h2⟩
section
variable {X : Cx} {c : C} {k : Nat} {ps : List Str} {S : Spec}
theorem v_callX {x : Str} {p pos : Pos} {e : Expr} {es : List Expr} {fa : SA} (F : Kn X.prog X.w X.K X.mg X.base k x ps S) (hG : IsLst c) (hgd : X.A.guards = some []) (hr : Room k X.A) (ha : PAd X c (e :: es) fa)
    (hg : Gl X x := by rfl) (hdb : (x == ("__debug__" : Str)) = false := by decide) (he : starEach (e :: es) X.env = (false, eval e X.env) :: starEach es X.env := by rfl) (hpl : (backTo pos (starEach es X.env)).any (·.1) = false := by rfl) :
    PV X c (.Call (.Name x p) (e :: es) [] pos) (fCall S fa) := by
  obtain ⟨f, fd, h1, h2, h3, h4⟩ := F
  exact v_call h1 hG.up hgd hr h2 h3 h4 ha hg hdb he hpl
theorem v_callKX {x : Str} {p pos : Pos} {kws : List Keyword} {ks : List Str} {is : List Nat} {fa : SA} (F : KnK X.prog X.w X.K X.mg X.base k x ps ks is S) (hG : IsLst c) (hgd : X.A.guards = some []) (hr : Room k X.A) (ha : PKd X c kws fa)
    (hn : kws.length = ks.length := by rfl) (hg : Gl X x := by rfl) (hdb : (x == ("__debug__" : Str)) = false := by decide) (hall : (backToKw pos (keywordEach kws X.env)).all (·.1.isSome) = true := by rfl) (hks : (backToKw pos (keywordEach kws X.env)).filterMap (·.1) = ks := by rfl)
    (hpl : ((backTo pos (starEach [] X.env)).any (·.1) || (backToKw pos (keywordEach kws X.env)).any (·.1.isNone)) = false := by rfl) :
    PV X c (.Call (.Name x p) [] kws pos) (fCallK S is fa) := by
  obtain ⟨f, fd, h1, h2, h3, h4⟩ := F
  exact v_callK h1 hG.up hgd hr h2 h3 h4 ha hn hg hdb hall hks hpl
/-- freeze, whether it is one's own or shared already -/
def fFrz (i : Nat) (f : SS) : SS := fun D ρ => match lk ρ i with | .ow ds => f D (ρ.set i (.sh (.list ds))) | .sh _ => f D ρ | _ => False
theorem s_frz (i : Nat) {st : Stmt} {f : SS} (h : PSd X c st f) : PSd X c st (fFrz i f) := by
  have h2 := s_freeze i h
  refine ⟨fun D D' ρ l q => ?_, ⟨fun pins s σ H D I ⟨B, ρ, ok, q⟩ => ?_⟩⟩
  · unfold fFrz at q ⊢
    split at q <;> first | exact q.elim | exact h.mono _ _ _ l q
  · unfold fFrz at q
    cases e : lk ρ i with
    | ow ds =>
      rw [e] at q
      refine h2.ps.run pins s σ H D I ⟨B, ρ, ok, ?_⟩
      unfold fFreeze
      rw [e]; exact q
    | sh d =>
      rw [e] at q
      exact h.ps.run pins s σ H D I ⟨B, ρ, ok, q⟩
    | un => rw [e] at q; exact q.elim
    | bg => rw [e] at q; exact q.elim
end
/-! ### specs -/
/-- n arguments; what they must be; what comes back -/
def sp (n : Nat) (pre : List Sl → Prop) (R : List Sl → D → Prop) : Spec := fun ss Q => ss.length = n ∧ pre ss ∧ ∀ d, R ss d → Q d
theorem sp_mono {n : Nat} {pre : List Sl → Prop} {R : List Sl → D → Prop} : ∀ ss (Q Q' : D → Prop), (∀ d, Q d → Q' d) → sp n pre R ss Q → sp n pre R ss Q' := fun ss Q Q' k h => ⟨h.1, h.2.1, fun d r => k d (h.2.2 d r)⟩
theorem sp_len {n : Nat} {pre : List Sl → Prop} {R : List Sl → D → Prop} : ∀ ss (Q : D → Prop), sp n pre R ss Q → ss.length = n := fun ss Q h => h.1
/-! ### reading what a suite does -/
theorem at0 {α : Type} (a : α) (r : List α) : atI (a :: r) 0 = some a := by
  unfold atI ixN
  rw [if_pos (by omega), if_pos (by rw [List.length_cons]; omega)]
  rfl
theorem at1 {α : Type} (a b : α) (r : List α) : atI (a :: b :: r) 1 = some b := by
  unfold atI ixN
  rw [if_pos (by omega), if_pos (by rw [List.length_cons, List.length_cons]; omega)]
  rfl
theorem at2 {α : Type} (a b c : α) (r : List α) : atI (a :: b :: c :: r) 2 = some c := by
  unfold atI ixN
  rw [if_pos (by omega), if_pos (by simp only [List.length_cons]; omega)]
  rfl
theorem at3 {α : Type} (a b c d : α) (r : List α) : atI (a :: b :: c :: d :: r) 3 = some d := by
  unfold atI ixN
  rw [if_pos (by omega), if_pos (by simp only [List.length_cons]; omega)]
  rfl
theorem at4 {α : Type} (a b c d e : α) (r : List α) : atI (a :: b :: c :: d :: e :: r) 4 = some e := by
  unfold atI ixN
  rw [if_pos (by omega), if_pos (by simp only [List.length_cons]; omega)]
  rfl
theorem ix0 (n : Nat) : ixN (n + 1) 0 = some 0 := by
  unfold ixN
  rw [if_pos (by omega), if_pos (by omega)]; rfl
theorem ix1 (n : Nat) : ixN (n + 2) 1 = some 1 := by
  unfold ixN
  rw [if_pos (by omega), if_pos (by omega)]; rfl
theorem ix2 (n : Nat) : ixN (n + 3) 2 = some 2 := by
  unfold ixN
  rw [if_pos (by omega), if_pos (by omega)]; rfl
theorem ix3 (n : Nat) : ixN (n + 4) 3 = some 3 := by
  unfold ixN
  rw [if_pos (by omega), if_pos (by omega)]; rfl
theorem lg2 : ((2 : Int).natAbs.log2 < 9000) = True := eq_true (by decide)
theorem lk_z (s : Sl) (r : Env) : lk (s :: r) 0 = s := rfl
theorem lk_s (s : Sl) (r : Env) (i : Nat) : lk (s :: r) (i + 1) = lk r i := rfl
theorem ifS {f g : SS} {b : Bool} {D : En} {ρ : Env} (h1 : b = true → f D ρ) (h2 : b = false → g D ρ) : (if b = true then f D ρ else g D ρ) := by
  cases b with
  | true => exact h1 rfl
  | false => exact h2 rfl
/-- if x == '..': .. , not taken -/
theorem skip_str {i : Nat} {x y : Str} {A B : SS} {E : En} {ρ : Env} (h : lk ρ i = .sh (.str y)) (ne : ¬ y = x) (k : B E ρ) : fSeqS (fIfS (fCmp gEq (fN i) (fC (.str x))) A fNext) B E ρ := by
  simp only [fSeqS, fIfS, fCmp, fN, h, fC, gEq, decide_eq_false ne, fNext]
  rw [if_neg (by decide)]
  exact k
theorem take_str {i : Nat} {x : Str} {A B : SS} {E : En} {ρ : Env} (h : lk ρ i = .sh (.str x)) (k : A { E with nx := B E } ρ) : fSeqS (fIfS (fCmp gEq (fN i) (fC (.str x))) A fNext) B E ρ := by
  simp only [fSeqS, fIfS, fCmp, fN, h, fC, gEq, decide_true, if_true]
  exact k
/-- a loop by an invariant: m falls -/
theorem while_of {t : ST} {body : SS} {E : En} (I : Nat → Env → Prop) (turn : ∀ m ρ, I m ρ → ∀ K : Env → Prop, (∀ m' ρ', m' < m → I m' ρ' → K ρ') → t ρ fun b => if b = true then body (loopE K E) ρ else E.nx ρ) (m : Nat) (ρ : Env) (h : I m ρ) : fWhile t body E ρ := by
  have key : ∀ n m ρ, m < n → I m ρ → fWhN t body n E ρ := by
    intro n
    induction n with
    | zero => intro m ρ l; omega
    | succ n ih => exact fun m ρ l h => turn m ρ h (fWhN t body n E) fun m' ρ' l' h' => ih m' ρ' (by omega) h'
  exact ⟨m + 1, key (m + 1) m ρ (Nat.lt_succ_self m) h⟩
/-- a for by an invariant of what is left -/
theorem for_of {g : GT} {body : SS} {E : En} (I : List D → Env → Prop) (turn : ∀ d ds ρ, I (d :: ds) ρ → ∀ K : Env → Prop, (∀ ρ', I ds ρ' → K ρ') → g d ρ fun ρ' => body (loopE K E) ρ') (last : ∀ ρ, I [] ρ → E.nx ρ) : ∀ ds ρ, I ds ρ → fFor g body ds E ρ
  | [], ρ, h => last ρ h
  | d :: ds, ρ, h => turn d ds ρ h (fFor g body ds E) fun ρ' h' => for_of I turn last ds ρ' h'
theorem rng_succ (lo : Int) (n : Nat) : rng lo (n + 1) = .int lo :: rng (lo + 1) n := by
  unfold rng
  rw [List.range_succ_eq_map, List.map_cons, List.map_map]
  congr 1
  · simp
  · refine List.map_congr_left fun i _ => ?_
    simp only [Function.comp]
    congr 1
    omega
/-- a for over a range -/
theorem for_rng {g : GT} {body : SS} {E : En} (I : Int → Env → Prop) : ∀ (n : Nat) (lo : Int) (ρ : Env), (∀ i ρ, lo ≤ i → i < lo + n → I i ρ → ∀ K : Env → Prop, (∀ ρ', I (i + 1) ρ' → K ρ') → g (.int i) ρ fun ρ' => body (loopE K E) ρ') → (∀ ρ, I (lo + n) ρ → E.nx ρ) → I lo ρ → fFor g body (rng lo n) E ρ
  | 0, lo, ρ, _, last, h => last ρ (by simpa using h)
  | n + 1, lo, ρ, turn, last, h => by
    rw [rng_succ]
    exact turn lo ρ (Int.le_refl _) (by omega) h (fFor g body (rng (lo + 1) n) E) fun ρ' h' => for_rng I n (lo + 1) ρ' (fun i ρ a b => turn i ρ (by omega) (by omega)) (fun ρ h => last ρ (by
      have e : lo + 1 + (n : Int) = lo + ((n + 1 : Nat) : Int) := by omega
      rw [← e]; exact h)) h'
theorem lc_of {g : GT} {t : ST} {e : SE} {ρ : Env} (I : List D → (List D → Prop) → Prop) (turn : ∀ d ds Q, I (d :: ds) Q → ∀ K : (List D → Prop) → Prop, (∀ Q', I ds Q' → K Q') → g d ρ fun ρ1 => t ρ1 fun b => if b = true then e ρ1 fun y => K fun ys => Q (y :: ys) else K Q) (last : ∀ Q, I [] Q → Q []) : ∀ ds Q, I ds Q → lcRun g t e ρ ds Q
  | [], Q, h => last Q h
  | d :: ds, Q, h => turn d ds Q h (fun Q' => lcRun g t e ρ ds Q') fun Q' h' => lc_of I turn last ds Q' h'
end DL
namespace DL
open PySem L2 PySem.Spec PyProof.Rows
/-! ### from the head's facts -/
theorem fun_of {K : PySem.W.Frag} {x : Str} {st : Stmt} {f : Addr} {fd : FuncData} (F : FunD K x x (defArgs st) (defBody st) (defScope st) [] [] f fd) : Fun K x x st f fd := by
  obtain ⟨⟨oc, od, dV, kV, doc, pm, an, cdv, ct, osl, e, lk, hcd, hD, hK⟩, kp⟩ := F
  rcases hD with ⟨_, rfl⟩ | ⟨z, _⟩
  · exact ⟨⟨oc, od, kV, doc, pm, an, cdv, ct, osl, e, lk, hcd⟩, kp⟩
  · exact absurd rfl z
abbrev XX (P : Program) (w : World) (K : PySem.W.Frag) (mg : Str → Option Value) (base : Heap) (N : List Str) (qual : Str) (st : Stmt) (f : Addr) (cdv : Value) (A : Around) (outer : List PySem.Env) (s : Shared) (H : Hp) : Cx :=
  (cxOf CX0 P w K mg base N qual (defScope st) f cdv A outer s H E0).nox
theorem kwb_of {K : PySem.W.Frag} {x qual : Str} {st : Stmt} {f : Addr} {fd : FuncData} {ps ks : List Str} {is : List Nat} (F : Fun K x qual st f fd)
    (h : ∀ (kV doc pm : Value) (an : Option Addr) (cdv ct : Value) (ws : List Value), ws.length = ks.length → bindArgs (PySem.W.fnOf x qual (defArgs st) (defBody st) (defScope st) .none kV doc pm an cdv ct) ⟨[], ks.zip ws⟩ = pure (ps.zip (perm is ws))) : KwB K fd ps ks is := by
  obtain ⟨oc, od, kV, doc, pm, an, cdv, ct, osl, rfl, lk, hcd⟩ := F.ex
  exact ⟨fun s ws _ hl => .of_eq (h kV doc pm an cdv ct ws hl)⟩
theorem Kn.mk {P : Program} {w : World} {K : PySem.W.Frag} {mg : Str → Option Value} {base : Heap} {k : Nat} {x : Str} {ps : List Str} {S : Spec} {f : Addr} {fd : FuncData} (h : FnG IsLst P w K mg base k f fd ps S) (h1 : mg x = some (.ref f)) (h2 : PySem.W.keepIn K (.ref f) = true) (h3 : Binds K fd ps []) : Kn P w K mg base k x ps S := ⟨f, fd, h, h1, h2, h3⟩
theorem KnK.mk {P : Program} {w : World} {K : PySem.W.Frag} {mg : Str → Option Value} {base : Heap} {k : Nat} {x : Str} {ps ks : List Str} {is : List Nat} {S : Spec} {f : Addr} {fd : FuncData} (h : FnG IsLst P w K mg base k f fd ps S) (h1 : mg x = some (.ref f)) (h2 : PySem.W.keepIn K (.ref f) = true) (h3 : KwB K fd ps ks is) : KnK P w K mg base k x ps ks is S := ⟨f, fd, h, h1, h2, h3⟩
theorem units_of {A : Around} {k : Nat} (hr : Room k A) : A.units + 64 < cLine := by
  have := hr.un
  omega
abbrev fForS (fi : SI) (g : GT) (f : SS) : SS := fun D ρ => fi ρ fun ds => fFor g f ds D ρ
end DL
namespace DL
open PySem L2 PySem.Spec PyProof.Rows
/-! ### data of a small size: may be shown and compared -/
/-- nesting at most n, shown in at most w signs -/
structure Ni (n w : Nat) (d : D) : Prop where
  sh : d.showable = true
  nd : d.hasDict = false
  cl : d.canLay0 = true
  dp : d.depth ≤ n
  wt : d.shown.length ≤ w
structure NiA (n w : Nat) (ds : List D) : Prop where
  sh : PyData.showableAll ds = true
  nd : PyData.hasDictAll ds = false
  cl : PyData.canLayAll0 ds = true
  dp : PyData.depthAll ds ≤ n
  wt : ((PyData.shownAll ds).map (·.length)).sum + 2 * (PyData.shownAll ds).length ≤ w
theorem Ni.le {n w m v : Nat} {d : D} (h : Ni n w d) (a : n ≤ m) (b : w ≤ v) : Ni m v d := ⟨h.sh, h.nd, h.cl, Nat.le_trans h.dp a, Nat.le_trans h.wt b⟩
theorem NiA.nil {n w : Nat} : NiA n w [] := ⟨rfl, rfl, rfl, by simp [PyData.depthAll], by simp [PyData.shownAll]⟩
theorem NiA.cons {n w v : Nat} {d : D} {ds : List D} (h : Ni n w d) (k : NiA n v ds) : NiA n (w + 2 + v) (d :: ds) :=
  ⟨by simp [PyData.showableAll, h.sh, k.sh], by simp [PyData.hasDictAll, h.nd, k.nd], by simp [PyData.canLayAll0, h.cl, k.cl],
    by have := h.dp; have := k.dp; simp only [PyData.depthAll]; omega, by have := h.wt; have := k.wt; simp only [PyData.shownAll, List.map_cons, List.sum_cons, List.length_cons]; omega⟩
theorem NiA.le {n w m v : Nat} {d : List D} (h : NiA n w d) (a : n ≤ m) (b : w ≤ v) : NiA m v d := ⟨h.sh, h.nd, h.cl, Nat.le_trans h.dp a, Nat.le_trans h.wt b⟩
theorem NiA.all {n w : Nat} : ∀ {ds : List D}, (∀ d ∈ ds, Ni n w d) → NiA n (ds.length * (w + 2)) ds
  | [], _ => NiA.nil
  | d :: ds, h => (NiA.cons (h d List.mem_cons_self) (NiA.all fun e he => h e (List.mem_cons_of_mem _ he))).le (Nat.le_refl _) (by rw [List.length_cons, Nat.succ_mul]; omega)
theorem Ni.list {n w : Nat} {ds : List D} (h : NiA n w ds) : Ni (n + 1) (w + 3) (.list ds) :=
  ⟨by simp [PyData.showable, h.sh], by simp [PyData.hasDict, h.nd], by simp [PyData.canLay0, h.cl], by have := h.dp; simp only [PyData.depth]; omega, by
    have := h.wt
    have := listText_len_le (PyData.shownAll ds)
    simp only [PyData.shown]
    omega⟩
theorem Ni.tup {n w : Nat} {ds : List D} (h : NiA n w ds) : Ni (n + 1) (w + 3) (.tuple ds) :=
  ⟨by simp [PyData.showable, h.sh], by simp [PyData.hasDict, h.nd], by simp [PyData.canLay0, h.cl], by have := h.dp; simp only [PyData.depth]; omega, by
    have := h.wt
    have := tupleText_len_le (PyData.shownAll ds)
    simp only [PyData.shown]
    omega⟩
theorem log2_lt {n k : Nat} (hk : 0 < k) (h : n < 2 ^ k) : n.log2 < k := by
  by_cases z : n = 0
  · subst z; rw [Nat.log2_zero]; exact hk
  · exact (Nat.log2_lt z).mpr h
theorem pow_1900 : (2 : Nat) ^ 1900 ≤ 10 ^ 590 := by decide +kernel
theorem Ni.int {i : Int} (h : i.natAbs < 2 ^ 1900) : Ni 0 600 (.int i) := by
  have h10 : i.natAbs < 10 ^ 590 := Nat.lt_of_lt_of_le h pow_1900
  have hl := log2_lt (by decide) h
  have e := int_text_length_le10 (k := 590) (by decide) h10
  clear h h10
  refine ⟨?_, rfl, rfl, by simp [PyData.depth], ?_⟩
  · simp only [PyData.showable, decide_eq_true_eq]
    exact Nat.lt_trans hl (by decide)
  · simp only [PyData.shown]
    rw [PySem.ofString_length]
    omega
theorem Ni.bool (b : Bool) : Ni 0 5 (.bool b) := ⟨rfl, rfl, rfl, by simp [PyData.depth], by cases b <;> decide⟩
theorem Ni.none : Ni 0 4 .none := ⟨rfl, rfl, rfl, by simp [PyData.depth], by decide⟩
theorem Ni.str {x : Str} {w : Nat} (h : (PyData.shown (.str x)).length ≤ w := by decide +kernel) (k : PyData.canLay0 (.str x) = true := by decide +kernel) : Ni 0 w (.str x) :=
  ⟨rfl, rfl, k, by simp [PyData.depth], h⟩
theorem Ni.shaped {n w : Nat} {d : D} (h : Ni n w d) (hn : n ≤ 60) : SeqAt.shaped d = true := by
  unfold SeqAt.shaped
  rw [h.cl, Bool.true_and, decide_eq_true_eq]
  have := h.dp
  omega
theorem Ni.repr {n w : Nat} {d : D} (h : Ni n w d) (hn : n ≤ 60) (hw : w ≤ 16777216) {Q : D → Prop} (q : Q (.str d.shown)) : bRepr [d] Q := ⟨h.sh, h.nd, by rw [sizeLine_eq]; exact Nat.le_trans h.wt hw, Nat.le_trans h.dp hn, q⟩
theorem Ni.eq {n w : Nat} {d : D} (h : Ni n w d) (hn : n ≤ 60) {Q : Bool → Prop} (q : Q true) : gEq d d Q := by
  have gen : SeqAt.shaped d = true ∧ SeqAt.shaped d = true ∧ Q (PyData.eqv d d) := ⟨h.shaped hn, h.shaped hn, by rw [SeqAt.eqv_refl d h.cl]; exact q⟩
  cases d with
  | int i => show Q (decide (i = i)); simpa using q
  | str i => show Q (decide (i = i)); simpa using q
  | bool i => show Q (decide (i = i)); simpa using q
  | none => exact gen
  | list ds => exact gen
  | tuple ds => exact gen
  | dict ds => exact gen
end DL
namespace DL
open PySem L2 PySem.Spec PyProof.Rows
/-! ### sizes -/
def Sm (k : Nat) (i : Int) : Prop := i.natAbs < 2 ^ k
theorem Sm.le {k l : Nat} {i : Int} (h : Sm k i) (hl : k ≤ l) : Sm l i := Nat.lt_of_lt_of_le h (Nat.pow_le_pow_right (by decide) hl)
theorem Sm.neg {k : Nat} {i : Int} (h : Sm k i) : Sm k (-i) := by unfold Sm at *; rw [Int.natAbs_neg]; exact h
theorem Sm.add {k : Nat} {i j : Int} (h : Sm k i) (h' : Sm k j) : Sm (k + 1) (i + j) := by
  unfold Sm at *
  have := Int.natAbs_add_le i j
  rw [Nat.pow_succ]
  omega
theorem Sm.sub {k : Nat} {i j : Int} (h : Sm k i) (h' : Sm k j) : Sm (k + 1) (i - j) := by
  have := Sm.add h h'.neg
  rwa [← Int.sub_eq_add_neg] at this
theorem Sm.mul {k l : Nat} {i j : Int} (h : Sm k i) (h' : Sm l j) : Sm (k + l) (i * j) := by
  unfold Sm at *
  rw [Int.natAbs_mul, Nat.pow_add]
  exact Nat.mul_lt_mul'' h h'
theorem Sm.nat {k : Nat} {i : Int} (h0 : 0 ≤ i) (h : i < 2 ^ k) : Sm k i := by
  unfold Sm
  have e : ((i.natAbs : Nat) : Int) < ((2 ^ k : Nat) : Int) := by
    rw [Int.natAbs_of_nonneg h0]
    exact_mod_cast h
  exact_mod_cast e
theorem Sm.abs {k : Nat} {i : Int} (h : Sm k i) : Sm k (if i < 0 then -i else i) := by
  split
  · exact h.neg
  · exact h
theorem Sm.mulw {k l : Nat} {i j : Int} (h : Sm k i) (h' : Sm l j) (hs : k + l + 2 ≤ 1000000 := by omega) : CMulW i j :=
  wide_mul (a := k + 1) (b := l + 1) (h.le (Nat.le_succ k)) (h'.le (Nat.le_succ l)) (by omega) (by omega) (by omega)
theorem Sm.log {k : Nat} {i : Int} (h : Sm k i) (hk : k < 9000 := by omega) : i.natAbs.log2 < 9000 := by
  have := log2_lt (k := k + 1) (by omega) (h.le (Nat.le_succ k))
  omega
/-- divided by a positive number -/
theorem Sm.div {k : Nat} {i g : Int} (h : Sm k i) (hg : 0 < g) : Sm k (i / g) := by
  unfold Sm at *
  have h1 : (i / g).natAbs ≤ i.natAbs := by
    have e1 := Int.ediv_mul_le i (Int.ne_of_gt hg)
    have e2 := Int.lt_ediv_add_one_mul_self i hg
    by_cases z : 0 ≤ i
    · have : 0 ≤ i / g := Int.ediv_nonneg z (Int.le_of_lt hg)
      have : i / g ≤ i := Int.ediv_le_self g z
      omega
    · have n : i / g < 0 := Int.ediv_neg_of_neg_of_pos (by omega) hg
      have q := Int.mul_le_mul_of_nonneg_left (a := 1) (b := g) (c := -i) (by omega) (by omega)
      rw [Int.mul_one, Int.neg_mul] at q
      have : i ≤ i / g := Int.le_ediv_of_mul_le hg (by omega)
      omega
  omega
theorem Sm.emod {k : Nat} {i g : Int} (hg : 0 < g) (h : Sm k g) : Sm k (i % g) := by
  unfold Sm at *
  have := Int.emod_nonneg i (Int.ne_of_gt hg)
  have := Int.emod_lt_of_pos i hg
  omega
/-! ### gcd -/
theorem gcd_fmod (i j : Int) : Int.gcd j (i.fmod j) = Int.gcd i j := by
  rw [Int.fmod_def, Int.gcd_comm i j]
  have : i - j * i.fdiv j = i + j * (-(i.fdiv j)) := by rw [Int.mul_neg]; omega
  rw [this]
  simp
theorem gcd_emod (i j : Int) : Int.gcd j (i % j) = Int.gcd i j := by
  rw [Int.emod_def, Int.gcd_comm i j]
  have : i - j * (i / j) = i + j * (-(i / j)) := by rw [Int.mul_neg]; omega
  rw [this]
  simp
/-! ### whole roots -/
def Rt (n s : Int) : Prop := 0 ≤ s ∧ s * s ≤ n ∧ n < (s + 1) * (s + 1)
theorem sq_exp (s : Int) : (s + 1) * (s + 1) = s * s + 2 * s + 1 := by
  rw [Int.add_mul, Int.mul_add, Int.mul_one, Int.one_mul]; omega
theorem rt_ex (n : Nat) : ∃ s, Rt n s := by
  induction n with
  | zero => exact ⟨0, by decide, by decide, by decide⟩
  | succ n ih =>
    obtain ⟨s, h0, h1, h2⟩ := ih
    by_cases h : ((n + 1 : Nat) : Int) < (s + 1) * (s + 1)
    · exact ⟨s, h0, by omega, h⟩
    · refine ⟨s + 1, by omega, by omega, ?_⟩
      have := sq_exp (s + 1)
      omega
theorem rt_of {n : Int} (h : 0 ≤ n) : ∃ s, Rt n s := by
  obtain ⟨s, hs⟩ := rt_ex n.toNat
  rw [Int.toNat_of_nonneg h] at hs
  exact ⟨s, hs⟩
theorem sq_le {a b : Int} (h0 : 0 ≤ a) (h : a ≤ b) : a * a ≤ b * b := Int.mul_le_mul h h h0 (by omega)
theorem rt_unique {n s t : Int} (h : Rt n s) (k : Rt n t) : s = t := by
  apply Classical.byContradiction
  intro c
  rcases Int.lt_or_gt_of_ne c with c | c
  · have := sq_le (a := s + 1) (b := t) (by have := h.1; omega) (by omega)
    have := h.2.2
    have := k.2.1
    omega
  · have := sq_le (a := t + 1) (b := s) (by have := k.1; omega) (by omega)
    have := k.2.2
    have := h.2.1
    omega
theorem rt_sq {n s r : Int} (h : Rt n s) (hr : 0 ≤ r) (e : r * r = n) : s = r := rt_unique h ⟨hr, by omega, by have := sq_exp r; omega⟩
/-- the mean is no less than the root -/
theorem rt_up {n s r : Int} (h : Rt n s) (hr : 0 < r) : s ≤ (r + n / r) / 2 := by
  obtain ⟨h0, h1, h2⟩ := h
  apply Classical.byContradiction
  intro c
  have c1 : r + n / r ≤ 2 * s - 1 := by omega
  have q : n < (n / r + 1) * r := Int.lt_ediv_add_one_mul_self n hr
  have le : n / r + 1 ≤ 2 * s - r := by omega
  have m := Int.mul_le_mul_of_nonneg_right le (Int.le_of_lt hr)
  have e : (2 * s - r) * r = s * s - (s - r) * (s - r) := by
    rw [Int.sub_mul, Int.sub_mul, Int.mul_sub, Int.mul_sub, Int.mul_assoc, Int.mul_comm r s]; omega
  have sq : 0 ≤ (s - r) * (s - r) := by
    rcases Int.le_total 0 (s - r) with z | z
    · exact Int.mul_nonneg z z
    · have := Int.mul_nonneg (a := -(s - r)) (b := -(s - r)) (by omega) (by omega)
      rwa [Int.neg_mul_neg] at this
  omega
theorem rt_quot {n s r : Int} (h : Rt n s) (hr : s < r) : n / r ≤ s := by
  obtain ⟨h0, h1, h2⟩ := h
  have m := Int.mul_le_mul_of_nonneg_left (a := s + 1) (b := r) (c := s + 1) (by omega) (by omega)
  have : n / r < s + 1 := Int.ediv_lt_of_lt_mul (by omega) (by omega)
  omega
/-- where it does not fall the root is reached -/
theorem rt_stop {n s r : Int} (h : Rt n s) (hr : 0 < r) (hs : s ≤ r) (k : r ≤ (r + n / r) / 2) : r = s := by
  apply Classical.byContradiction
  intro c
  have := rt_quot h (r := r) (by omega)
  omega
theorem rt_half {n s r : Int} (h : Rt n s) (hs : s < r) : 2 * ((r + n / r) / 2 - s) ≤ r - s := by
  have := rt_quot h hs
  omega
theorem rt_pos {n s : Int} (h : Rt n s) (hn : 2 ≤ n) : 0 < s := by
  apply Classical.byContradiction
  intro c
  have e : s = 0 := by have := h.1; omega
  have := h.2.2
  rw [e] at this
  omega
theorem bits_lt (n : Nat) : n < 2 ^ (Builtin.Int.intBits (n : Int)) := by
  unfold Builtin.Int.intBits
  by_cases z : n = 0
  · subst z; decide
  · have : ((n : Int) == 0) = false := by simp; omega
    first
      | (rw [this]; simp only [Bool.false_eq_true, if_false, Int.natAbs_natCast]; exact Nat.lt_log2_self)
      | (simp only [Int.natAbs_natCast]; split <;> first | omega | exact Nat.lt_log2_self)
      | (simp only [Int.natAbs_natCast]; exact Nat.lt_log2_self)
theorem bits_le {n : Nat} {k : Nat} (hk : 0 < k) (h : n < 2 ^ k) : Builtin.Int.intBits (n : Int) ≤ k := by
  have l := log2_lt hk h
  unfold Builtin.Int.intBits
  first
    | (split <;> simp_all <;> omega)
    | (simp only [Int.natAbs_natCast]; omega)
/-- the first guess is above the root -/
theorem rt_first {n : Nat} {s : Int} (h : Rt n s) (b : Nat) (hb : Builtin.Int.intBits (n : Int) ≤ 2 * b) : s < 2 ^ b := by
  have e := Nat.lt_of_lt_of_le (bits_lt n) (Nat.pow_le_pow_right (by decide : 0 < 2) hb)
  apply Classical.byContradiction
  intro c
  have c : (2 : Int) ^ b ≤ s := by omega
  have p : (0 : Int) ≤ 2 ^ b := Int.le_of_lt (Int.pow_pos (by decide))
  have m := sq_le p c
  have e2 : ((n : Nat) : Int) < (2 : Int) ^ b * 2 ^ b := by
    rw [← Int.pow_add]
    have : b + b = 2 * b := by omega
    rw [this]
    exact_mod_cast e
  have := h.2.1
  omega
end DL
namespace DL
open PySem L2 PySem.Spec PyProof.Rows
/-! ### a tuple, taken k times -/
theorem tuple_mul0 (l : Addr) (items : Array Value) (n : Nat) (dd : Option Addr) (sl : Array (Option Value)) (x : Int) (u : Tok) (c0 : (decide (x < -(2 ^ 63)) || decide (x ≥ 2 ^ 63)) = false) (c1 : (items.isEmpty || x == 1) = false) (c2 : (decide (x ≤ 0) || items.isEmpty) = true) :
    Meets (Builtin.«tuple.__mul__» ⟨[.ref l, .int x u], []⟩) (fun _ R s => s.heap.get? l = some { cls := .type "tuple", dict := dd, data := .seq items n, slots := sl } ∧
      R (.ok (.ret (Value.ref s.heap.objs.size))) { s with heap := s.heap.push { cls := Value.type "tuple", data := Data.seq #[] }, toks := s.toks }) :=
  .of_wp fun prog w A R s h => by
    obtain ⟨hp, g, d, tk, os⟩ := s
    obtain ⟨hl, h⟩ := h
    have f1 := AutoSeq1.idx_int
    wp_walk using wpAny_loadPart' hl
    repeat (first
      | (refine wpAny_ite_false (decide_eq_false (by rw [c0]; exact Bool.false_ne_true)) ?_; wp_walk using wpAny_loadPart' hl)
      | (refine wpAny_ite_false (decide_eq_false (by rw [c1]; exact Bool.false_ne_true)) ?_; wp_walk using wpAny_loadPart' hl)
      | (refine wpAny_ite_true (decide_eq_true c2) ?_; wp_walk using wpAny_loadPart' hl))
    exact ⟨_, rfl, h⟩
theorem tuple_mul1 (l : Addr) (items : Array Value) (n : Nat) (dd : Option Addr) (sl : Array (Option Value)) (x : Int) (u : Tok) (c0 : (decide (x < -(2 ^ 63)) || decide (x ≥ 2 ^ 63)) = false) (c1 : (items.isEmpty || x == 1) = true) :
    Meets (Builtin.«tuple.__mul__» ⟨[.ref l, .int x u], []⟩) (fun _ R s => s.heap.get? l = some { cls := .type "tuple", dict := dd, data := .seq items n, slots := sl } ∧
      R (.ok (.ret (Value.ref l))) s) :=
  .of_wp fun prog w A R s h => by
    obtain ⟨hp, g, d, tk, os⟩ := s
    obtain ⟨hl, h⟩ := h
    have f1 := AutoSeq1.idx_int
    wp_walk using wpAny_loadPart' hl
    repeat (first
      | (refine wpAny_ite_false (decide_eq_false (by rw [c0]; exact Bool.false_ne_true)) ?_; wp_walk using wpAny_loadPart' hl)
      | (refine wpAny_ite_true (decide_eq_true c1) ?_; wp_walk using wpAny_loadPart' hl))
    exact ⟨_, rfl, h⟩
section
variable {X : Cx} {c : C}
def rRep01 (K : PySem.W.Frag) : R2 := fun x y H Q => ∃ l k xs, x = .ref l ∧ y = .int k ∧ SqT K H l xs ∧ xs ≠ [] ∧ ((k = 0 ∧ ∀ p, H p = none → Q (.ref p) (upd H p (.tup []))) ∨ (k = 1 ∧ Q (.ref l) H))
theorem op_rep01 : OpR X (binaryOp .Mult) (rRep01 X.K) := by
  intro pins s σ H x y v u Q I rx ry h
  obtain ⟨l, k, xs, rfl, rfl, hT, hne, h⟩ := h
  cases rx
  obtain ⟨t, rfl⟩ := ry
  obtain ⟨its, r, ⟨⟨cls, dd, data, sl⟩, ho, hc, n, hd⟩, hs⟩ := I.tuple hT
  simp only at hc hd
  subst hc hd
  have hle : its.length = xs.length := r.length.symm
  have hn : its ≠ [] := fun e => hne (by
    rw [e] at hle
    exact List.eq_nil_of_length_eq_zero hle.symm)
  have hi : its.toArray.isEmpty = false := by
    cases its with
    | nil => exact absurd rfl hn
    | cons a b => rfl
  rcases h with ⟨rfl, q⟩ | ⟨rfl, q⟩
  · refine wpAny_binaryOp_repeat_ref (T := "tuple") (U := "int") (by decide) ⟨_, ho, rfl⟩ (fun s' => typeIs_int s' 0 t) noFill_tuple_mul F.fills_int_mul F.slot_int_rmul repeat_tuple F.slot_int_index.lookup
      (call_meets F.slot_int_rmul (typeIs_int s 0 t) F.entry_int_rmul (F.args_int_rmul_2 _ _) (int_rmul_tuple 0 t l its.toArray n dd sl)
        ⟨ho, rfl, ⟨_, ho, rfl⟩, call_meets F.slot_tuple_mul ⟨_, ho, rfl⟩ F.entry_tuple_mul (F.args_tuple_mul_2 _ _) (tuple_mul0 l its.toArray n dd sl 0 t rfl (by rw [hi]; rfl) rfl) ⟨ho, ?_⟩⟩)
    refine ⟨.ref s.heap.objs.size, _, I.laid (t' := s.toks) (o := .tup []) (fun b ob q => Heap.get?_push_of_some _ q) (Nat.le_refl _) ?_, rfl, q _ (I.hok.fresh (Nat.le_refl _))⟩
    exact ⟨Nat.zero_le _, [], .nil, IsTup.new _ _⟩
  · refine wpAny_binaryOp_repeat_ref (T := "tuple") (U := "int") (by decide) ⟨_, ho, rfl⟩ (fun s' => typeIs_int s' 1 t) noFill_tuple_mul F.fills_int_mul F.slot_int_rmul repeat_tuple F.slot_int_index.lookup
      (call_meets F.slot_int_rmul (typeIs_int s 1 t) F.entry_int_rmul (F.args_int_rmul_2 _ _) (int_rmul_tuple 1 t l its.toArray n dd sl)
        ⟨ho, rfl, ⟨_, ho, rfl⟩, call_meets F.slot_tuple_mul ⟨_, ho, rfl⟩ F.entry_tuple_mul (F.args_tuple_mul_2 _ _) (tuple_mul1 l its.toArray n dd sl 1 t rfl (by rw [hi]; rfl)) ⟨ho, ?_⟩⟩)
    exact ⟨.ref l, H, I, rfl, q⟩
def gRepT : G2 | .tuple ds, .int k, Q => ds ≠ [] ∧ 0 ≤ k ∧ k ≤ 1000 ∧ ds.length ≤ 1000 ∧ Q (.tuple (List.replicate k.toNat ds).flatten) | _, _, _ => False
theorem m_RepT : MonoG gRepT := fun d e Q Q' k h => by
  cases d <;> cases e <;> first | exact h.elim | exact ⟨h.1, h.2.1, h.2.2.1, h.2.2.2.1, k _ h.2.2.2.2⟩
theorem rpa_rep {B : Hp} {xs : List V} {ds : List D} (h : RpA B xs ds) : ∀ k : Nat, RpA B (List.replicate k xs).flatten (List.replicate k ds).flatten
  | 0 => .nil
  | k + 1 => by
    rw [List.replicate_succ, List.replicate_succ, List.flatten_cons, List.flatten_cons]
    exact rpa_app h (rpa_rep h k)
theorem o_repT : OpD X c (binaryOp .Mult) gRepT := by
  refine ⟨m_RepT, fun pins s σ H x y v u Q I rx ry ⟨B, d, e, w, r1, r2, q⟩ => ?_⟩
  cases d <;> cases e <;> first | exact q.elim | skip
  rename_i ds k
  obtain ⟨q1, q2, q3, q4, q5⟩ : ds ≠ [] ∧ 0 ≤ k ∧ k ≤ 1000 ∧ ds.length ≤ 1000 ∧ ∀ v B' H', Gr c B H B' H' → Rp B' v (.tuple (List.replicate k.toNat ds).flatten) → Q v H' := q
  obtain ⟨a, xs, rfl, h1, h2⟩ := r1.tup w
  rw [r2.int] at ry
  have r1' : Rp B (.ref a) (.tuple ds) := by
    rcases r1 with r1 | ⟨_, _, _, _, e, _⟩
    · exact r1
    · cases e
  have hne : xs ≠ [] := fun z => q1 ((rpa_nil_iff h2).mp z)
  by_cases k0 : k = 0
  · subst k0
    refine op_rep01 pins s σ H _ _ v u Q I rx ry ⟨a, 0, xs, rfl, rfl, SqT.of h1, hne, .inl ⟨rfl, fun p hp => ?_⟩⟩
    exact q5 _ _ _ (Gr.new (o := .tup []) w hp) (.tup upd_same .nil)
  · by_cases k1 : k = 1
    · subst k1
      refine op_rep01 pins s σ H _ _ v u Q I rx ry ⟨a, 1, xs, rfl, rfl, SqT.of h1, hne, .inr ⟨rfl, ?_⟩⟩
      refine q5 _ B H (Gr.refl w) ?_
      have : (List.replicate (1 : Int).toNat ds).flatten = ds := by
        show (List.replicate 1 ds).flatten = ds
        simp
      rw [this]; exact r1'
    · refine op_repT pins s σ H _ _ v u Q I rx ry ⟨a, k, xs, rfl, rfl, SqT.of h1, hne, by omega, q3, by rw [rpa_len h2]; exact q4, fun p hp => ?_⟩
      have g := Gr.new (o := .tup (List.replicate k.toNat xs).flatten) w hp
      exact q5 _ _ _ g (.tup upd_same (rpa_mono g.b (rpa_rep h2 _)))
/-! ### in -/
def gIn : GC | d, .list ds, Q => SeqAt.shaped d = true ∧ SeqAt.shaped (.list ds) = true ∧ Q (ds.any fun z => PyData.eqv z d) | _, _, _ => False
def gNotIn : GC | d, .list ds, Q => SeqAt.shaped d = true ∧ SeqAt.shaped (.list ds) = true ∧ Q (!ds.any fun z => PyData.eqv z d) | _, _, _ => False
theorem m_In : MonoC gIn := fun d e Q Q' k h => by
  cases e <;> first | exact h.elim | exact ⟨h.1, h.2.1, k _ h.2.2⟩
theorem m_NotIn : MonoC gNotIn := fun d e Q Q' k h => by
  cases e <;> first | exact h.elim | exact ⟨h.1, h.2.1, k _ h.2.2⟩
theorem o_in (hu : X.A.units + 65 < cLine) : CmpD X c .In gIn := by
  refine ⟨m_In, opr_weak (op_inD hu) fun x y H Q ⟨B, d, e, w, r1, r2, q⟩ => ?_⟩
  cases e <;> first | exact q.elim | skip
  exact ⟨d, _, rp_dp (r1.rp w) (SeqAt.canLay_of_shaped q.1), rp_dp (r2.rp w) (SeqAt.canLay_of_shaped q.2.1), q.1, q.2.1, q.2.2⟩
theorem o_notIn (hu : X.A.units + 65 < cLine) : CmpD X c .NotIn gNotIn := by
  refine ⟨m_NotIn, opr_weak (op_notInD hu) fun x y H Q ⟨B, d, e, w, r1, r2, q⟩ => ?_⟩
  cases e <;> first | exact q.elim | skip
  exact ⟨d, _, rp_dp (r1.rp w) (SeqAt.canLay_of_shaped q.1), rp_dp (r2.rp w) (SeqAt.canLay_of_shaped q.2.1), q.1, q.2.1, q.2.2⟩
theorem units65 {A : Around} {k : Nat} (hr : Room k A) : A.units + 65 < cLine := by
  have := hr.un
  omega
/-! ### sorted: ints; at most one item -/
theorem perm_one {α : Type} : ∀ {b a : List α}, b.length ≤ 1 → a.Perm b → a = b
  | [], _, _, h => h.eq_nil
  | [_], _, _, h => List.perm_singleton.mp h
  | _ :: _ :: _, _, l, _ => absurd l (by simp)
theorem cr_sorted1 : CallR X (.builtin "sorted") (fun vs H Q => ∃ (a : Addr) (xs : List V), vs = [V.ref a] ∧ SqL X.K H a xs ∧ xs.length ≤ 1 ∧ ∀ p, H p = none → Q (.ref p) (upd H p (.lst xs))) := by
  intro pins s σ H vs us Q I r h
  obtain ⟨a, ns, rfl, hs, h1, q⟩ := h
  obtain ⟨its, rv, hl, hz⟩ := I.list hs
  rw [Vals.ref1 r]
  have hlen : its.length ≤ 1 := by rw [← rv.length]; exact h1
  refine Srt.sorted_any hl.isList (by rw [← rv.length]; exact hz) (fun h2 => by omega) fun out hp => ?_
  have ho : out = its := perm_one hlen hp
  subst ho
  obtain ⟨ep, he'⟩ := PyProof.Rows.sortedAll_at s.heap out out.toArray
  exact ⟨.ref _, upd H (s.heap.objs.size + 1) (.lst ns), I.laid (t' := s.toks) (fun _ _ => PyProof.Rows.sortedAll_old) (Nat.le_succ _) ⟨hz, out, ep, rv, he'⟩, rfl, q _ (I.hok.fresh (Nat.le_succ _))⟩
def fSrt (fa : SE) : SL := fun ρ Q => fa ρ fun d => match d with
  | .list ds => (∃ ns : List Int, ds = ns.map PyData.int ∧ ∀ ns' : List Int, ns'.Perm ns → ns'.Pairwise (· ≤ ·) → Q (ns'.map PyData.int)) ∨ (ds.length ≤ 1 ∧ Q ds)
  | _ => False
theorem n_sorted {e : Expr} {fa : SE} {x : Str} {p pos : Pos} (hm : X.mg x = none) (ha : PB X c e fa) (hg : Gl X x := by rfl) (hv : bootBuiltins x = some (.builtin "sorted") := by decide +kernel)
    (hn : x ≠ "__name__" := by decide) (hdb : (x == ("__debug__" : Str)) = false := by decide)
    (he : starEach [e] X.env = (false, eval e X.env) :: starEach [] X.env := by rfl) (hpl : (backTo pos (starEach [] X.env)).any (·.1) = false := by rfl) : PN X c (.Call (.Name x p) [e] [] pos) (fSrt fa) := by
  refine ⟨fun ρ Q Q' k h => ha.mono _ _ _ (fun d hd => ?_) h, pe_weak (pe_callB (r := fun vs H Q => rSortedI X.K vs H Q ∨ ∃ (a : Addr) (xs : List V), vs = [V.ref a] ∧ SqL X.K H a xs ∧ xs.length ≤ 1 ∧ ∀ p, H p = none → Q (.ref p) (upd H p (.lst xs))) (fun pins s σ H xs us Q I rv q => q.elim (cr_sortedI pins s σ H xs us Q I rv) (cr_sorted1 pins s σ H xs us Q I rv)) hg hm hv (pa_cons ha.pe pa_nil he) hn hdb he hpl) fun σ H Q ⟨B, ρ, ok, h⟩ => ⟨B, ρ, ok, ha.mono _ _ _ (fun d hd v B1 H1 g1 r1 => ?_) h⟩⟩
  · split at hd <;> first | exact hd.elim | skip
    rcases hd with ⟨ns, e1, h1⟩ | ⟨h1, h2⟩
    · exact .inl ⟨ns, e1, fun ns' a b => k _ (h1 ns' a b)⟩
    · exact .inr ⟨h1, k _ h2⟩
  · split at hd <;> first | exact hd.elim | skip
    rename_i ds
    obtain ⟨a, xs, rfl, h1, h2⟩ := r1.list g1.w
    have hL : SqL X.K H1 a xs := SqL.of h1
    rcases hd with ⟨ns, e1, hq⟩ | ⟨hlen, hq⟩
    · subst e1
      have e2 := rpa_ints h2
      subst e2
      refine .inl ⟨a, ns, rfl, hL, fun ns' l p1 p2 hl => ?_⟩
      have g2 := Gr.newO (o := .lst (ns'.map V.int)) g1.w hl
      exact hq ns' p1 p2 l _ B1 _ (g1.trans ok.w g2) (g1.back hl) (Evl.fresh_back g1.w.sub hl) upd_same (rpa_of_ints ns')
    · refine .inr ⟨a, xs, rfl, hL, by rw [rpa_len h2]; exact hlen, fun l hl => ?_⟩
      have g2 := Gr.newO (o := .lst xs) g1.w hl
      exact hq l xs B1 _ (g1.trans ok.w g2) (g1.back hl) (Evl.fresh_back g1.w.sub hl) upd_same h2
/-! ### sum of a tuple of ints -/
theorem cr_sumT (hc : X.calm = true) : CallR X (.builtin "sum") (fun vs H Q => ∃ (a : Addr) (ns : List Int), vs = [V.ref a] ∧ SqT X.K H a (ns.map V.int) ∧ Q (.int ns.sum) H) := by
  intro pins s σ H vs us Q I r h
  obtain ⟨a, ns, rfl, hs, q⟩ := h
  obtain ⟨its, rv, hl, _⟩ := I.tuple hs
  rw [Vals.ref1 r]
  have hi := rv.ints
  obtain ⟨xs, e⟩ := hi.allInts.items
  have hn : numsOf (intItems xs).toList = ns := by rw [← e]; exact hi.numsOf
  rw [nums_intItems] at hn
  have hl2 : s.heap.IsTuple a (intItems xs) := by
    rw [← e]
    obtain ⟨o, h1, h2, n, h3⟩ := hl
    exact ⟨o, h1, h2, n, h3⟩
  refine PySem.W.ktm_sumG (I.ok.hd hc) hl2 fun h' tk t' hk => ?_
  rw [preSum_eq, List.take_of_length_le (by simp), hn]
  exact ⟨.int _, H, I.kept hk, ⟨_, rfl⟩, q⟩
def bSumT : GB | [.tuple ds], Q => (match asInts ds with | some ns => Q (.int ns.sum) | none => False) | _, _ => False
theorem m_SumT : MonoB bSumT := fun ds Q Q' k h => by
  unfold bSumT at h ⊢
  split at h <;> first | exact h.elim | skip
  split at h <;> first | exact h.elim | exact k _ h
theorem c_sumT (hc : X.calm = true) : CallD X c (.builtin "sum") bSumT := ⟨m_SumT, callr_weak (cr_sumT hc) fun xs H Q ⟨B, ds, w, ra, q⟩ => by
  unfold bSumT at q
  split at q <;> first | exact q.elim | skip
  split at q <;> first | exact q.elim | skip
  rename_i e
  obtain ⟨v, e1, r⟩ := ra.one
  subst e1
  obtain ⟨a, xs, rfl, h1, h2⟩ := r.tup w
  have e2 := asInts_eq e
  subst e2
  have e3 := rpa_ints h2
  subst e3
  exact ⟨a, _, rfl, SqT.of h1, q _ B H (Gr.refl w) (.int _)⟩⟩
end
end DL
namespace DL
open PySem L2 PySem.Spec PyProof.Rows
/-! ### isinstance -/
def tyN : D → String
  | .none => "NoneType" | .bool _ => "bool" | .int _ => "int" | .str _ => "str" | .list _ => "list" | .tuple _ => "tuple" | .dict _ => "dict"
/-- a thing of the type t is one of n -/
def isB (t n : String) : Bool := t == n || (t == "bool" && n == "int")
section
variable {X : Cx} {c : C}
theorem bw_ty {B H : Hp} {v : V} {d : D} (w : Wd c B H) (r : Bw c B H v d) : TyX X.K H v (.type (tyN d)) := by
  rcases r with r | ⟨p, vs, ds, rfl, rfl, _, _, h5, _⟩
  · cases r with
    | non => exact .base .non
    | bl b => exact .base (.bl b)
    | int i => exact .base (.int i)
    | str x => exact .base (.str x)
    | lst h1 _ => exact .base (.lst (w.sub _ _ h1))
    | tup h1 _ => exact .base (.tup (w.sub _ _ h1))
    | dct h1 _ => exact .base (.dK (w.sub _ _ h1))
  · exact .base (.lst h5)
def fIsI (n : String) (fa : SE) : SE := fun ρ Q => fa ρ fun d => Q (.bool (isB (tyN d) n))
def allT : List String := ["NoneType", "bool", "int", "str", "list", "tuple", "dict"]
theorem tyN_mem (d : D) : tyN d ∈ allT := by cases d <;> simp [tyN, allT]
theorem kit_all : ∀ t ∈ allT, ∀ n ∈ ["int", "bool", "tuple", "str", "list", "dict"], kitB t n = some (isB t n) := by decide +kernel
theorem kit_int (d : D) : kitB (tyN d) "int" = some (isB (tyN d) "int") := kit_all _ (tyN_mem d) _ (by decide)
theorem kit_bool (d : D) : kitB (tyN d) "bool" = some (isB (tyN d) "bool") := kit_all _ (tyN_mem d) _ (by decide)
theorem kit_tuple (d : D) : kitB (tyN d) "tuple" = some (isB (tyN d) "tuple") := kit_all _ (tyN_mem d) _ (by decide)
theorem kit_str (d : D) : kitB (tyN d) "str" = some (isB (tyN d) "str") := kit_all _ (tyN_mem d) _ (by decide)
theorem kit_list (d : D) : kitB (tyN d) "list" = some (isB (tyN d) "list") := kit_all _ (tyN_mem d) _ (by decide)
theorem v_isi {e : Expr} {fa : SE} {T : Str} {n : String} {p p2 pos : Pos} (hk : ∀ d : D, kitB (tyN d) n = some (isB (tyN d) n)) (hm : X.mg "isinstance" = none) (hmT : X.mg T = none) (ha : PB X c e fa) (hvT : bootBuiltins T = some (.type n) := by decide +kernel)
    (hg : Gl X "isinstance" := by rfl) (hgT : Gl X T := by rfl) (hnT : T ≠ "__name__" := by decide) (hdT : (T == ("__debug__" : Str)) = false := by decide)
    (hs : starEach [e, .Name T p2] X.env = (false, eval e X.env) :: starEach [.Name T p2] X.env := by rfl) (hs2 : starEach [.Name T p2] X.env = (false, eval (.Name T p2) X.env) :: starEach [] X.env := by rfl)
    (hpl : (backTo pos (starEach [.Name T p2] X.env)).any (·.1) = false := by rfl) :
    PV X c (.Call (.Name "isinstance" p) [e, .Name T p2] [] pos) (fIsI n fa) := by
  refine ⟨fun ρ Q Q' k h => ha.mono _ _ _ (fun d hd => k _ hd) h, pe_weak (pe_callB call_isi hg hm (by decide +kernel) (pa_cons ha.pe (pa_cons (pe_bltn (v := .ty n) hgT hmT hvT rfl hnT hdT) pa_nil hs2) hs) (by decide) (by decide) hs hpl) fun σ H Q ⟨B, ρ, ok, h⟩ => ?_⟩
  exact ⟨B, ρ, ok, ha.mono _ _ _ (fun d hd v B1 H1 g1 r1 => ⟨v, .ty n, .type (tyN d), .type n, _, rfl, .ty n, bw_ty g1.w r1, kit_ty (hk d), hd _ B1 H1 g1 (.bl _)⟩) h⟩
/-! ### a < b < c -/
def fChain (g g' : GC) (fa fb fc : SE) : ST := fun ρ Q => fa ρ fun d => fb ρ fun e => g d e fun k => if k = true then fc ρ fun f => g' e f Q else Q false
theorem chain_mono {g g' : GC} {fa fb fc : SE} (ho : MonoC g) (ho' : MonoC g') (ha : Mono fa) (hb : Mono fb) (hc : Mono fc) : MonoT (fChain g g' fa fb fc) := fun ρ Q Q' k h =>
  ha _ _ _ (fun d hd => hb _ _ _ (fun e he => ho _ _ _ _ (fun b q => by
    cases b with
    | true => exact hc _ _ _ (fun f hf => ho' _ _ _ _ k hf) q
    | false => exact k _ q) he) hd) h
theorem t_chain {op op' : CmpOp} {g g' : GC} {a b cc : Expr} {fa fb fc : SE} {pos : Pos} (ho : CmpD X c op g) (ho' : CmpD X c op' g') (ha : PB X c a fa) (hb : PB X c b fb) (hc : PB X c cc fc) (hm : lastMarks [op, op'] [b, cc] = false := by with_unfolding_all rfl) :
    PTd X c (.Compare a [op, op'] [b, cc] pos) (fChain g g' fa fb fc) := by
  refine ⟨chain_mono ho.mono ho'.mono ha.mono hb.mono hc.mono, pt_weak (pt_chain ho.op ho'.op ha.pe hb.pe hc.pe hm) fun σ H Q ⟨B, ρ, ok, h⟩ => ?_⟩
  refine ⟨B, ρ, ok, ha.mono _ _ _ (fun d hd v B1 H1 g1 r1 => ?_) h⟩
  refine ⟨B1, ρ, ok.mono g1, hb.mono _ _ _ (fun e he u B2 H2 g2 r2 => ?_) hd⟩
  have g12 := g1.trans ok.w g2
  refine ⟨B2, d, e, g2.w, r1.mono g2, r2, ho.mono _ _ _ _ (fun k hk => ⟨k, rfl, ?_⟩) he⟩
  cases k with
  | false => exact ⟨false, rfl, hk B2 H2 g12⟩
  | true => exact ⟨B2, ρ, ok.mono g12, hc.mono _ _ _ (fun f hf x B3 H3 g3 r3 => ⟨B3, e, f, g3.w, r2.mono g3, r3, ho'.mono _ _ _ _ (fun k hk => ⟨k, rfl, hk B3 H3 (g12.trans ok.w g3)⟩) hf⟩) hk⟩
theorem v_chain {op op' : CmpOp} {g g' : GC} {a b cc : Expr} {fa fb fc : SE} {pos : Pos} (ho : CmpD X c op g) (ho' : CmpD X c op' g') (ha : PB X c a fa) (hb : PB X c b fb) (hc : PB X c cc fc) (hm : lastMarks [op, op'] [b, cc] = false := by with_unfolding_all rfl) :
    PV X c (.Compare a [op, op'] [b, cc] pos) (fun ρ Q => fChain g g' fa fb fc ρ fun k => Q (.bool k)) := by
  refine ⟨fun ρ Q Q' k h => chain_mono ho.mono ho'.mono ha.mono hb.mono hc.mono _ _ _ (fun b hb => k _ hb) h, pe_weak (pe_chain ho.op ho'.op ha.pe hb.pe hc.pe hm) fun σ H Q ⟨B, ρ, ok, h⟩ => ?_⟩
  refine ⟨B, ρ, ok, ha.mono _ _ _ (fun d hd v B1 H1 g1 r1 => ?_) h⟩
  refine ⟨B1, ρ, ok.mono g1, hb.mono _ _ _ (fun e he u B2 H2 g2 r2 => ?_) hd⟩
  have g12 := g1.trans ok.w g2
  refine ⟨B2, d, e, g2.w, r1.mono g2, r2, ho.mono _ _ _ _ (fun k hk => ⟨k, rfl, ?_⟩) he⟩
  cases k with
  | false => exact hk _ B2 H2 g12 (.bl false)
  | true => exact ⟨B2, ρ, ok.mono g12, hc.mono _ _ _ (fun f hf x B3 H3 g3 r3 => ⟨B3, e, f, g3.w, r2.mono g3, r3, ho'.mono _ _ _ _ (fun k hk => hk _ B3 H3 (g12.trans ok.w g3) (.bl k)) hf⟩) hk⟩
end
end DL
namespace DL
open PySem L2 PySem.Spec PyProof.Rows
/-! ### showing data, dicts too -/
section
variable {P : Program} {w : World} {h : Heap}
/-- a value that reads as d and shows as d -/
structure Shw (P : Program) (w : World) (h : Heap) (d : D) (u : Value) : Prop where
  rd : ∃ as, Reads h u d as
  rk : d.showable = true → d.shown.length ≤ sizeLine → ∃ bs, ReadAtMost h d.depth bs ∧ ReprK P w bs h d.depth u d.shown
structure ShwA (P : Program) (w : World) (h : Heap) (ds : List D) (us : List Value) : Prop where
  rd : ∃ as, ReadsAll h us ds as
  rk : PyData.showableAll ds = true → (∀ t ∈ PyData.shownAll ds, t.length ≤ sizeLine) → ∃ bs, ReadAtMost h (PyData.depthAll ds) bs ∧ ReprAllK P w bs h (PyData.depthAll ds) us (PyData.shownAll ds)
theorem no_ad {n : Nat} : ReadAtMost h n [] := fun _ z => nomatch z
theorem shw_is {d : D} {u : Value} (r : ∃ as, Reads h u d as) (k : d.showable = true → d.shown.length ≤ sizeLine → ReprIs P w u d.shown) : Shw P w h d u :=
  ⟨r, fun a b => ⟨[], no_ad, .of_is (k a b) _ _ _⟩⟩
theorem shwA_nil : ShwA P w h [] [] := ⟨⟨_, .nil⟩, fun _ _ => ⟨[], no_ad, by simp only [PyData.shownAll]; exact .nil⟩⟩
theorem shwA_cons {d : D} {ds : List D} {u : Value} {us : List Value} (a : Shw P w h d u) (b : ShwA P w h ds us) : ShwA P w h (d :: ds) (u :: us) := by
  refine ⟨?_, fun hs hl => ?_⟩
  · obtain ⟨as, ra⟩ := a.rd
    obtain ⟨bs, rb⟩ := b.rd
    exact ⟨_, .cons ra rb⟩
  · simp only [PyData.showableAll, Bool.and_eq_true] at hs
    simp only [PyData.shownAll] at hl
    obtain ⟨c1, q1, p1⟩ := a.rk hs.1 (hl _ List.mem_cons_self)
    obtain ⟨c2, q2, p2⟩ := b.rk hs.2 fun t ht => hl t (List.mem_cons_of_mem _ ht)
    have m1 : d.depth ≤ PyData.depthAll (d :: ds) := by simp only [PyData.depthAll]; omega
    have m2 : PyData.depthAll ds ≤ PyData.depthAll (d :: ds) := by simp only [PyData.depthAll]; omega
    refine ⟨c1 ++ c2, (q1.mono m1).append (q2.mono m2), ?_⟩
    simp only [PyData.shownAll]
    exact .cons ((p1.more fun x hx => List.mem_append_left _ hx).level_le m1) (p2.more_le (fun x hx => List.mem_append_right _ hx) m2)
theorem lt_list {ds : List D} : PyData.depthAll ds < (PyData.list ds).depth := by simp only [PyData.depth]; omega
theorem lt_tup {ds : List D} : PyData.depthAll ds < (PyData.tuple ds).depth := by simp only [PyData.depth]; omega
theorem lt_dict {kvs : List (D × D)} : PyData.depthKv kvs < (PyData.dict kvs).depth := by simp only [PyData.depth]; omega
/-- the items of a list that shows -/
theorem list_items {a : Addr} {o : Obj} {vs : Array Value} {n : Nat} {ds : List D} (h1 : h.get? a = some o) (h2 : o.cls = .type "list") (h3 : o.data = .seq vs n) (s : ShwA P w h ds vs.toList) (hs : (PyData.list ds).showable = true) (hl : (PyData.list ds).shown.length ≤ sizeLine) :
    ∃ bs, ReadAtMost h (PyData.depthAll ds) bs ∧ a ∉ bs ∧ ReprAllK P w bs h (PyData.depthAll ds) vs.toList (PyData.shownAll ds) := by
  simp only [PyData.shown] at hl
  obtain ⟨bs, q, p⟩ := s.rk (by simpa only [PyData.showable] using hs) fun t ht => Nat.le_trans (listText_mem_le ht) hl
  obtain ⟨as, ra⟩ := s.rd
  exact ⟨bs, q, not_mem_of_deeper (.list h1 h2 h3 ra) lt_list q, p⟩
theorem tup_items {a : Addr} {o : Obj} {vs : Array Value} {n : Nat} {ds : List D} (h1 : h.get? a = some o) (h2 : o.cls = .type "tuple") (h3 : o.data = .seq vs n) (s : ShwA P w h ds vs.toList) (hs : (PyData.tuple ds).showable = true) (hl : (PyData.tuple ds).shown.length ≤ sizeLine) :
    ∃ bs, ReadAtMost h (PyData.depthAll ds) bs ∧ a ∉ bs ∧ ReprAllK P w bs h (PyData.depthAll ds) vs.toList (PyData.shownAll ds) := by
  simp only [PyData.shown] at hl
  obtain ⟨bs, q, p⟩ := s.rk (by simpa only [PyData.showable] using hs) fun t ht => Nat.le_trans (tupleText_mem_le ht) hl
  obtain ⟨as, ra⟩ := s.rd
  exact ⟨bs, q, not_mem_of_deeper (.tuple h1 h2 h3 ra) lt_tup q, p⟩
theorem dict_items {a : Addr} {o : Obj} {es : Array DictEntry} {n : Nat} {kvs : List (D × D)} (h1 : h.get? a = some o) (h2 : o.cls = .type "dict") (h3 : o.data = .dict es n) (s1 : ShwA P w h (kvs.map (·.1)) (es.toList.map (·.key))) (s2 : ShwA P w h (kvs.map (·.2)) (es.toList.map (·.val)))
    (hs : (PyData.dict kvs).showable = true) (hl : (PyData.dict kvs).shown.length ≤ sizeLine) :
    ∃ bs, ReadAtMost h (PyData.depthKv kvs) bs ∧ a ∉ bs ∧ ReprEntriesK P w bs h (PyData.depthKv kvs) es.toList (PyData.shownKv kvs) := by
  simp only [PyData.shown] at hl
  obtain ⟨e1, e2⟩ := PyData.showableKv_split kvs (by simpa only [PyData.showable] using hs)
  obtain ⟨b1, q1, p1⟩ := s1.rk e1 fun t ht => by
    obtain ⟨x, hx, lx⟩ := PyData.shownKv_key_le kvs t ht
    have := dictText_mem_le hx
    omega
  obtain ⟨b2, q2, p2⟩ := s2.rk e2 fun t ht => by
    obtain ⟨x, hx, lx⟩ := PyData.shownKv_val_le kvs t ht
    have := dictText_mem_le hx
    omega
  obtain ⟨a1, r1⟩ := s1.rd
  obtain ⟨a2, r2⟩ := s2.rd
  have k1 := PyData.depthAll_keys_le kvs
  have k2 := PyData.depthAll_vals_le kvs
  have q := (q1.mono k1).append (q2.mono k2)
  refine ⟨b1 ++ b2, q, not_mem_of_deeper (.dict h1 h2 h3 r1 r2) lt_dict q, ?_⟩
  rw [PyData.shownKv_eq]
  exact ReprEntriesK.of_two _ _ _ (p1.more_le (fun x hx => List.mem_append_left _ hx) k1) (p2.more_le (fun x hx => List.mem_append_right _ hx) k2)
theorem all_len {ds : List D} {us : List Value} {as : List Addr} (r : ReadsAll h us ds as) : us.length = ds.length := by
  induction ds generalizing us as with
  | nil => cases r; rfl
  | cons d ds ih => cases r with
    | cons r1 r2 => rw [List.length_cons, List.length_cons, ih r2]
theorem shownAll_len : ∀ ds : List D, (PyData.shownAll ds).length = ds.length
  | [] => by simp only [PyData.shownAll, List.length_nil]
  | d :: ds => by simp only [PyData.shownAll, List.length_cons, shownAll_len ds]
theorem shw_list {a : Addr} {o : Obj} {vs : Array Value} {n : Nat} {ds : List D} (h1 : h.get? a = some o) (h2 : o.cls = .type "list") (h3 : o.data = .seq vs n) (s : ShwA P w h ds vs.toList) : Shw P w h (.list ds) (.ref a) := by
  obtain ⟨as, ra⟩ := s.rd
  refine ⟨⟨_, .list h1 h2 h3 ra⟩, fun hs hl => ?_⟩
  obtain ⟨bs, q, na, p⟩ := list_items h1 h2 h3 s hs hl
  refine ⟨a :: bs, ReadAtMost.cons (.list h1 h2 h3 ra) (Nat.le_of_lt lt_list) q, ?_⟩
  simp only [PyData.shown, PyData.depth]
  obtain ⟨l⟩ := vs
  have el := all_len ra
  cases l with
  | nil =>
    cases ds with
    | cons d ds => cases el
    | nil =>
      simp only [PyData.shownAll]
      rw [listText_nil]
      exact ReprK.listEmpty h1 h2 h3
  | cons x l =>
    refine ReprK.list h1 h2 h3 na ?_ fun i y e => p.item i y (by simpa using e)
    rw [shownAll_len, ← el]
    simp
theorem shw_tup {a : Addr} {o : Obj} {vs : Array Value} {n : Nat} {ds : List D} (h1 : h.get? a = some o) (h2 : o.cls = .type "tuple") (h3 : o.data = .seq vs n) (s : ShwA P w h ds vs.toList) : Shw P w h (.tuple ds) (.ref a) := by
  obtain ⟨as, ra⟩ := s.rd
  refine ⟨⟨_, .tuple h1 h2 h3 ra⟩, fun hs hl => ?_⟩
  obtain ⟨bs, q, na, p⟩ := tup_items h1 h2 h3 s hs hl
  refine ⟨a :: bs, ReadAtMost.cons (.tuple h1 h2 h3 ra) (Nat.le_of_lt lt_tup) q, ?_⟩
  simp only [PyData.shown, PyData.depth]
  exact ReprK.tuple h1 h2 h3 na p
theorem shw_dict {a : Addr} {o : Obj} {es : Array DictEntry} {n : Nat} {kvs : List (D × D)} (h1 : h.get? a = some o) (h2 : o.cls = .type "dict") (h3 : o.data = .dict es n) (hsys : (a == sysModules) = false) (s1 : ShwA P w h (kvs.map (·.1)) (es.toList.map (·.key))) (s2 : ShwA P w h (kvs.map (·.2)) (es.toList.map (·.val))) : Shw P w h (.dict kvs) (.ref a) := by
  obtain ⟨a1, r1⟩ := s1.rd
  obtain ⟨a2, r2⟩ := s2.rd
  refine ⟨⟨_, .dict h1 h2 h3 r1 r2⟩, fun hs hl => ?_⟩
  obtain ⟨bs, q, na, p⟩ := dict_items h1 h2 h3 s1 s2 hs hl
  refine ⟨a :: bs, ReadAtMost.cons (.dict h1 h2 h3 r1 r2) (Nat.le_of_lt lt_dict) q, ?_⟩
  simp only [PyData.shown, PyData.depth]
  exact ReprK.dict h1 h2 h3 hsys na p
end
section
variable {X : Cx} {pins : List (Addr × Obj)} {σ : St} {H : Hp} {s : Shared}
theorem shw_int (i : Int) (t : Tok) : Shw X.prog X.w s.heap (.int i) (.int i t) := shw_is ⟨_, .int i t⟩ fun a _ => by
  simp only [PyData.shown]
  exact ReprIs.int t (by simpa [PyData.showable] using a)
theorem shw_str (x : Str) (t : Tok) : Shw X.prog X.w s.heap (.str x) (.str x t) := shw_is ⟨_, .str x t⟩ fun _ b => by
  simp only [PyData.shown] at b ⊢
  exact ReprIs.str x t b
theorem shw_key {k : Key} {u : Value} (h : keyIs k u = true) : Shw X.prog X.w s.heap (kD k) u := by
  rcases keyIs_shape h with ⟨i, t, rfl, rfl⟩ | ⟨x, t, rfl, rfl⟩
  · exact shw_int i t
  · exact shw_str x t
theorem shw_keys : ∀ {es : List DictEntry} {vs : List (Key × Value)} {kvs : List (Key × V)}, Pairs (mixKind X.prog X.w) es vs → KV kvs vs → ShwA X.prog X.w s.heap (kvs.map fun p => kD p.1) (es.map (·.key)) ∧ Vals (kvs.map (·.2)) (es.map (·.val))
  | _, _, _, .nil, .nil => ⟨shwA_nil, .nil⟩
  | _, _, _, .cons h1 h2 h3, .cons k1 k2 => by
    obtain ⟨q1, q2⟩ := shw_keys h3 k2
    refine ⟨shwA_cons ?_ q1, .cons ?_ q2⟩
    · have e := k1.1
      show Shw X.prog X.w s.heap (kD _) _
      rw [e]; exact shw_key h1
    · have := k1.2
      rw [← h2] at this
      exact this
theorem rp_shwA {n : Nat} (ih : ∀ (d : D) (v : V) (u : Value), d.depth ≤ n → Rp H v d → RelV v u → Shw X.prog X.w s.heap d u) : ∀ {ds : List D} {vs : List V} {us : List Value}, PyData.depthAll ds ≤ n → RpA H vs ds → Vals vs us → ShwA X.prog X.w s.heap ds us
  | _, _, _, _, .nil, .nil => shwA_nil
  | _, _, _, hn, .cons a1 a2, .cons b1 b2 => by
    simp only [PyData.depthAll] at hn
    exact shwA_cons (ih _ _ _ (by omega) a1 b1) (rp_shwA ih (by omega) a2 b2)
theorem rp_dct {B : Hp} {v : V} {xs : List (D × D)} (r : Rp B v (.dict xs)) : ∃ (a : Addr) (kvs : List (Key × V)) (ds : List D), v = .ref a ∧ B a = some (.dK kvs) ∧ RpA B (kvs.map (·.2)) ds ∧ xs.map (·.1) = kvs.map (fun p => kD p.1) ∧ xs.map (·.2) = ds := by
  cases r with
  | dct h1 h2 =>
    rename_i a kvs ds
    have l := rpa_len h2
    rw [List.length_map] at l
    exact ⟨a, kvs, ds, rfl, h1, h2, List.map_fst_zip (by rw [List.length_map]; omega), List.map_snd_zip (by rw [List.length_map]; omega)⟩
theorem rp_shw (I : Inv X pins σ H s) : ∀ (n : Nat) (d : D) (v : V) (u : Value), d.depth ≤ n → Rp H v d → RelV v u → Shw X.prog X.w s.heap d u := by
  intro n
  induction n with
  | zero =>
    intro d v u hn r ru
    cases d with
    | none => cases r; cases ru; exact shw_is ⟨_, .none⟩ fun _ _ => by simp only [PyData.shown]; exact ReprIs.none
    | bool b => cases r; cases ru; exact shw_is ⟨_, .bool b⟩ fun _ _ => by simp only [PyData.shown]; exact ReprIs.bool b
    | int i => cases r; obtain ⟨t, rfl⟩ := ru; exact shw_int i t
    | str x => cases r; obtain ⟨t, rfl⟩ := ru; exact shw_str x t
    | list ds => simp only [PyData.depth] at hn; omega
    | tuple ds => simp only [PyData.depth] at hn; omega
    | dict xs => simp only [PyData.depth] at hn; omega
  | succ n ih =>
    intro d v u hn r ru
    cases d with
    | none => exact ih _ _ _ (by simp [PyData.depth]) r ru
    | bool b => exact ih _ _ _ (by simp [PyData.depth]) r ru
    | int i => exact ih _ _ _ (by simp [PyData.depth]) r ru
    | str x => exact ih _ _ _ (by simp [PyData.depth]) r ru
    | list ds =>
      simp only [PyData.depth] at hn
      obtain ⟨a, vs, rfl, h1, h2⟩ := rp_lst r
      cases ru
      obtain ⟨its, rv, ⟨o, k, ho, hc, _, hdt⟩, _⟩ := I.list (SqL.of h1)
      exact shw_list ho hc hdt (rp_shwA ih (by omega) h2 rv)
    | tuple ds =>
      simp only [PyData.depth] at hn
      obtain ⟨a, vs, rfl, h1, h2⟩ := rp_tup r
      cases ru
      obtain ⟨its, rv, ⟨o, ho, hc, k, hdt⟩, _⟩ := I.tuple (SqT.of h1)
      exact shw_tup ho hc hdt (rp_shwA ih (by omega) h2 rv)
    | dict xs =>
      simp only [PyData.depth] at hn
      obtain ⟨a, kvs, ds, rfl, h1, h2, e1, e2⟩ := rp_dct r
      cases ru
      obtain ⟨_, hsys, vs0, rel, o, es, ep, ho, hex, hdt, _, hp, _⟩ := dk_of I.hok h1
      obtain ⟨q1, q2⟩ := shw_keys (s := s) hp rel
      have := PyData.depthAll_vals_le xs
      rw [e2] at this
      refine shw_dict ho hex.1 hdt hsys (by rw [e1]; exact q1) (by rw [e2]; exact rp_shwA ih (by omega) h2 q2)
/-- repr of any data -/
def bReprA : GB := fun ds Q => match ds with | [d] => PyData.showable d = true ∧ (PyData.shown d).length ≤ sizeLine ∧ PyData.depth d ≤ 60 ∧ Q (.str (PyData.shown d)) | _ => False
theorem m_ReprA : MonoB bReprA := fun ds Q Q' k h => by
  unfold bReprA at h ⊢
  split at h <;> first | exact h.elim | exact ⟨h.1, h.2.1, h.2.2.1, k _ h.2.2.2⟩
theorem c_reprA {c : C} (hgd : X.A.guards = some []) (hu : X.A.units + 64 < cLine) : CallD X c (.builtin "repr") bReprA := by
  refine ⟨m_ReprA, fun pins s σ H xs us Q I rv ⟨B, ds, w, ra, q⟩ => ?_⟩
  cases ds with
  | nil => exact q.elim
  | cons d r0 =>
  cases r0 with
  | cons _ _ => exact q.elim
  | nil =>
  obtain ⟨q1, q3, q4, q⟩ : PyData.showable d = true ∧ (PyData.shown d).length ≤ sizeLine ∧ PyData.depth d ≤ 60 ∧ ∀ v B' H', Gr c B H B' H' → Rp B' v (.str (PyData.shown d)) → Q v H' := q
  obtain ⟨v, e, r⟩ := ra.one
  subst e
  obtain ⟨u, rfl, ru⟩ := vals1 rv
  have fin : ∀ {h' : Heap} {tk : Tok} {t : Nat}, (∀ b o, s.heap.get? b = some o → h'.get? b = some o) → EP X pins σ Q (.str (PyData.shown d) tk) { s with heap := h', toks := t } := fun {h' tk t} hk => ⟨.str (PyData.shown d), H, I.kept hk, ⟨tk, rfl⟩, q _ B H (Gr.refl w) (.str _)⟩
  have here : ∀ {tk : Tok} {t : Nat}, EP X pins σ Q (.str (PyData.shown d) tk) { s with toks := t } := fun {tk t} => ⟨.str (PyData.shown d), H, I.tok _, ⟨tk, rfl⟩, q _ B H (Gr.refl w) (.str _)⟩
  have rH := r.rp w
  cases d with
  | dict xs =>
    simp only [PyData.depth] at q4
    obtain ⟨a, kvs, ds, rfl, h1, h2, e1, e2⟩ := rp_dct rH
    cases ru
    obtain ⟨_, hsys, vs0, rel, o, es, ep, ho, hex, hdt, _, hp, _⟩ := dk_of I.hok h1
    obtain ⟨p1, p2⟩ := shw_keys (s := s) hp rel
    have := PyData.depthAll_vals_le xs
    rw [e2] at this
    obtain ⟨bs, _, na, pE⟩ := dict_items (P := X.prog) (w := X.w) ho hex.1 hdt (by rw [e1]; exact p1) (by rw [e2]; exact rp_shwA (rp_shw I 60) (by omega) h2 p2) q1 q3
    refine call_repr_slot (by omega) ⟨o, ho, hex.1⟩ F.slot_dict_repr (call_dict_reprK ho hex.1 hdt hsys na pE hgd (fun b _ => Clear.nil b) (by show X.A.units + 1 + _ < cLine; omega) (fun _ _ z => z) (fun h' u tk hk => ⟨_, _, rfl, by simpa only [PyData.shown] using fin hk⟩) (by simpa only [PyData.shown] using q3))
  | list ds =>
    simp only [PyData.depth] at q4
    obtain ⟨a, vs, rfl, h1, h2⟩ := rp_lst rH
    cases ru
    obtain ⟨its, rvs, ⟨o, k, ho, hc, _, hdt⟩, _⟩ := I.list (SqL.of h1)
    have sA := rp_shwA (X := X) (rp_shw I 60) (by omega) h2 rvs
    obtain ⟨bs, _, na, pE⟩ := list_items (P := X.prog) (w := X.w) ho hc hdt sA q1 q3
    obtain ⟨as, ra⟩ := sA.rd
    have el := all_len ra
    cases its with
    | nil =>
      cases ds with
      | cons d ds => cases el
      | nil =>
        have en : (PyData.list []).shown = ("[]" : Str) := by simp only [PyData.shown, PyData.shownAll]; exact listText_nil
        rw [en] at here
        exact call_repr_slot (by omega) ⟨o, ho, hc⟩ F.slot_list_repr.toG (call_list_repr_empty ⟨o, ho, hc⟩ ho hdt ⟨_, _, rfl, here⟩)
    | cons x l =>
      refine call_repr_slot (by omega) ⟨o, ho, hc⟩ F.slot_list_repr.toG (call_list_reprK ho hc hdt na (by rw [shownAll_len, ← el]; simp) (fun i y e => pE.item i y (by simpa using e)) hgd (fun b _ => Clear.nil b) (by show X.A.units + 1 + _ < cLine; omega) (fun _ _ z => z) (fun h' u tk hk => ⟨_, _, rfl, by simpa only [PyData.shown] using fin hk⟩) (by simpa only [PyData.shown] using q3))
  | tuple ds =>
    simp only [PyData.depth] at q4
    obtain ⟨a, vs, rfl, h1, h2⟩ := rp_tup rH
    cases ru
    obtain ⟨its, rvs, ⟨o, ho, hc, k, hdt⟩, _⟩ := I.tuple (SqT.of h1)
    have sA := rp_shwA (X := X) (rp_shw I 60) (by omega) h2 rvs
    obtain ⟨bs, _, na, pE⟩ := tup_items (P := X.prog) (w := X.w) ho hc hdt sA q1 q3
    refine call_repr_slot (by omega) ⟨o, ho, hc⟩ F.slot_tuple_repr (call_tuple_reprK ho hc hdt na pE hgd (fun b _ => Clear.nil b) (by show X.A.units + 1 + _ < cLine; omega) (fun _ _ z => z) (fun h' u tk hk => ⟨_, _, rfl, by simpa only [PyData.shown] using fin hk⟩) (by simpa only [PyData.shown] using q3))
  | int i =>
    have e := r.int
    subst e
    obtain ⟨t, rfl⟩ := ru
    simp only [PyData.shown] at here
    exact PySem.P.repr_of_int (by simpa [PyData.showable] using q1) here
  | none =>
    have e := r.non
    subst e
    cases ru
    simp only [PyData.shown] at here
    exact PySem.P.repr_of_none here
  | bool b =>
    have e := r.bl
    subst e
    cases ru
    simp only [PyData.shown] at here
    exact PySem.P.repr_of_bool here
  | str x =>
    have e := r.str
    subst e
    obtain ⟨t, rfl⟩ := ru
    simp only [PyData.shown] at here q3
    exact PySem.P.repr_of_str here q3
end
end DL
namespace DL
open PySem L2 PySem.Spec PyProof.Rows
/-! ### dict displays: none, one entry -/
section
variable {X : Cx} {c : C}
theorem v_dict0 {pos : Pos} : PV X c (.Dict [] [] pos) (fC (.dict [])) :=
  ⟨fun _ _ _ k h => k _ h, pe_weak pe_dnewK fun σ H Q ⟨B, ρ, ok, h⟩ p hp => h (.ref p) _ _ (Gr.new (o := .dK []) ok.w hp) (.dct (kvs := []) (ds := []) upd_same .nil)⟩
theorem Gr.redo {B H B2 H2 : Hp} {p : Addr} {o : HO} (w : Wd c B H) (g : Gr c B H B2 H2) (h0 : H p = none) (h1 : B2 p = none) : Gr c B H (upd B2 p o) (upd H2 p o) := by
  have nb : ¬ c.isBag p := fun z => w.there z h0
  refine ⟨g.b.trans (Evl.Ex.new h1), fun a u n e => ?_, fun a ha => ?_, fun a u e => ?_, g.w.bag.keep fun a ha => ⟨upd_ne fun z => nb (z ▸ ha), upd_ne fun z => nb (z ▸ ha)⟩⟩
  · rw [upd_ne (ne_of_none e h0)]; exact g.h a u n e
  · rw [upd_ne (fun z => ha (by rw [z]; exact h0))]; exact g.n a ha
  · by_cases z : a = p
    · subst z
      rw [upd_same] at e ⊢
      exact e
    · rw [upd_ne z] at e ⊢
      exact g.w.sub a u e
def fDict1 (k : Key) (fa : SE) : SE := fun ρ Q => fa ρ fun d => Q (.dict [(kD k, d)])
theorem v_dict1 {ke e : Expr} {k : Key} {fa : SE} {pos : Pos} (hk : PE X ke (fun _ H Q => Q (kV k) H)) (he : PV X c e fa) : PV X c (.Dict [some ke] [e] pos) (fDict1 k fa) := by
  refine ⟨fun ρ Q Q' j h => he.mono _ _ _ (fun d hd => j _ hd) h, pe_weak (pe_disp (pps_cons hk he.pe pps_nil) rfl rfl (by simp) (by simp)) fun σ H Q ⟨B, ρ, ok, h⟩ p hp => ?_⟩
  have g1 := Gr.newO (o := .dK []) ok.w hp
  have nb : ¬ c.isBag p := fun z => ok.w.there z hp
  refine ⟨B, ρ, ok.mono g1, he.mono _ _ _ (fun d hd v B2 H2 g2 r2 => ?_) h⟩
  have e2 : H2 p = some (.dK []) := g2.h p _ nb upd_same
  have b2 : B2 p = none := by
    rw [g2.n p (by rw [upd_same]; exact fun z => nomatch z)]
    exact Evl.fresh_back ok.w.sub hp
  have G := Gr.redo (o := .dK [(k, v)]) ok.w (g1.trans ok.w g2) hp b2
  have m1 : mergeK [] [(k, v)] = [(k, v)] := rfl
  refine ⟨e2, [(k, v)], rfl, by simp, ?_⟩
  rw [m1]
  exact hd _ _ _ G (.dct (kvs := [(k, v)]) (ds := [d]) upd_same (.cons (rp_mono (Evl.Ex.new b2) r2) .nil))
theorem pk_int {i : Int} {j : Nat} {pos : Pos} : PE X (.Constant (.int i) j pos) (fun _ H Q => Q (kV (.inl i)) H) := pe_int
theorem pk_str {x : Str} {j : Nat} {pos : Pos} : PE X (.Constant (.str x) j pos) (fun _ H Q => Q (kV (.inr x)) H) := pe_str
end
/-! ### enumerate(a tuple) -/
open AutoSeq1 (wpAny_loadPart') in
theorem meets_enum_tup (t : Addr) (its : Array Value) (m : Nat) (od : Option Addr) (os : Array (Option Value)) :
    Meets (Builtin.«enumerate.__new__» ⟨[.type "enumerate", .ref t], []⟩) (fun _ R s => s.heap.get? t = some { cls := .type "tuple", dict := od, data := .seq its m, slots := os } ∧
      R (.ok (.ret (.ref (s.heap.push { cls := .type "tuple_iterator", data := .fields #[.ref t, .int 0 0] }).objs.size)))
        { s with heap := (s.heap.push { cls := .type "tuple_iterator", data := .fields #[.ref t, .int 0 0] }).push { cls := .type "enumerate", data := .fields #[.none, .bool false, .ref s.heap.objs.size, rawInt 0, .none, .none] } }) :=
  .of_wp fun prog w A R s h => by
    obtain ⟨hp, g, d, tk, osx⟩ := s
    obtain ⟨ht, h⟩ := h
    have sE := sub_enumerate
    have hT : Heap.IsTuple (Shared.heap ⟨hp, g, d, tk, osx⟩) t its := ⟨_, ht, rfl, m, rfl⟩
    wp_walk using wpAny_loadPart' ht
    refine wpAny_stack_any fun st => wpAny_pure ?_
    split
    · rename_i cx _ _ _ _ _
      cases (cx == Value.type "enumerate")
      · wp_walk using wpAny_loadPart' ht, wpAny_pyIter_tuple hT
        exact ⟨_, rfl, h⟩
      · wp_walk using wpAny_loadPart' ht, wpAny_pyIter_tuple hT
        exact ⟨_, rfl, h⟩
    · wp_walk using wpAny_loadPart' ht, wpAny_pyIter_tuple hT
      exact ⟨_, rfl, h⟩
section
variable {prog : Program} {w : World} {A : Around} {E : Value → Shared → Prop} {s : Shared}
theorem call_enum_tup {t : Addr} {its : Array Value} {Q : Value → Shared → Prop} (hT : s.heap.IsTuple t its)
    (h : ∀ h', IsEnum h' (s.heap.objs.size + 1) s.heap.objs.size 0 .none → h'.IsTupleIter s.heap.objs.size t 0 → (∀ b o, s.heap.get? b = some o → h'.get? b = some o) → Q (.ref (s.heap.objs.size + 1)) { s with heap := h' }) :
    wpAny (model prog w) A (call (.type "enumerate") [.ref t]) Q E s := by
  obtain ⟨⟨oc, od, dt, osl⟩, ht, e1, m, e2⟩ := hT
  simp only at e1 e2
  subst e1 e2
  refine callType_new F.called_enumerate (by decide) (F.typeCall_enumerate_1 _) (F.newCall_enumerate_1 _) (fun ob => F.args_object_init_2 ob _) F.entry_enumerate_new (meets_enum_tup t its m od osl) ⟨ht, ?_⟩
  have sz : (s.heap.push { cls := .type "tuple_iterator", data := .fields #[.ref t, .int 0 0] }).objs.size = s.heap.objs.size + 1 := Heap.size_push ..
  show _ ∧ _
  rw [sz]
  have he : IsEnum ((s.heap.push { cls := .type "tuple_iterator", data := .fields #[.ref t, .int 0 0] }).push { cls := .type "enumerate", data := .fields #[.none, .bool false, .ref s.heap.objs.size, rawInt 0, .none, .none] }) (s.heap.objs.size + 1) s.heap.objs.size 0 .none := by
    have q := Heap.get?_push_size (s.heap.push { cls := .type "tuple_iterator", data := .fields #[.ref t, .int 0 0] }) (o := { cls := .type "enumerate", data := .fields #[.none, .bool false, .ref s.heap.objs.size, rawInt 0, .none, .none] }) rfl
    rw [sz] at q
    exact q
  exact ⟨⟨_, he, rfl⟩, h _ he ⟨_, Heap.get?_push_of_some _ (Heap.get?_push_size _ rfl), rfl, rfl⟩ fun b o z => Heap.get?_push_of_some _ (Heap.get?_push_of_some _ z)⟩
end
/-- the tuple at a, its items in new pairs -/
def IteT (K : PySem.W.Frag) (a : Addr) : It :=
  ⟨fun i H => ∃ (xs : List V) (x : V), SqT K H a xs ∧ xs[i]? = some x, fun i H v H' => ∃ T x, v = .ref T ∧ H T = none ∧ H' = upd H T (.tup [.int (i : Nat), x]) ∧ ∀ xs, SqT K H a xs → xs[i]? = some x, fun i H => ∃ xs : List V, SqT K H a xs ∧ xs.length ≤ i⟩
theorem turn_enumT {P : Program} {w : World} {K : PySem.W.Frag} {elts : List Expr} {kk : Nat} {tpos : Pos} (a e it : Addr) (hai : a ≠ it) (hea : e ≠ a) :
    Turn P w K (.Tuple elts kk tpos) (IteT K a) [e, it] e (fun i h => (∃ old, IsEnum h e it ((i : Nat) : Int) old) ∧ h.IsTupleIter it a i ∧ e ≠ it) where
  mem := by simp
  obj := fun i h st b hb => by
    obtain ⟨⟨old, q1⟩, ⟨o, q2, _, q3⟩, _⟩ := st
    rcases (by simpa using hb : b = e ∨ b = it) with z | z
    · rw [z]; exact ⟨_, q1, fun v y => nomatch y⟩
    · rw [z]; exact ⟨o, q2, fun v y => by rw [q3] at y; cases y⟩
  keep := fun i h h' st k => ⟨⟨st.1.choose, k e (by simp) _ st.1.choose_spec⟩, st.2.1.at fun o q => k it (by simp) o q, st.2.2⟩
  item := by
    intro X hP hw hK hc i pins s σ H E I hf st hg
    subst hP hw hK
    obtain ⟨⟨old, q1⟩, q2, q3⟩ := st
    obtain ⟨xs, x, hq, hx⟩ := hg
    obtain ⟨its, rv, p, hz⟩ := I.tuple hq
    obtain ⟨u, hu, ru⟩ := rv.get hx
    have l1 : e < s.heap.objs.size := Heap.lt_size q1
    have l2 : it < s.heap.objs.size := by
      obtain ⟨_, y, _⟩ := q2
      exact Heap.lt_size y
    have hi : i < its.toArray.size := by
      rw [List.size_toArray, ← rv.length]
      exact (List.getElem?_eq_some_iff.mp hx).1
    have D := Draws.tuple (prog := X.prog) (w := X.w) (A := X.A.in1) (I.ok.hd hc) it a hai its.toArray
    refine wpAny_pyNext_enum_itemD D q1 ⟨q2, p⟩ hi q3 (by simp [q3, hea]) fun y h' tk hy ho st' hT hsz hk => ?_
    have ey : y = u := by
      have : its[i]? = some y := by simpa using hy
      rw [hu] at this
      exact (Option.some.inj this).symm
    subst ey
    refine ⟨_, rfl, wpAny_letOwnedTupleGo_enum (s := { s with heap := h', toks := tk + 1 }) ho fun h'' he' sb => ?_⟩
    have hT2 : h''.get? s.heap.objs.size = some { cls := .type "tuple", data := .seq #[.int i tk, y] } := (sb.2 _ (Nat.ne_of_gt l1)).trans hT
    have new : ObjOk X.prog X.w (upd H s.heap.objs.size (.tup [.int (i : Nat), x])) h'' s.heap.objs.size (.tup [.int (i : Nat), x]) :=
      ⟨by show 2 ≤ sizeLine; decide, [.int i tk, y], .cons ⟨_, rfl⟩ (.cons ru .nil), ⟨_, hT2, rfl, _, rfl⟩⟩
    have I1 : Inv X pins σ (upd H s.heap.objs.size (.tup [.int (i : Nat), x])) { s with heap := h'', toks := tk + 1 } :=
      I.turnedNew (ch := [e, it]) (fun b ob hb q => (sb.2 b (fun z => hb (by simp [z]))).trans (hk b ob (fun z => hb (by simp [z])) (fun z => hb (by simp [z])) q)) hf (Nat.le_refl _) new
    have e1 : ((i + 1 : Nat) : Int) = (i : Int) + 1 := by omega
    refine ⟨.ref s.heap.objs.size, _, I1, rfl, ⟨_, x, rfl, I.hok.fresh (Nat.le_refl _), rfl, fun ys hy => by rw [I.tuple_inj hy hq]; exact hx⟩, ⟨⟨y, by rw [e1]; exact he'⟩, st'.1.at fun o q => (sb.2 it (Ne.symm q3)).trans q, q3⟩, fun b hb => ?_⟩
    have l3 : b < s.heap.objs.size := by
      rcases (by simpa using hb : b = e ∨ b = it) with z | z <;> rw [z] <;> assumption
    rw [upd_ne (Nat.ne_of_lt l3)]
    exact (hf b hb).1
  done := by
    intro X hP hw hK hc i pins s σ H E I hf st hg
    subst hP hw hK
    obtain ⟨⟨old, q1⟩, q2, q3⟩ := st
    obtain ⟨xs, hq, hx⟩ := hg
    obtain ⟨its, rv, p, hz⟩ := I.tuple hq
    obtain ⟨f0, f1, _, f3, f4, f5⟩ := hf it (by simp)
    have hn : its.toArray[i]? = none := by
      have := rv.length
      simp only [List.getElem?_toArray, List.getElem?_eq_none_iff]
      omega
    have D : Draws X.prog X.w X.A.in1 it [it, a] i (fun _ _ => True) (fun j h => j = i ∧ h.IsTupleIter it a i ∧ h.IsTuple a its.toArray) :=
      { live := fun j h st => st.2.1.elim fun o z => ⟨o, z.1⟩
        frame := fun j h h' st k => ⟨st.1, st.2.1.at fun o z => k it (by simp) o z, st.2.2.at fun o z => k a (by simp) o z⟩
        item := fun j s Q E hj st _ => absurd st.1 (Nat.ne_of_lt hj)
        done := fun s Q E st hE => wpAny_nextOf_tuple_end (I.ok.hd hc) st.2.1 st.2.2 hn hE }
    exact wpAny_pyNext_enum_endD D q1 ⟨rfl, q2, p⟩ fun h' eb => ⟨rfl, I.turned (t' := s.toks) (fun b o hb z => eb b o hb z) f0 f1 f3 f4 f5⟩
  self := fun A i s Q E st h => let ⟨⟨_, he⟩, _⟩ := st; wpAny_pyIter_enum he h
def iEnumT (K : PySem.W.Frag) (ta : TA) : TI := fun σ H R => ta σ H fun vs H1 => ∃ a xs, vs = [.ref a] ∧ SqT K H1 a xs ∧ R (IteT K a) H1
theorem pi_enumT {X : Cx} {e : Expr} {ta : TA} {p pos tpos : Pos} {elts : List Expr} {kk : Nat} (hg : Gl X "enumerate") (hm : X.mg "enumerate" = none) (ha : PA X [e] ta) (hs : starEach [e] X.env = [(false, eval e X.env)] := by rfl) :
    L2.PI X (.Tuple elts kk tpos) (.Call (.Name "enumerate" p) [e] [] pos) (iEnumT X.K ta) := by
  refine ⟨fun pins s σ H R I h => Call_ (ld_blt I hg hm boot_enumerate (PyProof.Rows.callWith_type1 (thn (ha.run pos pins s σ H _ I h) fun us s1 ⟨vs, H1, I1, r1, a, xs, ex, hq, q⟩ => ?_) hs rfl))⟩
  subst ex
  rw [Vals.ref1 r1]
  obtain ⟨its, rv, pt, hz⟩ := I1.tuple hq
  refine call_enum_tup pt fun h' he hit hk => wpAny_pyIter_enum he ?_
  have la : a < s1.heap.objs.size := by
    obtain ⟨o, z, _⟩ := pt
    exact Heap.lt_size z
  refine ⟨s1.heap.objs.size + 1, [s1.heap.objs.size + 1, s1.heap.objs.size], _, _, H1, rfl, I1.kept (t' := s1.toks) hk, turn_enumT a (s1.heap.objs.size + 1) s1.heap.objs.size (Nat.ne_of_lt la) (Nat.ne_of_gt (Nat.lt_succ_of_lt la)), ⟨⟨.none, he⟩, hit, Nat.succ_ne_self _⟩, fun b hb => ?_, q⟩
  have hle : s1.heap.objs.size ≤ b := by
    rcases (by simpa using hb : b = s1.heap.objs.size + 1 ∨ b = s1.heap.objs.size) with z | z
    · rw [z]; exact Nat.le_succ _
    · rw [z]; exact Nat.le_refl _
  exact I1.fpOk hle (I1.hok.fresh hle)
section
variable {X : Cx} {c : C} {elts : List Expr} {kk : Nat} {tpos : Pos}
def fEnumT (fa : SE) : SI := fun ρ Q => fa ρ fun d => match d with | .tuple ds => Q (enumD 0 ds) | _ => False
theorem i_enumT {e : Expr} {fa : SE} {p pos : Pos} (hm : X.mg "enumerate" = none) (ha : PV X c e fa) (hg : Gl X "enumerate" := by rfl) (hs : starEach [e] X.env = [(false, eval e X.env)] := by rfl) : PItd X c (.Tuple elts kk tpos) (.Call (.Name "enumerate" p) [e] [] pos) (fEnumT fa) := by
  refine ⟨fun ρ Q Q' k h => ha.mono _ _ _ (fun d hd => ?_) h, pi_weak (pi_enumT hg hm (pa_cons ha.pe pa_nil (by rw [hs]; rfl)) hs) fun σ H R ⟨B, ρ, ok, h⟩ => ⟨B, ρ, ok, ha.mono _ _ _ (fun d hd v B' H' g r => ?_) h⟩⟩
  · cases d <;> first | exact hd.elim | exact k _ hd
  · cases d <;> first | exact hd.elim | skip
    rename_i ds
    obtain ⟨a, xs, rfl, h1, h2⟩ := rp_tup r
    refine ⟨a, xs, rfl, SqT.of (g.w.sub _ _ h1), hd _ B' H' g fun i B1 H1 e1 w => ?_⟩
    have h3 : H1 a = some (.tup xs) := w.sub _ _ (e1 _ _ h1)
    refine ⟨fun hi => ⟨xs, SqT.of h3, by rw [rpa_len h2]; rw [enumD_len] at hi; exact hi⟩, fun d hd' => ?_⟩
    obtain ⟨x, h4, h5⟩ := enumD_get hd'
    obtain ⟨y, h6, h7⟩ := rpa_get h2 h4
    refine ⟨⟨xs, y, SqT.of h3, h6⟩, fun z H2 ⟨T, u, e2, hT, e3, hy⟩ => ?_⟩
    subst e2 e3 h5
    have hu := hy xs (SqT.of h3)
    rw [h6] at hu
    cases hu
    have gn := Gr.new (o := .tup [.int (i : Nat), y]) w hT
    refine ⟨_, gn, .tup upd_same (.cons ?_ (.cons (rp_mono gn.b (rp_mono e1 h7)) .nil))⟩
    have e0 : ((0 + i : Nat) : Int) = (i : Int) := by omega
    rw [e0]
    exact .int _
end
end DL
namespace DL
open PySem L2 PySem.Spec PyProof.Rows
section
variable {X : Cx} {c : C}
def mx2 (i j : Int) : Int := if j > i then j else i
theorem nu_mx2 (i j : Int) : nuMax2 (.int i) (.int j) = some (.int (mx2 i j)) := by
  unfold mx2
  show (some (decide (i < j))).map _ = _
  by_cases h : i < j
  · rw [if_pos h, decide_eq_true h]; rfl
  · rw [if_neg h, decide_eq_false h]; rfl
def bMax3 : GB | [.int i, .int j, .int k], Q => Q (.int (mx2 (mx2 i j) k)) | _, _ => False
theorem m_Max3 : MonoB bMax3 := fun ds Q Q' k h => by
  unfold bMax3 at h ⊢
  split at h <;> first | exact k _ h | exact h.elim
theorem c_max3 (hc : X.calm = true) : CallD X c (.builtin "max") bMax3 := ⟨m_Max3, callr_weak (call_max3Nu hc) fun xs H Q ⟨B, ds, w, ra, q⟩ => by
  unfold bMax3 at q
  split at q <;> first | exact q.elim | skip
  cases xs with
  | nil => exact ra.elim
  | cons v xs =>
    obtain ⟨r1, ra⟩ := ra
    obtain ⟨u, x, e, r2, r3⟩ := BwA.two ra
    subst e
    rw [r1.int, r2.int, r3.int]
    refine ⟨_, _, _, _, rfl, ?_, q _ B H (Gr.refl w) (.int _)⟩
    unfold nuMax3
    rw [nu_mx2]
    exact nu_mx2 _ _⟩
end
end DL
namespace DL
open PySem L2 PySem.Spec PyProof.Rows
/-! ### defs that hand a new list back -/
def toSpO (G : C → Prop) (S : Spec) : Sp := fun vs H Q _ => ∃ c : C, G c ∧ c.H0 = H ∧ Wd c c.B0 H ∧ ∃ ss, ArgsOk c c.B0 H vs ss ∧ S ss fun d => ∃ ds, d = .list ds ∧ ∀ p ws B' H', Gr c c.B0 H B' H' → H p = none → B' p = none → H' p = some (.lst ws) → RpA B' ws ds → Q (.ref p) H'
structure FnO (G : C → Prop) (P : Program) (w : World) (K : PySem.W.Frag) (mg : Str → Option Value) (base : Heap) (k : Nat) (f : Addr) (fd : FuncData) (ps : List Str) (S : Spec) : Prop where
  mono : ∀ ss (Q Q' : D → Prop), (∀ d, Q d → Q' d) → S ss Q → S ss Q'
  len : ∀ ss Q, S ss Q → ss.length = ps.length
  run : ∀ (A : Around) (outer : List PySem.Env) (s : Shared) (H : Hp) (args : Args) (us : List Value) (vs : List V) (Q : VK), A.guards = some [] → Room k A → Env0 P w K mg base A outer s H →
    BindsTo s fd args (ps.zip us) → Vals vs us → toSpO G S vs H Q E0 → codeAny (model P w) A (.call (.ref f) args) (CR CX0 outer P w H s Q E0) s
theorem FnO.up {G : C → Prop} {P : Program} {w : World} {K : PySem.W.Frag} {mg : Str → Option Value} {base : Heap} {j k : Nat} {f : Addr} {fd : FuncData} {ps : List Str} {S : Spec} (F : FnO G P w K mg base j f fd ps S) (h : j ≤ k) : FnO G P w K mg base k f fd ps S :=
  ⟨F.mono, F.len, fun A outer s H args us vs Q hg hr => F.run A outer s H args us vs Q hg (hr.mono h)⟩
/-- the end of such a def -/
def endsOfO (Q : D → Prop) : En := ⟨fun _ => False, fun _ => False, fun _ => False, fun _ => False, fun ds => Q (.list ds)⟩
section
variable {G : C → Prop} {P : Program} {w : World} {K : PySem.W.Frag} {mg : Str → Option Value} {base : Heap}
theorem fno_of {x qual : Str} {st : Stmt} {f : Addr} {fd : FuncData} {N ps : List Str} {k : Nat} {S : Spec} (F : Fun K x qual st f fd) (sc : FnScope N ps (defScope st)) (mono : ∀ ss (Q Q' : D → Prop), (∀ d, Q d → Q' d) → S ss Q → S ss Q') (len : ∀ ss Q, S ss Q → ss.length = ps.length)
    (body : ∀ (cdv : Value) (A : Around) (outer : List PySem.Env) (s : Shared) (c : C), G c → A.guards = some [] → Room k (A.deeper (envOfC qual (defScope st) s.heap.objs.size f cdv)) →
      ∃ g, PSsd (cxOf CX0 P w K mg base N qual (defScope st) f cdv A outer s c.H0 E0).nox c (defBody st) g ∧ ∀ ss Q, S ss Q → g (endsOfO Q) (initE N ss)) : FnO G P w K mg base (k + 1) f fd ps S := by
  obtain ⟨oc, od, kV, doc, pm, an, cdv, ct, osl, rfl, lk', hcd⟩ := F.ex
  refine ⟨mono, len, ?_⟩
  intro A outer s H args us vs Q hg hr e0 hb r hsp
  obtain ⟨c, hG, hH, wd, ss, ha, hS⟩ := hsp
  subst hH
  have hvl : vs.length = ps.length := by rw [ha.len]; exact len _ _ hS
  have stands : ∀ b o, base.get? b = some o → s.heap.get? b = some o := fun b o z => (e0.bs b o z).1
  have KX : K.In s.heap := e0.mod.kin.keeps stands
  refine codeAny_call_function hr.depth (KX _ _ lk') rfl sc.co sc.gen rfl (PySem.W.codeRec_of KX hcd) (hb _ _ _ _ (wpAny_newFunctionEnv_cells sc.kind ?_ ?_))
  · rintro ⟨n, v⟩ hy
    rcases sc.par n (List.of_mem_zip hy).1 with q | q
    · exact Or.inl q
    · exact Or.inr ⟨q, PySem.W.cellsFrom_some _ _ _ (Or.inl q)⟩
  · intro env he s1 x
    subst he
    refine ⟨(e0.mod.nolimit.keeps stands).keeps x.toInCall.keep, codeAny_func ?_⟩
    obtain ⟨g, hg1, hg2⟩ := body cdv A outer s c hG hg (hr.deeper _)
    have I := inv_start (CX := CX0) (E := E0) (qual := qual) sc hr.hd e0 hvl r x
    have ok := EOk.init (N := N) wd ha
    have goal := hg1.ps.nox.run [] s1 (L2.start N vs) c.H0 { nx := fun _ H' => False, rt := Q } I ⟨c.B0, initE N ss, ok, hg1.mono (endsOfO fun d => ∃ ds, d = .list ds ∧ ∀ p ws B' H', Gr c c.B0 c.H0 B' H' → c.H0 p = none → B' p = none → H' p = some (.lst ws) → RpA B' ws ds → Q (.ref p) H') _ _ ⟨fun ρ h => h.elim, fun _ h => h.elim, fun _ h => h.elim, fun _ h => h.elim, fun ds h => by
      obtain ⟨es, e, h⟩ := h
      cases e
      exact h⟩ (hg2 ss _ hS)⟩
    refine wpAny_mono goal (fun fl s' hs => ?_) fun _ _ z => z
    cases fl with
    | ret u =>
      obtain ⟨v, σ', H', J, rv, q⟩ := hs
      exact ⟨v, H', J.os, J.bare, J.base, J.hok, rv, q⟩
    | next =>
      obtain ⟨σ', H', J, q⟩ := hs
      exact q.elim
    | brk => exact hs.elim fun _ z => z.elim fun _ y => y.2.elim
    | cont => exact hs.elim fun _ z => z.elim fun _ y => y.2.elim
end
def fCallO (S : Spec) (fa : SA) : SL := fun ρ Q => fa ρ fun ss => S ss fun d => match d with | .list ds => Q ds | _ => False
def fCallOK (S : Spec) (is : List Nat) (fa : SA) : SL := fun ρ Q => fa ρ fun ss => S (perm is ss) fun d => match d with | .list ds => Q ds | _ => False
section
variable {G : C → Prop} {X : Cx} {c : C} {k : Nat} {f : Addr} {fd : FuncData} {ps : List Str} {S : Spec}
theorem run_fno {pins : List (Addr × Obj)} {σ : St} {H : Hp} {s : Shared} {Q : VK} {args : Args} {us : List Value} {vs : List V} (F : FnO G X.prog X.w X.K X.mg X.base k f fd ps S) (hgd : X.A.guards = some []) (hr : Room k X.A) (I : Inv X pins σ H s)
    (hb : BindsTo s fd args (ps.zip us)) (r : Vals vs us) (h : toSpO G S vs H Q E0) : codeAny (model X.prog X.w) X.A (.call (.ref f) args) (wants (EP X pins σ Q) X.xe) s := by
  refine codeAny_mono (F.run X.A X.stack s H args us vs Q hgd hr I.env0 hb r h) fun z s' hq => ?_
  cases z with
  | error e => exact False.elim hq
  | ok fl => cases fl <;> first | exact I.after hq | exact False.elim hq
theorem toSpO_of {B H B1 H1 : Hp} {Q : VK} {vs : List V} {ss : List Sl} (hG : ∀ B1 H1, G { c with B0 := B1, H0 := H1 }) (w0 : Wd c B H) (g : Gr c B H B1 H1) (F : FnO G X.prog X.w X.K X.mg X.base k f fd ps S) (r : ArgsOk c B1 H1 vs ss)
    (h : S ss fun d => ∃ ds, d = .list ds ∧ ∀ p ws B' H', Gr c B H B' H' → H p = none → B' p = none → H' p = some (.lst ws) → RpA B' ws ds → Q (.ref p) H') : toSpO G S vs H1 Q E0 :=
  ⟨{ c with B0 := B1, H0 := H1 }, hG _ _, rfl, ⟨g.w.sub, g.w.bag.again⟩, ss, by
    have conv : ∀ {vs : List V} {ss : List Sl}, ArgsOk c B1 H1 vs ss → ArgsOk { c with B0 := B1, H0 := H1 } B1 H1 vs ss := by
      intro vs
      induction vs with
      | nil => intro ss h; cases ss with
        | nil => trivial
        | cons _ _ => exact h
      | cons v vs ih => intro ss h; cases ss with
        | nil => exact h
        | cons s ss => exact ⟨by cases s <;> exact h.1, ih h.2⟩
    exact conv r, F.mono _ _ _ (fun d ⟨ds, e, hd⟩ => ⟨ds, e, fun p ws B' H' g2 h0 h1 h2 r2 => hd p ws B' H' (g.trans w0 ⟨g2.b, g2.h, g2.n, ⟨g2.w.sub, ⟨g2.w.bag.out, g2.w.bag.here, g2.w.bag.ok⟩⟩⟩) (g.back h0) h1 h2 r2⟩) h⟩
theorem mO {Q Q' : List D → Prop} (k : ∀ ds, Q ds → Q' ds) : ∀ d : D, (match d with | .list ds => Q ds | _ => False) → (match d with | .list ds => Q' ds | _ => False) := fun d h => by
  cases d <;> first | exact h.elim | exact k _ h
theorem listO {B H : Hp} {Q : VK} {Q' : List D → Prop} (k : ∀ ds, Q' ds → ∀ p ws B' H', Gr c B H B' H' → H p = none → B' p = none → H' p = some (.lst ws) → RpA B' ws ds → Q (.ref p) H') : ∀ d : D, (match d with | .list ds => Q' ds | _ => False) →
    ∃ ds, d = .list ds ∧ ∀ p ws B' H', Gr c B H B' H' → H p = none → B' p = none → H' p = some (.lst ws) → RpA B' ws ds → Q (.ref p) H' := fun d h => by
  cases d <;> first | exact h.elim | exact ⟨_, rfl, k _ h⟩
theorem n_callO {x : Str} {p pos : Pos} {e : Expr} {es : List Expr} {fa : SA} (F : FnO G X.prog X.w X.K X.mg X.base k f fd ps S) (hG : ∀ B1 H1, G { c with B0 := B1, H0 := H1 }) (hgd : X.A.guards = some []) (hr : Room k X.A) (hm : X.mg x = some (.ref f)) (hk : PySem.W.keepIn X.K (.ref f) = true) (hb : Binds X.K fd ps []) (ha : PAd X c (e :: es) fa)
    (hg : Gl X x := by rfl) (hdb : (x == ("__debug__" : Str)) = false := by decide) (he : starEach (e :: es) X.env = (false, eval e X.env) :: starEach es X.env := by rfl) (hpl : (backTo pos (starEach es X.env)).any (·.1) = false := by rfl) :
    PN X c (.Call (.Name x p) (e :: es) [] pos) (fCallO S fa) := by
  refine ⟨fun ρ Q Q' k h => ha.mono _ _ _ (fun ss hs => F.mono _ _ _ (mO k) hs) h, ⟨fun pins s σ H Q I ⟨B, ρ, ok, h⟩ => wpAny_Call_Name_kw (ld_glob I hg hm (PySem.W.callWith_K (h₀ := X.base) I.ok.mod.kin hk (wpAny_mono (ha.pa.run pos pins s σ H
    (fun vs H1 => ∃ B1 ss, Gr c B H B1 H1 ∧ ArgsOk c B1 H1 vs ss ∧ S ss fun d => ∃ ds, d = .list ds ∧ ∀ p ws B' H', Gr c B H B' H' → H p = none → B' p = none → H' p = some (.lst ws) → RpA B' ws ds → Q (.ref p) H') I ⟨B, ρ, ok, ha.mono _ _ _ (fun ss hs vs B1 H1 g r => ⟨B1, ss, g, r, F.mono _ _ _ (listO fun ds q => q) hs⟩) h⟩) (fun us s1 hv => ?_) fun _ _ z => z) he hpl) hdb)⟩⟩
  obtain ⟨vs, H1, I1, rv, B1, ss, g, ra, hS⟩ := hv
  have hl : us.length = ps.length := by rw [← rv.length, ra.len]; exact F.len _ _ hS
  refine ⟨I1.kIn, wpAny_call (run_fno F hgd hr I1 ?_ rv (toSpO_of hG ok.w g F ra hS))⟩
  have := hb s1 us I1.kIn (by rw [List.append_nil]; exact hl)
  rw [List.append_nil] at this
  exact this
end
def KnO (P : Program) (w : World) (K : PySem.W.Frag) (mg : Str → Option Value) (base : Heap) (k : Nat) (x : Str) (ps : List Str) (S : Spec) : Prop :=
  ∃ f fd, FnO IsLst P w K mg base k f fd ps S ∧ mg x = some (.ref f) ∧ PySem.W.keepIn K (.ref f) = true ∧ Binds K fd ps []
theorem KnO.up {P : Program} {w : World} {K : PySem.W.Frag} {mg : Str → Option Value} {base : Heap} {j k : Nat} {x : Str} {ps : List Str} {S : Spec} (h : KnO P w K mg base j x ps S) (l : j ≤ k) : KnO P w K mg base k x ps S :=
  let ⟨f, fd, h1, h2⟩ := h
  ⟨f, fd, h1.up l, h2⟩
theorem KnO.mk {P : Program} {w : World} {K : PySem.W.Frag} {mg : Str → Option Value} {base : Heap} {k : Nat} {x : Str} {ps : List Str} {S : Spec} {f : Addr} {fd : FuncData} (h : FnO IsLst P w K mg base k f fd ps S) (h1 : mg x = some (.ref f)) (h2 : PySem.W.keepIn K (.ref f) = true) (h3 : Binds K fd ps []) : KnO P w K mg base k x ps S := ⟨f, fd, h, h1, h2, h3⟩
section
variable {X : Cx} {c : C} {k : Nat} {ps : List Str} {S : Spec}
theorem n_callX {x : Str} {p pos : Pos} {e : Expr} {es : List Expr} {fa : SA} (F : KnO X.prog X.w X.K X.mg X.base k x ps S) (hG : IsLst c) (hgd : X.A.guards = some []) (hr : Room k X.A) (ha : PAd X c (e :: es) fa)
    (hg : Gl X x := by rfl) (hdb : (x == ("__debug__" : Str)) = false := by decide) (he : starEach (e :: es) X.env = (false, eval e X.env) :: starEach es X.env := by rfl) (hpl : (backTo pos (starEach es X.env)).any (·.1) = false := by rfl) :
    PN X c (.Call (.Name x p) (e :: es) [] pos) (fCallO S fa) := by
  obtain ⟨f, fd, h1, h2, h3, h4⟩ := F
  exact n_callO h1 hG.up hgd hr h2 h3 h4 ha hg hdb he hpl
/-- xs + ys, a new list -/
def fCat (fa fb : SE) : SL := fun ρ Q => fa ρ fun d => fb ρ fun e => match d, e with | .list xs, .list ys => xs.length + ys.length ≤ sizeLine ∧ Q (xs ++ ys) | _, _ => False
theorem n_cat {a b : Expr} {fa fb : SE} {pos : Pos} (ha : PB X c a fa) (hb : PB X c b fb) : PN X c (.BinOp a .Add b pos) (fCat fa fb) := by
  refine ⟨fun ρ Q Q' k h => ha.mono _ _ _ (fun d hd => hb.mono _ _ _ (fun e he => ?_) hd) h, pe_weak (pe_op op_cat ha.pe hb.pe) fun σ H Q ⟨B, ρ, ok, h⟩ => ⟨B, ρ, ok, ha.mono _ _ _ (fun d hd v B1 H1 g1 r1 => ⟨B1, ρ, ok.mono g1, hb.mono _ _ _ (fun e he u B2 H2 g2 r2 => ?_) hd⟩) h⟩⟩
  · cases d <;> cases e <;> first | exact he.elim | exact ⟨he.1, k _ he.2⟩
  · cases d <;> cases e <;> first | exact he.elim | skip
    obtain ⟨x, xs, rfl, h1, h2⟩ := (r1.mono g2).list g2.w
    obtain ⟨y, ys, rfl, h3, h4⟩ := r2.list g2.w
    refine ⟨x, y, xs, ys, rfl, rfl, h1, h3, by rw [rpa_len h2, rpa_len h4]; exact he.1, fun p hp => ?_⟩
    have g3 := Gr.newO (o := .lst (xs ++ ys)) g2.w hp
    exact he.2 p _ B2 _ ((g1.trans ok.w g2).trans ok.w g3) ((g1.trans ok.w g2).back hp) (Evl.fresh_back g2.w.sub hp) upd_same (rpa_app h2 h4)
end
end DL
namespace DL
open PySem L2 PySem.Spec PyProof.Rows
/-! ### is True, is False -/
def isBool (b : Bool) : D → Bool | .bool a => decide (a = b) | _ => false
def gIsB : GC | d, .bool b, Q => Q (isBool b d) | _, _, _ => False
theorem m_IsB : MonoC gIsB := fun d e Q Q' k h => by cases e <;> first | exact k _ h | exact h.elim
section
variable {X : Cx} {c : C}
theorem op_isBA : OpR X (compareOp .Is) fun x y H Q => ∃ b : Bool, y = .bl b ∧ Q (.bl (match x with | .bl a => decide (a = b) | _ => false)) H := by
  intro pins s σ H x y v u Q I rx ry ⟨b, e, q⟩
  subst e
  cases (show u = Value.bool b from ry)
  have no : plainIs v (.bool b) = true → (∀ a, v ≠ Value.bool a) → Q (.bl false) H → wpAny (model X.prog X.w) X.A (compareOp .Is v (.bool b)) (EP X pins σ Q) X.xe s := fun hp hn hq =>
    wpAny_is_other hp (hn b) ⟨.bl false, H, I, rfl, hq⟩
  cases x with
  | bl a =>
    cases (show v = Value.bool a from rx)
    by_cases e : a = b
    · subst e
      exact wpAny_is_self rfl ⟨.bl true, H, I, rfl, by simpa using q⟩
    · exact wpAny_is_other rfl (fun z => e (Value.bool.inj z)) ⟨.bl false, H, I, rfl, by simpa [e] using q⟩
  | non => cases (show v = Value.none from rx); exact no rfl (fun _ z => nomatch z) q
  | int i => obtain ⟨t, e⟩ := rx; subst e; exact no rfl (fun _ z => nomatch z) q
  | str i => obtain ⟨t, e⟩ := rx; subst e; exact no rfl (fun _ z => nomatch z) q
  | byt i => obtain ⟨t, e⟩ := rx; subst e; exact no rfl (fun _ z => nomatch z) q
  | flt i => obtain ⟨t, e⟩ := rx; subst e; exact no rfl (fun _ z => nomatch z) q
  | ref a => cases (show v = Value.ref a from rx); exact no rfl (fun _ z => nomatch z) q
  | ty n => cases (show v = Value.type n from rx); exact no rfl (fun _ z => nomatch z) q
theorem o_isB : CmpD X c .Is gIsB := ⟨m_IsB, opr_weak op_isBA fun x y H Q ⟨B, d, e, w, r1, r2, q⟩ => by
  cases e <;> first | exact q.elim | skip
  rename_i b
  refine ⟨b, r2.bl, ?_⟩
  rcases r1 with r | ⟨p, vs, ds, rfl, rfl, _⟩
  · cases r <;> exact q
  · exact q⟩
/-! ### [x, ..] * n, xs[::-1], a new list either way -/
def fRepL (fa fb : SE) : SL := fun ρ Q => fa ρ fun d => fb ρ fun e => match d, e with | .list xs, .int k => (-(2 ^ 63) ≤ k ∧ k < 2 ^ 63 ∧ xs.length * k.toNat ≤ sizeLine) ∧ Q (List.replicate k.toNat xs).flatten | _, _ => False
theorem rpa_repL {B : Hp} {vs : List V} {ds : List D} (h : RpA B vs ds) : ∀ k : Nat, RpA B (List.replicate k vs).flatten (List.replicate k ds).flatten
  | 0 => .nil
  | k + 1 => by rw [List.replicate_succ, List.replicate_succ, List.flatten_cons, List.flatten_cons]; exact rpa_app h (rpa_repL h k)
theorem n_repL {a b : Expr} {fa fb : SE} {pos : Pos} (ha : PB X c a fa) (hb : PB X c b fb) : PN X c (.BinOp a .Mult b pos) (fRepL fa fb) := by
  refine ⟨fun ρ Q Q' k h => ha.mono _ _ _ (fun d hd => hb.mono _ _ _ (fun e he => ?_) hd) h, pe_weak (pe_op op_rep ha.pe hb.pe) fun σ H Q ⟨B, ρ, ok, h⟩ => ⟨B, ρ, ok, ha.mono _ _ _ (fun d hd v B1 H1 g1 r1 => ⟨B1, ρ, ok.mono g1, hb.mono _ _ _ (fun e he u B2 H2 g2 r2 => ?_) hd⟩) h⟩⟩
  · cases d <;> cases e <;> first | exact he.elim | exact ⟨he.1, k _ he.2⟩
  · cases d <;> cases e <;> first | exact he.elim | skip
    rename_i ds k
    obtain ⟨x, xs, rfl, h1, h2⟩ := (r1.mono g2).list g2.w
    rw [r2.int]
    refine ⟨x, k, xs, rfl, rfl, h1, he.1.1, he.1.2.1, by rw [rpa_len h2]; exact he.1.2.2, fun p hp => ?_⟩
    have g3 := Gr.newO (o := .lst (List.replicate k.toNat xs).flatten) g2.w hp
    exact he.2 p _ B2 _ ((g1.trans ok.w g2).trans ok.w g3) ((g1.trans ok.w g2).back hp) (Evl.fresh_back g2.w.sub hp) upd_same (rpa_repL h2 _)
theorem n_revL {e : Expr} {fa : SE} {k : Nat} {p1 p2 p3 pos : Pos} (ha : PB X c e fa) : PN X c (.Subscript e (.Slice none none (some (.UnaryOp .USub (.Constant (.int 1) k p1) p2)) p3) pos) (fLRev fa) := by
  refine ⟨fun ρ Q Q' k h => ha.mono _ _ _ (fun d hd => ?_) h, pe_weak (pe_revL ha.pe) fun σ H Q ⟨B, ρ, ok, h⟩ => ⟨B, ρ, ok, ha.mono _ _ _ (fun d hd v B1 H1 g1 r1 => ?_) h⟩⟩
  · cases d <;> first | exact hd.elim | exact k _ hd
  · cases d <;> first | exact hd.elim | skip
    obtain ⟨a, xs, rfl, h1, h2⟩ := r1.list g1.w
    refine ⟨a, xs, rfl, SqL.of h1, fun l hl => ?_⟩
    have g2 := Gr.newO (o := .lst xs.reverse) g1.w hl
    exact hd l _ B1 _ (g1.trans ok.w g2) (g1.back hl) (Evl.fresh_back g1.w.sub hl) upd_same (rpa_rev h2)
def fIfN (t : ST) (fa fb : SL) : SL := fun ρ Q => t ρ fun b => if b = true then fa ρ Q else fb ρ Q
theorem n_if {t : ST} {cc a b : Expr} {fa fb : SL} {pos : Pos} (ht : PTd X c cc t) (ha : PN X c a fa) (hb : PN X c b fb) : PN X c (.IfExp cc a b pos) (fIfN t fa fb) := by
  refine ⟨fun ρ Q Q' k h => ht.mono _ _ _ (fun b hd => ?_) h, pe_weak (pe_ifExp ht.pt ha.pe hb.pe) fun σ H Q ⟨B, ρ, ok, h⟩ => ⟨B, ρ, ok, ht.mono _ _ _ (fun d hd B1 H1 g1 => ?_) h⟩⟩
  · cases b with
    | true => exact ha.mono _ _ _ k hd
    | false => exact hb.mono _ _ _ k hd
  · cases d with
    | true => exact ⟨B1, ρ, ok.mono g1, ha.mono _ _ _ (fun ds he p vs B2 H2 g2 h0 h1 h2 r2 => he p vs B2 H2 (g1.trans ok.w g2) (g1.back h0) h1 h2 r2) hd⟩
    | false => exact ⟨B1, ρ, ok.mono g1, hb.mono _ _ _ (fun ds he p vs B2 H2 g2 h0 h1 h2 r2 => he p vs B2 H2 (g1.trans ok.w g2) (g1.back h0) h1 h2 r2) hd⟩
end
end DL
namespace DL
open PySem L2 PySem.Spec PyProof.Rows
/-- a def that is never called so -/
theorem fng_zero {G : C → Prop} {P : Program} {w : World} {K : PySem.W.Frag} {mg : Str → Option Value} {base : Heap} {k : Nat} {f : Addr} {fd : FuncData} {ps : List Str} {S : Spec} (h : ∀ ss Q, ¬ S ss Q) : FnG G P w K mg base k f fd ps S :=
  ⟨fun ss Q _ _ q => (h ss Q q).elim, fun ss Q q => (h ss Q q).elim, fun _ _ _ _ _ _ _ _ _ _ _ _ _ ⟨_, _, _, _, ss, _, q⟩ => (h ss _ q).elim⟩
end DL
namespace DL
open PySem L2 PySem.Spec PyProof.Rows
/-! ### a, b = x, y where a name is seen by a comprehension: by way of the tuple -/
theorem MOk.newO {c : C} {H B' H' : Hp} {p : Addr} {o : HO} (hp : H' p = none) : ∀ {vs : List V} {ss : List Sl}, MOk c H B' H' vs ss → MOk c H B' (upd H' p o) vs ss
  | [], [], _ => trivial
  | _ :: _, .sh _ :: _, h => ⟨h.1, MOk.newO hp h.2⟩
  | _ :: _, .ow _ :: _, h => by
    obtain ⟨⟨q, ws, e, h0, h1, h2, r⟩, h3⟩ := h
    exact ⟨⟨q, ws, e, h0, h1, by rw [upd_ne (ne_of_none h2 hp)]; exact h2, r⟩, MOk.newO hp h3⟩
  | _ :: _, .un :: _, h => h
  | _ :: _, .bg :: _, h => h
  | [], _ :: _, h => h
  | _ :: _, [], h => h
section
variable {X : Cx} {c : C}
theorem s_parG (i j : Nat) {x y : Str} {a b : Expr} {f : SM} {px py pt pos : Pos} {kt k2 : Nat} {pt2 : Pos} (hc : X.calm = true) (hN : X.N.Nodup) (ha : PMd X c [a, b] f) (hi : X.N[i]? = some x := by rfl) (hj : X.N[j]? = some y := by rfl)
    (hx : Loc X.env.scope x := by first | exact Or.inl rfl | exact Or.inr rfl) (hy : Loc X.env.scope y := by first | exact Or.inl rfl | exact Or.inr rfl)
    (fx : X.fn x = true ∨ X.env.scope.names.lookup x = some .local := by first | exact .inl rfl | exact .inr rfl) (fy : X.fn y = true ∨ X.env.scope.names.lookup y = some .local := by first | exact .inl rfl | exact .inr rfl)
    (hw : swappedStores [.Tuple [.Name x px, .Name y py] kt pt] (.Tuple [a, b] k2 pt2) X.env = pure none := by rfl)
    (hs : swapsWithSole [.Tuple [.Name x px, .Name y py] kt pt] (.Tuple [a, b] k2 pt2) pos.line X.env = pure false := by rfl)
    (h1 : (assignEach [.Tuple [.Name x px, .Name y py] kt pt] X.env).map (·.2) = [assign (.Tuple [.Name x px, .Name y py] kt pt) X.env] := by rfl)
    (hn : (assignEach [.Name x px, .Name y py] X.env).length = 2 := by rfl) (hst : (assignEach [.Name x px, .Name y py] X.env).findIdx? (·.1) = none := by rfl)
    (e1 : (assignEach [.Name x px, .Name y py] X.env).map (·.2) = assign (.Name x px) X.env :: (assignEach [.Name y py] X.env).map (·.2) := by rfl) (e2 : (assignEach [.Name y py] X.env).map (·.2) = assign (.Name y py) X.env :: (assignEach [] X.env).map (·.2) := by rfl) :
    PSd X c (.Assign [.Tuple [.Name x px, .Name y py] kt pt] (.Tuple [a, b] k2 pt2) pos) (fPar [i, j] f) := by
  refine ⟨mono_Par ha.mono, ps_weak (ps_asg (pe_tup ha.pa) (pg_tup hc (pgs_cons (pg_name hN hi hx fx) (pgs_cons (pg_name hN hj hy fy) pgs_nil e2) e1) hn hst) hs hw h1) fun D σ H ⟨B, ρ, ok, h⟩ => ⟨B, ρ, ok, ha.mono _ _ _ (fun ss hd vs B' H' g r => ?_) h⟩⟩
  have hv := r.len
  rw [← hd.1] at hv
  refine ⟨by rw [hv]; exact Nat.le_of_lt (small1000 (by show 2 ≤ 1000; decide)), fun p hp => ?_⟩
  have g2 := Gr.newO (o := .tup vs) g.w hp
  have hq := hd.2 _ B' _ (putAll' ok (g.trans ok.w g2) hd.1 (r.newO hp)) g.b
  match vs, hv with
  | [v, w], _ => exact ⟨p, [v, w], rfl, SqT.of upd_same, rfl, v, [w], rfl, w, [], rfl, rfl, hq⟩
theorem s_parG3 (i j l : Nat) {x y z : Str} {a b d : Expr} {f : SM} {px py pz pt pos : Pos} {kt k2 : Nat} {pt2 : Pos} (hc : X.calm = true) (hN : X.N.Nodup) (ha : PMd X c [a, b, d] f) (hi : X.N[i]? = some x := by rfl) (hj : X.N[j]? = some y := by rfl) (hl : X.N[l]? = some z := by rfl)
    (hx : Loc X.env.scope x := by first | exact Or.inl rfl | exact Or.inr rfl) (hy : Loc X.env.scope y := by first | exact Or.inl rfl | exact Or.inr rfl) (hz : Loc X.env.scope z := by first | exact Or.inl rfl | exact Or.inr rfl)
    (fx : X.fn x = true ∨ X.env.scope.names.lookup x = some .local := by first | exact .inl rfl | exact .inr rfl) (fy : X.fn y = true ∨ X.env.scope.names.lookup y = some .local := by first | exact .inl rfl | exact .inr rfl) (fz : X.fn z = true ∨ X.env.scope.names.lookup z = some .local := by first | exact .inl rfl | exact .inr rfl)
    (hw : swappedStores [.Tuple [.Name x px, .Name y py, .Name z pz] kt pt] (.Tuple [a, b, d] k2 pt2) X.env = pure none := by rfl)
    (hs : swapsWithSole [.Tuple [.Name x px, .Name y py, .Name z pz] kt pt] (.Tuple [a, b, d] k2 pt2) pos.line X.env = pure false := by rfl)
    (h1 : (assignEach [.Tuple [.Name x px, .Name y py, .Name z pz] kt pt] X.env).map (·.2) = [assign (.Tuple [.Name x px, .Name y py, .Name z pz] kt pt) X.env] := by rfl)
    (hn : (assignEach [.Name x px, .Name y py, .Name z pz] X.env).length = 3 := by rfl) (hst : (assignEach [.Name x px, .Name y py, .Name z pz] X.env).findIdx? (·.1) = none := by rfl)
    (e1 : (assignEach [.Name x px, .Name y py, .Name z pz] X.env).map (·.2) = assign (.Name x px) X.env :: (assignEach [.Name y py, .Name z pz] X.env).map (·.2) := by rfl) (e2 : (assignEach [.Name y py, .Name z pz] X.env).map (·.2) = assign (.Name y py) X.env :: (assignEach [.Name z pz] X.env).map (·.2) := by rfl) (e3 : (assignEach [.Name z pz] X.env).map (·.2) = assign (.Name z pz) X.env :: (assignEach [] X.env).map (·.2) := by rfl) :
    PSd X c (.Assign [.Tuple [.Name x px, .Name y py, .Name z pz] kt pt] (.Tuple [a, b, d] k2 pt2) pos) (fPar [i, j, l] f) := by
  refine ⟨mono_Par ha.mono, ps_weak (ps_asg (pe_tup ha.pa) (pg_tup hc (pgs_cons (pg_name hN hi hx fx) (pgs_cons (pg_name hN hj hy fy) (pgs_cons (pg_name hN hl hz fz) pgs_nil e3) e2) e1) hn hst) hs hw h1) fun D σ H ⟨B, ρ, ok, h⟩ => ⟨B, ρ, ok, ha.mono _ _ _ (fun ss hd vs B' H' g r => ?_) h⟩⟩
  have hv := r.len
  rw [← hd.1] at hv
  refine ⟨by rw [hv]; exact Nat.le_of_lt (small1000 (by show 3 ≤ 1000; decide)), fun p hp => ?_⟩
  have g2 := Gr.newO (o := .tup vs) g.w hp
  have hq := hd.2 _ B' _ (putAll' ok (g.trans ok.w g2) hd.1 (r.newO hp)) g.b
  match vs, hv with
  | [v, w, u], _ => exact ⟨p, [v, w, u], rfl, SqT.of upd_same, rfl, v, [w, u], rfl, w, [u], rfl, u, [], rfl, rfl, hq⟩
end
end DL
namespace DL.Go
open DL PySem L2 PySem.Spec PyProof.Rows
/-! ### readings step by step -/
section
variable {ρ : Env} {Q : D → Prop} {R : List D → Prop} {E : En}
theorem lc_go {fa : SE} {fl : SL} (h : fa ρ fun d => fl ρ fun ds => R (d :: ds)) : fLC fa fl ρ R := h
theorem ln_go (h : R []) : fLN ρ R := h
theorem c_go {d : D} (h : Q d) : fC d ρ Q := h
theorem v_sh {i : Nat} {d : D} (e : lk ρ i = .sh d) (h : Q d) : fV i ρ Q := by unfold fV; rw [e]; exact h
theorem n_sh {i : Nat} {d : D} (e : lk ρ i = .sh d) (h : Q d) : fN i ρ Q := by unfold fN; rw [e]; exact h
theorem n_ow {i : Nat} {ds : List D} (e : lk ρ i = .ow ds) (h : Q (.list ds)) : fN i ρ Q := by unfold fN; rw [e]; exact h
theorem tup_go {f : SL} (h : f ρ fun ds => Q (.tuple ds)) : fTup f ρ Q := h
theorem nv_go {f : SL} (h : f ρ fun ds => Q (.list ds)) : fNV f ρ Q := h
theorem dict1_go {k : Key} {fa : SE} (h : fa ρ fun d => Q (.dict [(kD k, d)])) : fDict1 k fa ρ Q := h
theorem bin_go {g : G2} {fa fb : SE} (h : fa ρ fun d => fb ρ fun e => g d e Q) : fBin g fa fb ρ Q := h
theorem slT_go {fa : SE} {fl fh : SO} (h : fa ρ fun d => fl ρ fun lo => fh ρ fun hi => match d with | .tuple ds => Q (.tuple (cutD ds lo hi)) | _ => False) : fSlT fa fl fh ρ Q := h
theorem slL_go {fa : SE} {fl fh : SO} (h : fa ρ fun d => fl ρ fun lo => fh ρ fun hi => match d with | .list ds => R (cutD ds lo hi) | _ => False) : fSlL fa fl fh ρ R := h
theorem on_go {Q : Option Int → Prop} (h : Q none) : fON ρ Q := h
theorem os_go {fa : SE} {Q : Option Int → Prop} (h : fa ρ fun d => match d with | .int i => Q (some i) | _ => False) : fOS fa ρ Q := h
theorem sub_go {i j : Int} (h : Q (.int (i - j))) : gSub (.int i) (.int j) Q := h
theorem addI_go {i j : Int} (h : Q (.int (i + j))) : gAdd (.int i) (.int j) Q := h
theorem addT_go {xs ys : List D} (h : xs.length + ys.length ≤ sizeLine) (k : Q (.tuple (xs ++ ys))) : gAdd (.tuple xs) (.tuple ys) Q := ⟨h, k⟩
theorem addL_go {xs ys : List D} (h : xs.length + ys.length ≤ sizeLine) (k : Q (.list (xs ++ ys))) : gAdd (.list xs) (.list ys) Q := ⟨h, k⟩
theorem repT_go {ds : List D} {k : Int} (h1 : ds ≠ []) (h2 : 0 ≤ k) (h3 : k ≤ 1000) (h4 : ds.length ≤ 1000) (h : Q (.tuple (List.replicate k.toNat ds).flatten)) : gRepT (.tuple ds) (.int k) Q := ⟨h1, h2, h3, h4, h⟩
theorem mulI_go {i j : Int} (h : CMulW i j) (k : Q (.int (i * j))) : gMul (.int i) (.int j) Q := ⟨h, k⟩
theorem divI_go {i j : Int} (h : j.natAbs.log2 < 9000) (p : 0 < j) (k : Q (.int (i / j))) : gDiv (.int i) (.int j) Q := ⟨h, by rw [if_pos p]; exact k⟩
theorem modI_go {i j : Int} (p : 0 < j) (k : Q (.int (i % j))) : gMod (.int i) (.int j) Q := by unfold gMod; dsimp only; rw [if_pos p]; exact k
theorem ixT_go {ds : List D} {i : Int} {d : D} (e : atI ds i = some d) (h : Q d) : gIx (.tuple ds) (.int i) Q := by unfold gIx; dsimp only; rw [e]; exact h
theorem ixL_go {ds : List D} {i : Int} {d : D} (e : atI ds i = some d) (h : Q d) : gIx (.list ds) (.int i) Q := by unfold gIx; dsimp only; rw [e]; exact h
theorem neg_go {fa : SE} (h : fa ρ fun d => match d with | .int i => Q (.int (-i)) | _ => False) : fNeg fa ρ Q := h
theorem seqT_go {fa : SE} (h : fa ρ fun d => match seqOf d with | some ds => R ds | none => False) : fSeq fa ρ R := h
theorem call_go {S : Spec} {fa : SA} (h : fa ρ fun ss => S ss Q) : fCall S fa ρ Q := h
theorem callK_go {S : Spec} {is : List Nat} {fa : SA} (h : fa ρ fun ss => S (perm is ss) Q) : fCallK S is fa ρ Q := h
theorem cb_go {g : GB} {fa : SL} (h : fa ρ fun ds => g ds Q) : fCB g fa ρ Q := h
theorem if_go {t : ST} {fa fb : SE} (h : t ρ fun b => if b = true then fa ρ Q else fb ρ Q) : fIf t fa fb ρ Q := h
theorem an_go {J : List Sl → Prop} (h : J []) : fAN ρ J := h
theorem ac_go {fa : SE} {fr : SA} {J : List Sl → Prop} (h : fa ρ fun d => fr ρ fun ss => J (.sh d :: ss)) : fAC fa fr ρ J := h
theorem ab_go {i : Nat} {fr : SA} {J : List Sl → Prop} (e : lk ρ i = .bg) (h : fr ρ fun ss => J (.bg :: ss)) : fAB i fr ρ J := by unfold fAB; rw [e]; exact h
theorem mv_go {fa : SE} {fr : SM} {J : List Sl → Prop} (h : fa ρ fun d => fr ρ fun ss => J (.sh d :: ss)) : fMV fa fr ρ J := h
theorem par_go {js : List Nat} {f : SM} (h : f ρ fun ss => js.length = ss.length ∧ E.nx (setAll ρ js ss)) : fPar js f E ρ := h
theorem sq_go {A B : SS} (h : A { E with nx := B E } ρ) : fSeqS A B E ρ := h
theorem set_go {i : Nat} {fa : SE} (h : fa ρ fun d => E.nx (ρ.set i (.sh d))) : fSet i fa E ρ := h
theorem setN_go {i : Nat} {fl : SL} (h : fl ρ fun ds => E.nx (ρ.set i (.ow ds))) : fSetN i fl E ρ := h
theorem ret_go {fa : SE} (h : fa ρ E.rt) : fRet fa E ρ := h
theorem asg_go {fa : SE} {g : GT} (h : fa ρ fun d => g d ρ E.nx) : fAsg fa g E ρ := h
theorem ifs_go {t : ST} {f g : SS} (h : t ρ fun b => if b = true then f E ρ else g E ρ) : fIfS t f g E ρ := h
theorem next_go (h : E.nx ρ) : fNext E ρ := h
theorem nm_go {i : Nat} {d : D} {J : Env → Prop} (h : J (ρ.set i (.sh d))) : gNm i d ρ J := h
theorem app_go {i : Nat} {fa : SE} {ds : List D} (e : lk ρ i = .ow ds) (h : fa ρ fun d => ds.length < most ∧ E.nx (ρ.set i (.ow (ds ++ [d])))) : fApp i fa E ρ := by unfold fApp; rw [e]; exact h
theorem ext_go {i : Nat} {fa : SE} {ds : List D} (e : lk ρ i = .ow ds) (h : fa ρ fun d => (match d with | .list es => ds.length + es.length ≤ most ∧ E.nx (ρ.set i (.ow (ds ++ es))) | _ => False)) : fExt i fa E ρ := by unfold fExt; rw [e]; exact h
theorem fors_go {fi : SI} {g : GT} {body : SS} (h : fi ρ fun ds => fFor g body ds E ρ) : fForS fi g body E ρ := h
theorem cmp_go {g : GC} {fa fb : SE} {J : Bool → Prop} (h : fa ρ fun d => fb ρ fun e => g d e J) : fCmp g fa fb ρ J := h
theorem tv_go {fa : SE} {J : Bool → Prop} (h : fa ρ fun d => match d with | .bool b => J b | _ => False) : fTV fa ρ J := h
theorem not_go {t : ST} {J : Bool → Prop} (h : t ρ fun b => J (!b)) : fNot t ρ J := h
theorem and_go {s t : ST} {J : Bool → Prop} (h : s ρ fun b => if b = true then t ρ J else J false) : fAnd s t ρ J := h
theorem or_go {s t : ST} {J : Bool → Prop} (h : s ρ fun b => if b = true then J true else t ρ J) : fOr s t ρ J := h
theorem lenT_go {ds : List D} (h : Q (.int (ds.length : Int))) : bLen [.tuple ds] Q := h
theorem lenL_go {ds : List D} (h : Q (.int (ds.length : Int))) : bLen [.list ds] Q := h
theorem absI_go {i : Int} (h : Q (.int (if i < 0 then -i else i))) : bAbs [.int i] Q := h
theorem intI_go {i : Int} (h : Q (.int i)) : bInt [.int i] Q := h
theorem max2_go {i j : Int} (h : Q (.int (if j > i then j else i))) : bMax2 [.int i, .int j] Q := h
theorem min2_go {i j : Int} (h : Q (.int (if j < i then j else i))) : bMin2 [.int i, .int j] Q := h
theorem tupL_go {ds : List D} (h : Q (.tuple ds)) : bTuple [.list ds] Q := h
theorem tupT_go {ds : List D} (h : Q (.tuple ds)) : bTuple [.tuple ds] Q := h
theorem gv_go {g : GC} {d e : D} (h : g d e fun b => Q (.bool b)) : gv g d e Q := h
theorem ltI_go {i j : Int} {J : Bool → Prop} (h : J (decide (i < j))) : gLt (.int i) (.int j) J := h
theorem leI_go {i j : Int} {J : Bool → Prop} (h : J (decide (i ≤ j))) : gLe (.int i) (.int j) J := h
theorem gtI_go {i j : Int} {J : Bool → Prop} (h : J (decide (j < i))) : gGt (.int i) (.int j) J := h
theorem geI_go {i j : Int} {J : Bool → Prop} (h : J (decide (j ≤ i))) : gGe (.int i) (.int j) J := h
theorem eqI_go {i j : Int} {J : Bool → Prop} (h : J (decide (i = j))) : gEq (.int i) (.int j) J := h
theorem neI_go {i j : Int} {J : Bool → Prop} (h : J (!decide (i = j))) : gNe (.int i) (.int j) J := h
theorem eqS_go {i j : Str} {J : Bool → Prop} (h : J (decide (i = j))) : gEq (.str i) (.str j) J := h
theorem rng1_go {fa : SE} (h : fa ρ fun d => match d with | .int j => -(2 ^ 62) ≤ j ∧ j < 2 ^ 62 ∧ R (rng 0 j.toNat) | _ => False) : fRng1 fa ρ R := h
theorem sqT_go {n : Nat} {gs : GTs} {ds : List D} {J : Env → Prop} (h : ds.length = n) (k : gs ds ρ J) : gSq n gs (.tuple ds) ρ J := ⟨h, k⟩
theorem sqL_go {n : Nat} {gs : GTs} {ds : List D} {J : Env → Prop} (h : ds.length = n) (k : gs ds ρ J) : gSq n gs (.list ds) ρ J := ⟨h, k⟩
theorem gsC_go {g : GT} {gs : GTs} {d : D} {ds : List D} {J : Env → Prop} (h : g d ρ fun ρ' => gs ds ρ' J) : gsCons g gs (d :: ds) ρ J := h
theorem gsN_go {J : Env → Prop} (h : J ρ) : gsNil [] ρ J := ⟨rfl, h⟩
theorem frz_go {i : Nat} {f : SS} {ds : List D} (e : lk ρ i = .ow ds) (h : f E (ρ.set i (.sh (.list ds)))) : fFrz i f E ρ := by unfold fFrz; rw [e]; exact h
theorem frz_sh {i : Nat} {f : SS} {d : D} (e : lk ρ i = .sh d) (h : f E ρ) : fFrz i f E ρ := by unfold fFrz; rw [e]; exact h
theorem mn_go {fl : SL} {fr : SM} {J : List Sl → Prop} (h : fl ρ fun ds => fr ρ fun ss => J (.ow ds :: ss)) : fMN fl fr ρ J := h
theorem andV_go {fa fb : SE} (h : fa ρ fun d => match d with | .bool b => if b = true then fb ρ Q else Q (.bool false) | _ => False) : fAndV fa fb ρ Q := h
theorem cat_go {fa fb : SE} (h : fa ρ fun d => fb ρ fun e => match d, e with | .list xs, .list ys => xs.length + ys.length ≤ sizeLine ∧ R (xs ++ ys) | _, _ => False) : fCat fa fb ρ R := h
theorem callO_go {S : Spec} {fa : SA} (h : fa ρ fun ss => S ss fun d => match d with | .list ds => R ds | _ => False) : fCallO S fa ρ R := h
theorem retO_go {i : Nat} {ds : List D} (e : lk ρ i = .ow ds) (h : E.ro ds) : fRetO i E ρ := by unfold fRetO; rw [e]; exact h
theorem retN_go {f : SL} (h : f ρ E.ro) : fRetN f E ρ := h
theorem ifN_go {t : ST} {fa fb : SL} (h : t ρ fun b => if b = true then fa ρ R else fb ρ R) : fIfN t fa fb ρ R := h
theorem yes_go {J : Bool → Prop} (h : J true) : fYes ρ J := h
theorem isI_go {T : String} {fa : SE} (h : fa ρ fun d => Q (.bool (DL.isB (tyN d) T))) : fIsI T fa ρ Q := h
theorem isB_go {d : D} {b : Bool} {J : Bool → Prop} (h : J (isBool b d)) : gIsB d (.bool b) J := h
theorem isN_go {d : D} {J : Bool → Prop} (h : J (isNone d)) : gIsN d .none J := h
theorem notN_go {d : D} {J : Bool → Prop} (h : J (!isNone d)) : gNotN d .none J := h
theorem lrev_go {fa : SE} (h : fa ρ fun d => match d with | .list ds => R ds.reverse | _ => False) : fLRev fa ρ R := h
theorem bk_go (h : E.bk ρ) : fBreak E ρ := h
theorem ct_go (h : E.ct ρ) : fCont E ρ := h
theorem rng2_go {fa fb : SE} (h : fa ρ fun d => fb ρ fun e => match d, e with | .int i, .int j => (-(2 ^ 62) ≤ i ∧ i < 2 ^ 62 ∧ -(2 ^ 62) ≤ j ∧ j < 2 ^ 62) ∧ R (rng i (j - i).toNat) | _, _ => False) : fRng2 fa fb ρ R := h
theorem orV_go {fa fb : SE} (h : fa ρ fun d => match d with | .bool b => if b = true then Q (.bool true) else fb ρ Q | _ => False) : fOrV fa fb ρ Q := h
theorem notV_go {fa : SE} (h : fa ρ fun d => match d with | .bool b => Q (.bool (!b)) | _ => False) : fNotV fa ρ Q := h
theorem setIx_go {i : Nat} {fa fk : SE} {ds : List D} (e : lk ρ i = .ow ds) (h : fa ρ fun d => fk ρ fun j => match j with | .int j => (match ixN ds.length j with | some m => E.nx (ρ.set i (.ow (ds.set m d))) | none => False) | _ => False) : fSetIx i fa fk E ρ := by unfold fSetIx; rw [e]; exact h
theorem ifd {p : Prop} [Decidable p] {A B : Prop} (h : p → A) (k : ¬ p → B) : if decide p = true then A else B := by
  by_cases z : p
  · rw [if_pos (decide_eq_true z)]; exact h z
  · rw [if_neg (by simpa using z)]; exact k z
theorem ifdn {p : Prop} [Decidable p] {A B : Prop} (h : ¬ p → A) (k : p → B) : if (!decide p) = true then A else B := by
  by_cases z : p
  · rw [if_neg (by simpa using z)]; exact k z
  · rw [if_pos (by simpa using z)]; exact h z
theorem ifT {p : Prop} [Decidable p] {A B : Prop} (h : p) (k : A) : if p then A else B := by rw [if_pos h]; exact k
theorem ifF {p : Prop} [Decidable p] {A B : Prop} (h : ¬ p) (k : B) : if p then A else B := by rw [if_neg h]; exact k
end
end DL.Go
namespace DL
namespace T
open PySem L2 PySem.Spec PyProof.Rows
/-! ### specs by one datum -/
def spE {α : Type} (args : α → List Sl) (ok : α → Prop) (F : α → D) : Spec := fun ss Q => ∃ a : α, ss = args a ∧ ok a ∧ Q (F a)
theorem spE_mono {α : Type} {args : α → List Sl} {ok : α → Prop} {F : α → D} : ∀ ss (Q Q' : D → Prop), (∀ d, Q d → Q' d) → spE args ok F ss Q → spE args ok F ss Q' := fun ss Q Q' k ⟨a, e, h, q⟩ => ⟨a, e, h, k _ q⟩
theorem spE_len {α : Type} {args : α → List Sl} {ok : α → Prop} {F : α → D} {n : Nat} (h : ∀ a, (args a).length = n) : ∀ ss (Q : D → Prop), spE args ok F ss Q → ss.length = n := fun ss Q ⟨a, e, _⟩ => by rw [e]; exact h a
def spA {α β : Type} (args : α → List Sl) (ok : α → Prop) (R : α → β → Prop) (F : β → D) : Spec := fun ss Q => ∃ a : α, ss = args a ∧ ok a ∧ ∀ b, R a b → Q (F b)
theorem spA_mono {α β : Type} {args : α → List Sl} {ok : α → Prop} {R : α → β → Prop} {F : β → D} : ∀ ss (Q Q' : D → Prop), (∀ d, Q d → Q' d) → spA args ok R F ss Q → spA args ok R F ss Q' := fun ss Q Q' k ⟨a, e, h, q⟩ => ⟨a, e, h, fun b hb => k _ (q b hb)⟩
theorem spA_len {α β : Type} {args : α → List Sl} {ok : α → Prop} {R : α → β → Prop} {F : β → D} {n : Nat} (h : ∀ a, (args a).length = n) : ∀ ss (Q : D → Prop), spA args ok R F ss Q → ss.length = n := fun ss Q ⟨a, e, _⟩ => by rw [e]; exact h a
/-! ### surds -/
structure S4 where
  a : Int
  b : Int
  c : Int
  d : Int
def S4.D (s : S4) : DL.D := .tuple [.int s.a, .int s.b, .int s.c, .int s.d]
/-- the greatest that divides the three -/
def g3 (a b c : Int) : Int := (Int.gcd (Int.gcd a b) c : Nat)
def nrm (a b c d : Int) : S4 := ⟨a / g3 a b c, b / g3 a b c, c / g3 a b c, if b ≠ 0 then d else 0⟩
def sgn (a b d : Int) : Int := if 0 ≤ a ∧ 0 ≤ b then (if 0 < a + b then 1 else 0) else if a ≤ 0 ∧ b ≤ 0 then -1 else if decide (b * b * d < a * a) = decide (0 < a) then 1 else -1
def mx (i j : Int) : Int := if j > i then j else i
def sumS (s t : S4) : S4 := nrm (s.a * t.c + t.a * s.c) (s.b * t.c + t.b * s.c) (s.c * t.c) (mx s.d t.d)
def mulS (s t : S4) : S4 := nrm (s.a * t.a + s.b * t.b * mx s.d t.d) (s.a * t.b + s.b * t.a) (s.c * t.c) (mx s.d t.d)
def negS (s : S4) : S4 := ⟨-s.a, -s.b, s.c, s.d⟩
def wholeS (s : S4) (r : Int) : Int := if 0 ≤ s.b then (s.a + r) / s.c else (s.a - r - 1) / s.c
/-- sizes -/
structure Bd (m : Nat) (s : S4) : Prop where
  a : Sm m s.a
  b : Sm m s.b
  c : Sm m s.c
  c0 : 0 < s.c
  d0 : 0 ≤ s.d
  d : Sm 20 s.d
theorem Bd.le {m n : Nat} {s : S4} (h : Bd m s) (l : m ≤ n) : Bd n s := ⟨h.a.le l, h.b.le l, h.c.le l, h.c0, h.d0, h.d⟩
theorem Bd.neg {m : Nat} {s : S4} (h : Bd m s) : Bd m (negS s) := ⟨h.a.neg, h.b.neg, h.c, h.c0, h.d0, h.d⟩
theorem g3_pos {a b c : Int} (hc : 0 < c) : 0 < g3 a b c := by
  unfold g3
  have : Int.gcd (Int.gcd a b) c ≠ 0 := fun z => by
    have := (Int.gcd_eq_zero_iff.mp z).2
    omega
  omega
theorem g3_dvd (a b c : Int) : g3 a b c ∣ c := Int.gcd_dvd_right ..
theorem nrm_c {a b c : Int} (hc : 0 < c) : 0 < c / g3 a b c := by
  have h := g3_pos (a := a) (b := b) hc
  obtain ⟨k, e⟩ := g3_dvd a b c
  rw [show c / g3 a b c = k by rw [e]; first | (rw [← e]; exact Int.ediv_eq_of_eq_mul_right (by omega) e) | exact Int.mul_ediv_cancel_left k (by omega)]
  apply Classical.byContradiction
  intro z
  have := Int.mul_nonneg (a := g3 a b c) (b := -k) (by omega) (by omega)
  rw [Int.mul_neg] at this
  omega
theorem nrm_bd {m : Nat} {a b c d : Int} (ha : Sm m a) (hb : Sm m b) (hc : Sm m c) (c0 : 0 < c) (d0 : 0 ≤ d) (hd : Sm 20 d) : Bd m (nrm a b c d) := by
  have g := g3_pos (a := a) (b := b) c0
  refine ⟨ha.div g, hb.div g, hc.div g, nrm_c c0, ?_, ?_⟩
  · show 0 ≤ (if b ≠ 0 then d else 0)
    split <;> omega
  · show Sm 20 (if b ≠ 0 then d else 0)
    split
    · exact hd
    · exact (by decide : (0 : Int).natAbs < 2 ^ 20)
theorem mx_ok {i j : Int} (h0 : 0 ≤ i) (h1 : Sm 20 i) (k0 : 0 ≤ j) (k1 : Sm 20 j) : 0 ≤ mx i j ∧ Sm 20 (mx i j) := by
  unfold mx
  split <;> constructor <;> assumption
theorem Bd.sum {m : Nat} {s t : S4} (h : Bd m s) (k : Bd m t) : Bd (2 * m + 1) (sumS s t) := by
  obtain ⟨d0, d1⟩ := mx_ok h.d0 h.d k.d0 k.d
  exact nrm_bd (((h.a.mul k.c).add (k.a.mul h.c)).le (by omega)) (((h.b.mul k.c).add (k.b.mul h.c)).le (by omega)) ((h.c.mul k.c).le (by omega)) (Int.mul_pos h.c0 k.c0) d0 d1
theorem Bd.mul {m : Nat} {s t : S4} (h : Bd m s) (k : Bd m t) : Bd (2 * m + 21) (mulS s t) := by
  obtain ⟨d0, d1⟩ := mx_ok h.d0 h.d k.d0 k.d
  refine nrm_bd ((((h.a.mul k.a).le (l := 2 * m + 20) (by omega)).add (((h.b.mul k.b).mul d1).le (by omega))).le (by omega)) (((h.a.mul k.b).add ((h.b.mul k.a).le (by omega))).le (by omega)) ((h.c.mul k.c).le (by omega)) (Int.mul_pos h.c0 k.c0) d0 d1
/-- the root that both sides come to -/
def Rn (n r : Int) : Prop := if n < 2 then r = n else Rt n r
theorem rn_unique {n r s : Int} (h : Rn n r) (k : Rn n s) : r = s := by
  unfold Rn at h k
  split at h
  · rw [if_pos (by assumption)] at k; omega
  · rw [if_neg (by assumption)] at k; exact rt_unique h k
theorem rn_ex (n : Int) : ∃ r, Rn n r := by
  unfold Rn
  split
  · exact ⟨n, rfl⟩
  · exact rt_of (by omega)
noncomputable def rF (n : Int) : Int := Classical.choose (rn_ex n)
theorem rF_ok (n : Int) : Rn n (rF n) := Classical.choose_spec (rn_ex n)
/-- no square divides it -/
def SF (d : Int) : Prop := 2 ≤ d ∧ d ≤ 1000001 ∧ ∀ t : Int, 2 ≤ t → ¬ t * t ∣ d
theorem SF.sm {d : Int} (h : SF d) : Sm 20 d := by
  obtain ⟨h0, h1, _⟩ := h
  unfold Sm
  omega
theorem Bd.neg4 {m : Nat} {s : S4} (h : Bd m s) : Bd m (negS s) := h.neg
/-- the surd with a divisor of either sign -/
def nrmZ (a b c d : Int) : S4 := if c < 0 then nrm (-a) (-b) (-c) d else nrm a b c d
/-- the whole part of b times the root of d -/
noncomputable def gF (d b : Int) : Int := if 0 ≤ b then rF (b * b * d) else -rF (b * b * d) - 1
def pl4 (s h : S4) (n : Int) : S4 := ⟨n * s.a * h.c + h.a * s.c, n * s.b * h.c + h.b * s.c, s.c * h.c, mx s.d h.d⟩
noncomputable def wS (s : S4) : Int := wholeS s (rF (s.b * s.b * s.d))
noncomputable def wA (s h : S4) (n : Int) : Int := wS (pl4 s h n)
noncomputable def lA (s h : S4) (n : Int) : Int := -wS (negS (pl4 s h n))
/-- a slope between 0 and 1, over the root of D -/
structure Slp (D : Int) (s : S4) : Prop where
  lo : 0 ≤ s.a + gF D s.b
  hi : s.a + gF D s.b < s.c
  pos : s.b = 0 → 0 < s.a
/-- a slope and a height of one field -/
structure Pr (s h : S4) : Prop where
  sb : Bd 120 s
  hb : Bd 200 h
  fld : (mx s.d h.d = 0 ∧ s.b = 0 ∧ h.b = 0) ∨ SF (mx s.d h.d)
  slp : Slp (mx s.d h.d) s
/-- a slope alone -/
structure Sl1 (s : S4) : Prop where
  sb : Bd 120 s
  fld : (s.d = 0 ∧ s.b = 0) ∨ (s.b ≠ 0 ∧ SF s.d)
  slp : Slp s.d s
theorem shl1 {b : Nat} (h : b ≤ 100000) : CShl 1 ((b : Nat) : Int) := by
  refine ⟨by omega, ?_⟩
  have : Builtin.Int.intBits 1 = 1 := by decide
  rw [this]
  omega
theorem half_bits (n : Int) (h : 2 ≤ n) (hs : Sm 1940 n) {s : Int} (k : Rt n s) : ∃ b : Nat, ((Builtin.Int.intBits n : Nat) + 1 : Int) / 2 = (b : Nat) ∧ b ≤ 970 ∧ s < 2 ^ b := by
  have e : ((n.toNat : Nat) : Int) = n := Int.toNat_of_nonneg (by omega)
  have hb : Builtin.Int.intBits n ≤ 1940 := by
    rw [← e]
    refine bits_le (by decide) ?_
    have : n.natAbs = n.toNat := by omega
    unfold Sm at hs
    rwa [this] at hs
  refine ⟨(Builtin.Int.intBits n + 1) / 2, by omega, by omega, ?_⟩
  rw [← e] at k
  refine rt_first k _ ?_
  rw [e]
  omega
theorem rn_of {n s : Int} (h : ¬ n < 2) (k : Rt n s) : Rn n s := by
  unfold Rn
  rw [if_neg h]
  exact k
theorem rt_sm {n s : Int} (h : Rt n s) (k : Sm 1940 n) : Sm 1940 s := by
  obtain ⟨h0, h1, h2⟩ := h
  have : s ≤ n ∨ s ≤ 1 := by
    by_cases z : s ≤ 1
    · exact .inr z
    · refine .inl ?_
      have := Int.mul_le_mul_of_nonneg_left (a := 1) (b := s) (c := s) (by omega) h0
      omega
  unfold Sm at *
  have : 1 < 2 ^ 1940 := Nat.one_lt_two_pow (by decide)
  omega
theorem D4 (s : S4) : s.D = .tuple [.int s.a, .int s.b, .int s.c, .int s.d] := rfl
theorem seq_go {A B : SS} {E : En} {ρ : Env} (h : A { E with nx := B E } ρ) : fSeqS A B E ρ := h
theorem mw {i j : Int} {k l : Nat} (h : Sm k i) (h' : Sm l j) (hs : k + l + 2 ≤ 1000000 := by omega) : CMulW i j := Sm.mulw h h' hs
theorem abs_gcd (i : Int) : (if i < 0 then -i else i) = (i.natAbs : Int) := by
  split <;> omega
theorem g3_abs (a b c : Int) (hc : 0 < c) : ((Int.gcd ((Int.gcd (if a < 0 then -a else a) (if b < 0 then -b else b) : Nat) : Int) c : Nat) : Int) = g3 a b c := by
  unfold g3
  rw [abs_gcd, abs_gcd]
  simp [Int.gcd]
theorem g3_neg (a b c : Int) : g3 (-a) (-b) (-c) = g3 a b c := by
  unfold g3
  simp [Int.gcd]
theorem g3_log {a b c : Int} (hc : 0 < c) (h : Sm 4000 c) : (g3 a b c).natAbs.log2 < 9000 := by
  have : g3 a b c ≤ c := Int.le_of_dvd hc (g3_dvd a b c)
  have g := g3_pos (a := a) (b := b) hc
  refine Sm.log (k := 4000) ?_
  unfold Sm at *
  omega
theorem fin4 {a b c d : Int} {Q : D → Prop} (hq : Q (nrm a b c d).D) : if ¬b = 0 then Q (.tuple [.int (a / g3 a b c), .int (b / g3 a b c), .int (c / g3 a b c), .int d]) else Q (.tuple [.int (a / g3 a b c), .int (b / g3 a b c), .int (c / g3 a b c), .int 0]) := by
  unfold nrm S4.D at hq
  try simp only at hq
  split
  · rename_i hb
    rw [if_pos hb] at hq
    exact hq
  · rename_i hb
    rw [if_neg hb] at hq
    exact hq
theorem fdiv_neg' (a : Int) {g : Int} (hg : 0 < g) : a.fdiv (-g) = (-a) / g := by
  rw [← Int.fdiv_eq_ediv_of_nonneg (-a) (by omega), ← Int.neg_fdiv_neg a (-g), Int.neg_neg]
theorem nrmZ_pos {a b c d : Int} (h : 0 < c) : nrmZ a b c d = nrm a b c d := by
  unfold nrmZ
  rw [if_neg (by omega)]
theorem sgn_go {a b d : Int} {Q : D → Prop} (hq : Q (.int (sgn a b d))) (m1 : CMulW a a) (m2 : CMulW b b) (m3 : CMulW (b * b) d) : if 0 ≤ a then
    if 0 ≤ b then if 0 < a + b then Q (PyData.int 1) else Q (PyData.int 0)
    else
      if a ≤ 0 then
        if b ≤ 0 then Q (PyData.int (-1))
        else CMulW a a ∧ CMulW b b ∧ CMulW (b * b) d ∧ if decide (b * b * d < a * a) = decide (0 < a) then Q (PyData.int 1) else Q (PyData.int (-1))
      else
        if false = true then Q (PyData.int (-1))
        else CMulW a a ∧ CMulW b b ∧ CMulW (b * b) d ∧ if decide (b * b * d < a * a) = decide (0 < a) then Q (PyData.int 1) else Q (PyData.int (-1))
  else
    if false = true then if 0 < a + b then Q (PyData.int 1) else Q (PyData.int 0)
    else
      if a ≤ 0 then
        if b ≤ 0 then Q (PyData.int (-1))
        else CMulW a a ∧ CMulW b b ∧ CMulW (b * b) d ∧ if decide (b * b * d < a * a) = decide (0 < a) then Q (PyData.int 1) else Q (PyData.int (-1))
      else
        if false = true then Q (PyData.int (-1))
        else CMulW a a ∧ CMulW b b ∧ CMulW (b * b) d ∧ if decide (b * b * d < a * a) = decide (0 < a) then Q (PyData.int 1) else Q (PyData.int (-1)) := by
  have ff : (false = true) = False := eq_false Bool.false_ne_true
  simp only [m1, m2, m3, true_and, ff, if_false]
  have tail : ¬ (0 ≤ a ∧ 0 ≤ b) → ¬ (a ≤ 0 ∧ b ≤ 0) → (if decide (b * b * d < a * a) = decide (0 < a) then Q (PyData.int 1) else Q (PyData.int (-1))) := fun h1 h2 => by
    unfold sgn at hq
    rw [if_neg h1, if_neg h2] at hq
    split
    · rename_i e; rw [if_pos e] at hq; exact hq
    · rename_i e; rw [if_neg e] at hq; exact hq
  have mid : ¬ (0 ≤ a ∧ 0 ≤ b) → a ≤ 0 ∧ b ≤ 0 → Q (PyData.int (-1)) := fun h1 h2 => by
    unfold sgn at hq
    rw [if_neg h1, if_pos h2] at hq
    exact hq
  have top : 0 ≤ a → 0 ≤ b → (if 0 < a + b then Q (PyData.int 1) else Q (PyData.int 0)) := fun h1 h2 => by
    unfold sgn at hq
    rw [if_pos ⟨h1, h2⟩] at hq
    split
    · rename_i e; rw [if_pos e] at hq; exact hq
    · rename_i e; rw [if_neg e] at hq; exact hq
  by_cases p1 : 0 ≤ a
  · rw [if_pos p1]
    by_cases p2 : 0 ≤ b
    · rw [if_pos p2]; exact top p1 p2
    · rw [if_neg p2]
      by_cases p3 : a ≤ 0
      · rw [if_pos p3]
        by_cases p4 : b ≤ 0
        · rw [if_pos p4]; exact mid (by omega) ⟨p3, p4⟩
        · rw [if_neg p4]; exact tail (by omega) (by omega)
      · rw [if_neg p3]; exact tail (by omega) (by omega)
  · rw [if_neg p1]
    by_cases p3 : a ≤ 0
    · rw [if_pos p3]
      by_cases p4 : b ≤ 0
      · rw [if_pos p4]; exact mid (by omega) ⟨p3, p4⟩
      · rw [if_neg p4]; exact tail (by omega) (by omega)
    · rw [if_neg p3]; exact tail (by omega) (by omega)
theorem rF_go {n r : Int} (h : Rn n r) : rF n = r := rn_unique (rF_ok n) h
theorem at_bd {s h : S4} {n : Int} (a : Bd 200 s) (b : Bd 200 h) (k : Sm 110 n) : Bd 600 (pl4 s h n) := by
  obtain ⟨d0, d1⟩ := mx_ok a.d0 a.d b.d0 b.d
  exact ⟨((((k.mul a.a).mul b.c).le (l := 550) (by omega)).add ((b.a.mul a.c).le (by omega))).le (by omega), ((((k.mul a.b).mul b.c).le (l := 550) (by omega)).add ((b.b.mul a.c).le (by omega))).le (by omega), (a.c.mul b.c).le (by omega), Int.mul_pos a.c0 b.c0, d0, d1⟩
theorem sm1 : Sm 1 (1 : Int) := (by decide : (1 : Int).natAbs < 2 ^ 1)
/-- comprehensions -/
theorem lc_map {α : Type} {g : GT} {e : SE} {ρ : Env} {f F : α → D} : ∀ (is : List α) (_ : ∀ i ∈ is, ∀ K : D → Prop, K (F i) → g (f i) ρ fun ρ1 => e ρ1 K) (Q : List D → Prop), Q (is.map F) → lcRun g fYes e ρ (is.map f) Q
  | [], _, Q, h => h
  | i :: is, he, Q, h => he i List.mem_cons_self (fun y => lcRun g fYes e ρ (is.map f) fun ys => Q (y :: ys)) (lc_map is (fun j hj => he j (List.mem_cons_of_mem _ hj)) _ h)
theorem lc_filter {α : Type} {g : GT} {t : ST} {e : SE} {ρ : Env} {f F : α → D} {c : α → Bool} : ∀ (is : List α) (_ : ∀ i ∈ is, ∀ (K : D → Prop) (J : Prop), (c i = true → K (F i)) → (c i = false → J) → g (f i) ρ fun ρ1 => t ρ1 fun b => if b = true then e ρ1 K else J) (Q : List D → Prop), Q ((is.filter c).map F) → lcRun g t e ρ (is.map f) Q
  | [], _, Q, h => h
  | i :: is, he, Q, h => by
    refine he i List.mem_cons_self (fun y => lcRun g t e ρ (is.map f) fun ys => Q (y :: ys)) (lcRun g t e ρ (is.map f) Q) (fun hc => lc_filter is (fun j hj => he j (List.mem_cons_of_mem _ hj)) _ ?_) (fun hc => lc_filter is (fun j hj => he j (List.mem_cons_of_mem _ hj)) _ ?_)
    · rw [List.filter_cons_of_pos hc] at h
      exact h
    · rw [List.filter_cons_of_neg (by rw [hc]; decide)] at h
      exact h
theorem rng_nat (n : Nat) : rng 0 n = (List.range n).map fun i : Nat => PyData.int (i : Int) := by
  unfold rng
  exact List.map_congr_left fun i _ => by rw [Int.zero_add]
theorem smN {n k : Nat} (h : n < 2 ^ k) : Sm k (n : Int) := by
  unfold Sm
  rwa [Int.natAbs_natCast]
/-! ### the whole part of b times the root of D -/
theorem rF_sq {n : Int} (hn : 0 ≤ n) : 0 ≤ rF n ∧ rF n * rF n ≤ n ∧ n < (rF n + 1) * (rF n + 1) := by
  have h := rF_ok n
  unfold Rn at h
  split at h
  · rw [h]
    have : n = 0 ∨ n = 1 := by omega
    rcases this with rfl | rfl <;> decide
  · exact h
theorem sq_le {x y : Int} (hx : 0 ≤ x) (hy : 0 ≤ y) (h : x * x ≤ y * y) : x ≤ y := by
  apply Classical.byContradiction
  intro z
  have h1 : y * y ≤ y * x := Int.mul_le_mul_of_nonneg_left (by omega) hy
  have h2 : y * x < x * x := Int.mul_lt_mul_of_pos_right (by omega) (by omega)
  omega
theorem sq_lt {x y : Int} (hx : 0 ≤ x) (hy : 0 ≤ y) (h : x * x < y * y) : x < y := by
  apply Classical.byContradiction
  intro z
  have h1 : y * y ≤ y * x := Int.mul_le_mul_of_nonneg_left (by omega) hy
  have h2 : y * x ≤ x * x := Int.mul_le_mul_of_nonneg_right (by omega) hx
  omega
theorem le_sq {x y : Int} (hx : 0 ≤ x) (h : x ≤ y) : x * x ≤ y * y := Int.mul_le_mul h h hx (by omega)
theorem mul4 (x y z w : Int) : (x * y) * (z * w) = (x * z) * (y * w) := by
  rw [Int.mul_assoc, Int.mul_assoc]
  congr 1
  rw [← Int.mul_assoc, ← Int.mul_assoc, Int.mul_comm y z]
/-- roots of b1, b2, b1 + b2 -/
theorem root_add {D b1 b2 : Int} (hD : 0 ≤ D) (h1 : 0 ≤ b1) (h2 : 0 ≤ b2) :
    rF (b1 * b1 * D) + rF (b2 * b2 * D) ≤ rF ((b1 + b2) * (b1 + b2) * D) ∧ rF ((b1 + b2) * (b1 + b2) * D) ≤ rF (b1 * b1 * D) + rF (b2 * b2 * D) + 1 := by
  have n1 : 0 ≤ b1 * b1 * D := Int.mul_nonneg (Int.mul_nonneg h1 h1) hD
  have n2 : 0 ≤ b2 * b2 * D := Int.mul_nonneg (Int.mul_nonneg h2 h2) hD
  have n3 : 0 ≤ (b1 + b2) * (b1 + b2) * D := Int.mul_nonneg (Int.mul_nonneg (by omega) (by omega)) hD
  have n12 : 0 ≤ b1 * b2 * D := Int.mul_nonneg (Int.mul_nonneg h1 h2) hD
  obtain ⟨p1, q1, r1⟩ := rF_sq n1
  obtain ⟨p2, q2, r2⟩ := rF_sq n2
  obtain ⟨p3, q3, r3⟩ := rF_sq n3
  have eD : (b1 + b2) * (b1 + b2) * D = b1 * b1 * D + b2 * b2 * D + 2 * (b1 * b2 * D) := by
    rw [Int.add_mul, Int.mul_add, Int.mul_add, Int.mul_comm b2 b1, Int.add_mul, Int.add_mul, Int.add_mul]
    omega
  have e12 : (b1 * b2 * D) * (b1 * b2 * D) = (b1 * b1 * D) * (b2 * b2 * D) := by
    rw [mul4 (b1 * b2) D (b1 * b2) D, mul4 b1 b2 b1 b2, mul4 (b1 * b1) D (b2 * b2) D]
  rw [eD] at p3 q3 r3 ⊢
  generalize b1 * b1 * D = n at *
  generalize b2 * b2 * D = m at *
  generalize b1 * b2 * D = k at *
  generalize rF n = x at *
  generalize rF m = y at *
  generalize rF (n + m + 2 * k) = z at *
  have xy : x * y ≤ k := by
    refine sq_le (Int.mul_nonneg p1 p2) n12 ?_
    rw [e12, mul4 x y x y]
    exact Int.mul_le_mul q1 q2 (Int.mul_nonneg p2 p2) n1
  have xy1 : k ≤ (x + 1) * (y + 1) := by
    refine sq_le n12 (Int.mul_nonneg (by omega) (by omega)) ?_
    rw [e12, mul4 (x + 1) (y + 1) (x + 1) (y + 1)]
    exact Int.mul_le_mul (by omega) (by omega) n2 (Int.mul_nonneg (by omega) (by omega))
  constructor
  · have : x + y < z + 1 := by
      refine sq_lt (by omega) (by omega) ?_
      have e : (x + y) * (x + y) = x * x + y * y + 2 * (x * y) := by
        rw [Int.add_mul, Int.mul_add, Int.mul_add, Int.mul_comm y x]; omega
      omega
    omega
  · have : z < x + y + 2 := by
      refine sq_lt p3 (by omega) ?_
      have e : (x + y + 2) * (x + y + 2) = (x + 1) * (x + 1) + (y + 1) * (y + 1) + 2 * ((x + 1) * (y + 1)) := by
        have a : x + y + 2 = (x + 1) + (y + 1) := by omega
        rw [a]
        generalize x + 1 = u
        generalize y + 1 = v
        rw [Int.add_mul, Int.mul_add, Int.mul_add, Int.mul_comm v u]; omega
      omega
    omega
theorem gF_pos {D b : Int} (h : 0 ≤ b) : gF D b = rF (b * b * D) := by
  unfold gF
  rw [if_pos h]
theorem gF_neg {D b : Int} (h : b < 0) : gF D b = -rF ((-b) * (-b) * D) - 1 := by
  unfold gF
  rw [if_neg (by omega), Int.neg_mul_neg]
theorem gF_zero (D : Int) : gF D 0 = 0 := by
  rw [gF_pos (Int.le_refl _)]
  have : (0 : Int) * 0 * D = 0 := by simp
  rw [this]
  have h := rF_sq (n := 0) (by decide)
  have := sq_lt (x := rF 0) (y := 1) h.1 (by decide) (by omega)
  omega
theorem gF_add {D : Int} (hD : 0 ≤ D) (b1 b2 : Int) : gF D b1 + gF D b2 ≤ gF D (b1 + b2) ∧ gF D (b1 + b2) ≤ gF D b1 + gF D b2 + 1 := by
  have A := fun {x y : Int} (hx : 0 ≤ x) (hy : 0 ≤ y) => root_add hD hx hy
  by_cases h1 : 0 ≤ b1
  · by_cases h2 : 0 ≤ b2
    · rw [gF_pos h1, gF_pos h2, gF_pos (by omega)]
      exact A h1 h2
    · by_cases h3 : 0 ≤ b1 + b2
      · have := A h3 (show 0 ≤ -b2 by omega)
        rw [show b1 + b2 + -b2 = b1 by omega] at this
        rw [gF_pos h1, gF_neg (by omega : b2 < 0), gF_pos h3]
        omega
      · have := A (show 0 ≤ -(b1 + b2) by omega) h1
        rw [show -(b1 + b2) + b1 = -b2 by omega] at this
        rw [gF_pos h1, gF_neg (by omega : b2 < 0), gF_neg (by omega : b1 + b2 < 0)]
        omega
  · by_cases h2 : 0 ≤ b2
    · by_cases h3 : 0 ≤ b1 + b2
      · have := A h3 (show 0 ≤ -b1 by omega)
        rw [show b1 + b2 + -b1 = b2 by omega] at this
        rw [gF_pos h2, gF_neg (by omega : b1 < 0), gF_pos h3]
        omega
      · have := A (show 0 ≤ -(b1 + b2) by omega) h2
        rw [show -(b1 + b2) + b2 = -b1 by omega] at this
        rw [gF_pos h2, gF_neg (by omega : b1 < 0), gF_neg (by omega : b1 + b2 < 0)]
        omega
    · have := A (show 0 ≤ -b1 by omega) (show 0 ≤ -b2 by omega)
      rw [show -b1 + -b2 = -(b1 + b2) by omega] at this
      rw [gF_neg (by omega : b1 < 0), gF_neg (by omega : b2 < 0), gF_neg (by omega : b1 + b2 < 0)]
      omega
theorem gF_opp {D b : Int} (h : b ≠ 0) : gF D (-b) = -gF D b - 1 := by
  by_cases hb : 0 ≤ b
  · rw [gF_pos hb, gF_neg (by omega), Int.neg_neg]
  · rw [gF_pos (by omega), gF_neg (by omega)]
    omega
theorem wS_eq (s : S4) : wS s = (s.a + gF s.d s.b) / s.c := by
  unfold wS wholeS gF
  split
  · rfl
  · have : s.a - rF (s.b * s.b * s.d) - 1 = s.a + (-rF (s.b * s.b * s.d) - 1) := by omega
    rw [this]
/-- the sign by whole parts -/
theorem sgn_ge {a b D : Int} (hD : 0 ≤ D) (hb : b = 0 ∨ 1 ≤ D) : (0 < sgn a b D ∨ sgn a b D = 0) ↔ 0 ≤ a + gF D b := by
  have n : 0 ≤ b * b * D := Int.mul_nonneg (by
    rcases Int.le_total 0 b with h | h
    · exact Int.mul_nonneg h h
    · have := Int.mul_nonneg (a := -b) (b := -b) (by omega) (by omega)
      rwa [Int.neg_mul_neg] at this) hD
  obtain ⟨p, q, r⟩ := rF_sq n
  unfold sgn
  by_cases b0 : b = 0
  · subst b0
    rw [gF_zero]
    by_cases ha : 0 ≤ a
    · rw [if_pos ⟨ha, Int.le_refl _⟩]
      split <;> constructor <;> intro _ <;> omega
    · rw [if_neg (fun z => ha z.1), if_pos ⟨by omega, Int.le_refl _⟩]
      omega
  · by_cases bp : 0 ≤ b
    · rw [gF_pos bp]
      by_cases ha : 0 ≤ a
      · rw [if_pos ⟨ha, bp⟩, if_pos (by omega)]
        omega
      · rw [if_neg (fun z => ha z.1), if_neg (fun z => by omega), decide_eq_false (show ¬ 0 < a by omega)]
        by_cases k : b * b * D < a * a
        · rw [decide_eq_true k, if_neg (by decide)]
          have : rF (b * b * D) < -a := sq_lt p (by omega) (by rw [Int.neg_mul_neg]; omega)
          omega
        · rw [decide_eq_false k, if_pos rfl]
          have : -a < rF (b * b * D) + 1 := sq_lt (by omega) (by omega) (by rw [Int.neg_mul_neg]; omega)
          omega
    · rw [gF_neg (by omega), Int.neg_mul_neg]
      by_cases ha : a ≤ 0
      · rw [if_neg (fun z => bp z.2), if_pos ⟨ha, by omega⟩]
        omega
      · rw [if_neg (fun z => bp z.2), if_neg (fun z => ha z.1), decide_eq_true (show 0 < a by omega)]
        by_cases k : b * b * D < a * a
        · rw [decide_eq_true k, if_pos rfl]
          have : rF (b * b * D) < a := sq_lt p (by omega) (by omega)
          omega
        · rw [decide_eq_false k, if_neg (by decide)]
          have : a < rF (b * b * D) + 1 := sq_lt (by omega) (by omega) (by omega)
          omega
theorem sgn_gt {a b D : Int} (hD : 0 ≤ D) (hb : b = 0 ∨ 1 ≤ D) : 0 < sgn a b D ↔ (if b = 0 then 0 < a else 0 ≤ a + gF D b) := by
  by_cases b0 : b = 0
  · rw [if_pos b0]
    subst b0
    unfold sgn
    by_cases ha : 0 ≤ a
    · rw [if_pos ⟨ha, Int.le_refl _⟩]
      split <;> omega
    · rw [if_neg (fun z => ha z.1), if_pos ⟨by omega, Int.le_refl _⟩]
      omega
  · rw [if_neg b0, ← sgn_ge hD hb]
    constructor
    · exact .inl
    · intro h
      rcases h with h | h
      · exact h
      · exfalso
        unfold sgn at h
        split at h
        · split at h <;> omega
        · split at h
          · omega
          · split at h <;> omega
theorem fmod_small (x : Int) {y : Int} (h : y < 0) : (x.fmod y).natAbs < y.natAbs := by
  have e : x.fmod y = -((-x).fmod (-y)) := by
    have := Int.neg_fmod_neg (a := x) (b := y)
    omega
  have e2 : (-x).fmod (-y) = (-x) % (-y) := Int.fmod_eq_emod_of_nonneg _ (by omega)
  have := Int.emod_nonneg (-x) (b := -y) (by omega)
  have := Int.emod_lt_of_pos (-x) (b := -y) (by omega)
  omega
end T
end DL
namespace DL
namespace T
open PySem L2 PySem.Spec PyProof.Rows
/-! ### surds of one field: what they stand for -/
def InF (D : Int) (x : S4) : Prop := (x.b = 0 ∧ x.d = 0) ∨ (x.b ≠ 0 ∧ x.d = D)
theorem g3_scale {k a b c : Int} (hk : 0 < k) : g3 (k * a) (k * b) (k * c) = k * g3 a b c := by
  obtain ⟨n, rfl⟩ : ∃ n : Nat, k = (n : Int) := ⟨k.toNat, by omega⟩
  unfold g3
  rw [Int.gcd_mul_left, Int.natAbs_natCast, Int.natCast_mul, Int.gcd_mul_left, Int.natAbs_natCast, Int.natCast_mul]
theorem nrm_scale {k a b c d : Int} (hk : 0 < k) : nrm (k * a) (k * b) (k * c) d = nrm a b c d := by
  unfold nrm
  rw [g3_scale hk, Int.mul_ediv_mul_of_pos _ _ hk, Int.mul_ediv_mul_of_pos _ _ hk, Int.mul_ediv_mul_of_pos _ _ hk]
  have : (k * b ≠ 0) = (b ≠ 0) := by
    refine propext ⟨fun h z => h (by rw [z, Int.mul_zero]), fun h z => ?_⟩
    rcases Int.mul_eq_zero.mp z with z | z
    · omega
    · exact h z
  simp only [this]
theorem nrm_back {a b c : Int} (d : Int) : a = g3 a b c * (nrm a b c d).a ∧ b = g3 a b c * (nrm a b c d).b ∧ c = g3 a b c * (nrm a b c d).c := by
  have h1 : g3 a b c ∣ a := Int.dvd_trans (Int.gcd_dvd_left ..) (Int.gcd_dvd_left ..)
  have h2 : g3 a b c ∣ b := Int.dvd_trans (Int.gcd_dvd_left ..) (Int.gcd_dvd_right ..)
  exact ⟨(Int.mul_ediv_cancel' h1).symm, (Int.mul_ediv_cancel' h2).symm, (Int.mul_ediv_cancel' (g3_dvd a b c)).symm⟩
theorem nrm_inF {a b c D : Int} (hc : 0 < c) : InF D (nrm a b c D) := by
  obtain ⟨_, h2, _⟩ := nrm_back (a := a) (b := b) (c := c) D
  have g := g3_pos (a := a) (b := b) hc
  by_cases hb : b = 0
  · refine .inl ⟨?_, ?_⟩
    · rw [hb] at h2
      rcases Int.mul_eq_zero.mp h2.symm with z | z
      · rw [hb] at g; omega
      · rw [hb]; exact z
    · show (if b ≠ 0 then D else 0) = 0
      rw [if_neg (fun z => z hb)]
  · refine .inr ⟨fun z => hb (by rw [h2, z, Int.mul_zero]), ?_⟩
    show (if b ≠ 0 then D else 0) = D
    rw [if_pos hb]
theorem InF.neg {D : Int} {x : S4} (h : InF D x) : InF D (negS x) := by
  rcases h with ⟨h1, h2⟩ | ⟨h1, h2⟩
  · exact .inl ⟨by show -x.b = 0; omega, h2⟩
  · exact .inr ⟨by show -x.b ≠ 0; omega, h2⟩
theorem InF.int (D a : Int) : InF D ⟨a, 0, 1, 0⟩ := .inl ⟨rfl, rfl⟩
theorem InF.mx {D : Int} {x y : S4} (hD : 0 ≤ D) (h : InF D x) (k : InF D y) : (x.b = 0 ∧ y.b = 0 ∧ mx x.d y.d = 0) ∨ mx x.d y.d = D := by
  unfold T.mx
  rcases h with ⟨h1, h2⟩ | ⟨h1, h2⟩ <;> rcases k with ⟨k1, k2⟩ | ⟨k1, k2⟩
  · exact .inl ⟨h1, k1, by rw [h2, k2]; rfl⟩
  · right; split <;> omega
  · right; split <;> omega
  · right; split <;> omega
theorem nrm_root {a b c d e : Int} (h : b = 0 ∨ d = e) : nrm a b c d = nrm a b c e := by
  rcases h with h | h
  · subst h
    unfold nrm
    rw [if_neg (fun z => z rfl), if_neg (fun z => z rfl)]
  · rw [h]
theorem sum_rep {D : Int} {x y : S4} (hD : 0 ≤ D) (h : InF D x) (k : InF D y) : sumS x y = nrm (x.a * y.c + y.a * x.c) (x.b * y.c + y.b * x.c) (x.c * y.c) D := by
  unfold sumS
  refine nrm_root ?_
  rcases InF.mx hD h k with ⟨h1, h2, _⟩ | h
  · exact .inl (by rw [h1, h2]; simp)
  · exact .inr h
theorem sum_nrm {a b c D : Int} {y : S4} (hD : 0 ≤ D) (hc : 0 < c) (k : InF D y) : sumS (nrm a b c D) y = nrm (a * y.c + y.a * c) (b * y.c + y.b * c) (c * y.c) D := by
  rw [sum_rep hD (nrm_inF hc) k]
  obtain ⟨h1, h2, h3⟩ := nrm_back (a := a) (b := b) (c := c) D
  have gp := g3_pos (a := a) (b := b) hc
  generalize nrm a b c D = x at *
  generalize g3 a b c = g at *
  have e1 : a * y.c + y.a * c = g * (x.a * y.c + y.a * x.c) := by grind
  have e2 : b * y.c + y.b * c = g * (x.b * y.c + y.b * x.c) := by grind
  have e3 : c * y.c = g * (x.c * y.c) := by grind
  rw [e1, e2, e3, nrm_scale gp]
theorem sum_nrm2 {a b c a' b' c' D : Int} (hD : 0 ≤ D) (hc : 0 < c) (hc' : 0 < c') : sumS (nrm a b c D) (nrm a' b' c' D) = nrm (a * c' + a' * c) (b * c' + b' * c) (c * c') D := by
  rw [sum_nrm hD hc (nrm_inF hc')]
  obtain ⟨h1, h2, h3⟩ := nrm_back (a := a') (b := b') (c := c') D
  have gp := g3_pos (a := a') (b := b') hc'
  generalize nrm a' b' c' D = x at *
  generalize g3 a' b' c' = g at *
  have e1 : a * c' + a' * c = g * (a * x.c + x.a * c) := by grind
  have e2 : b * c' + b' * c = g * (b * x.c + x.b * c) := by grind
  have e3 : c * c' = g * (c * x.c) := by grind
  rw [e1, e2, e3, nrm_scale gp]
theorem mul_rep {D : Int} {x y : S4} (hD : 0 ≤ D) (h : InF D x) (k : InF D y) : mulS x y = nrm (x.a * y.a + x.b * y.b * D) (x.a * y.b + x.b * y.a) (x.c * y.c) D := by
  unfold mulS
  rcases InF.mx hD h k with ⟨h1, h2, h3⟩ | h
  · rw [h1, h2, h3]
    have e : nrm (x.a * y.a + 0 * 0 * 0) (x.a * 0 + 0 * y.a) (x.c * y.c) 0 = nrm (x.a * y.a + 0 * 0 * D) (x.a * 0 + 0 * y.a) (x.c * y.c) D := by
      have : (0 : Int) * 0 * D = 0 := by simp
      rw [this]
      exact nrm_root (.inl (by simp))
    exact e
  · rw [h]
/-- in lowest terms -/
def Lw (D : Int) (x : S4) : Prop := x = nrm x.a x.b x.c D
theorem nrm_lw {a b c D : Int} (hc : 0 < c) : Lw D (nrm a b c D) := by
  obtain ⟨h1, h2, h3⟩ := nrm_back (a := a) (b := b) (c := c) D
  have g := g3_pos (a := a) (b := b) hc
  unfold Lw
  have := nrm_scale (k := g3 a b c) (a := (nrm a b c D).a) (b := (nrm a b c D).b) (c := (nrm a b c D).c) (d := D) g
  rw [← h1, ← h2, ← h3] at this
  exact this
theorem Lw.inF {D : Int} {x : S4} (h : Lw D x) (hc : 0 < x.c) : InF D x := by
  rw [h]; exact nrm_inF hc
theorem ind_gF {D : Int} (hD : 0 ≤ D) (b : Int) : ∀ k : Nat, (k + 1 : Int) * gF D b ≤ gF D ((k + 1 : Int) * b) ∧ gF D ((k + 1 : Int) * b) ≤ (k + 1 : Int) * gF D b + k
  | 0 => by
    have e : ((0 : Nat) + 1 : Int) = 1 := rfl
    rw [e, Int.one_mul, Int.one_mul]
    omega
  | k + 1 => by
    have ih := ind_gF hD b k
    have a := gF_add hD ((k + 1 : Int) * b) b
    have e1 : (((k + 1 : Nat) : Int) + 1) * b = (k + 1 : Int) * b + b := by
      rw [Int.natCast_add, Int.add_mul, Int.one_mul]; rfl
    have e2 : (((k + 1 : Nat) : Int) + 1) * gF D b = (k + 1 : Int) * gF D b + gF D b := by
      rw [Int.natCast_add, Int.add_mul, Int.one_mul]; rfl
    rw [e1, e2]
    omega
/-! ### nn: at 0 or above -/
def nn (D a b : Int) : Prop := 0 ≤ a + gF D b
open Classical in
noncomputable instance (D a b : Int) : Decidable (nn D a b) := inferInstance
theorem nn_zero (D : Int) : nn D 0 0 := by unfold nn; rw [gF_zero]; omega
theorem nn_int {D a : Int} : nn D a 0 ↔ 0 ≤ a := by unfold nn; rw [gF_zero]; omega
theorem nn_add {D a b c d : Int} (hD : 0 ≤ D) (h : nn D a b) (k : nn D c d) : nn D (a + c) (b + d) := by
  unfold nn at *
  have := (gF_add hD b d).1
  omega
theorem nn_scale {D a b k : Int} (hD : 0 ≤ D) (hk : 0 < k) : nn D (k * a) (k * b) ↔ nn D a b := by
  obtain ⟨j, rfl⟩ : ∃ j : Nat, k = (j : Int) + 1 := ⟨(k - 1).toNat, by omega⟩
  have h := ind_gF hD b j
  unfold nn
  have e : ((j : Int) + 1) * a + ((j : Int) + 1) * gF D b = ((j : Int) + 1) * (a + gF D b) := by grind
  constructor
  · intro q
    apply Classical.byContradiction
    intro z
    have : ((j : Int) + 1) * (a + gF D b) ≤ ((j : Int) + 1) * (-1) := Int.mul_le_mul_of_nonneg_left (by omega) (by omega)
    omega
  · intro q
    have : 0 ≤ ((j : Int) + 1) * (a + gF D b) := Int.mul_nonneg (by omega) q
    omega
theorem nn_tot {D a b : Int} : nn D a b ∨ nn D (-a) (-b) := by
  unfold nn
  by_cases hb : b = 0
  · subst hb
    rw [Int.neg_zero, gF_zero]; omega
  · rw [gF_opp hb]; omega
theorem nn_anti {D a b : Int} (h : nn D a b) (k : nn D (-a) (-b)) : a = 0 ∧ b = 0 := by
  unfold nn at *
  by_cases hb : b = 0
  · subst hb
    rw [Int.neg_zero, gF_zero] at k
    rw [gF_zero] at h
    exact ⟨by omega, rfl⟩
  · rw [gF_opp hb] at k; omega
/-- x is at most y -/
def Le (D : Int) (x y : S4) : Prop := nn D (y.a * x.c - x.a * y.c) (y.b * x.c - x.b * y.c)
open Classical in
noncomputable instance (D : Int) (x y : S4) : Decidable (Le D x y) := inferInstance
theorem Le.refl (D : Int) (x : S4) : Le D x x := by
  unfold Le
  rw [Int.sub_self, Int.sub_self]; exact nn_zero D
theorem Le.tot (D : Int) (x y : S4) : Le D x y ∨ Le D y x := by
  unfold Le
  rcases nn_tot (D := D) (a := y.a * x.c - x.a * y.c) (b := y.b * x.c - x.b * y.c) with h | h
  · exact .inl h
  · refine .inr ?_
    rw [Int.neg_sub, Int.neg_sub] at h
    exact h
theorem Le.trans {D : Int} {x y z : S4} (hD : 0 ≤ D) (hx : 0 < x.c) (hy : 0 < y.c) (hz : 0 < z.c) (h : Le D x y) (k : Le D y z) : Le D x z := by
  unfold Le at *
  have h' := (nn_scale hD hz).mpr h
  have k' := (nn_scale hD hx).mpr k
  have := nn_add hD h' k'
  have e1 : z.c * (y.a * x.c - x.a * y.c) + x.c * (z.a * y.c - y.a * z.c) = y.c * (z.a * x.c - x.a * z.c) := by grind
  have e2 : z.c * (y.b * x.c - x.b * y.c) + x.c * (z.b * y.c - y.b * z.c) = y.c * (z.b * x.c - x.b * z.c) := by grind
  rw [e1, e2] at this
  exact (nn_scale hD hy).mp this
/-- x is less than y -/
def Lt (D : Int) (x y : S4) : Prop := ¬ Le D y x
open Classical in
noncomputable instance (D : Int) (x y : S4) : Decidable (Lt D x y) := inferInstance
theorem Lt.le {D : Int} {x y : S4} (h : Lt D x y) : Le D x y := (Le.tot D x y).resolve_right h
theorem Lt.of_le {D : Int} {x y z : S4} (hD : 0 ≤ D) (hx : 0 < x.c) (hy : 0 < y.c) (hz : 0 < z.c) (h : Le D x y) (k : Lt D y z) : Lt D x z := fun q => k (Le.trans hD hz hx hy q h)
theorem Lt.to_le {D : Int} {x y z : S4} (hD : 0 ≤ D) (hx : 0 < x.c) (hy : 0 < y.c) (hz : 0 < z.c) (h : Lt D x y) (k : Le D y z) : Lt D x z := fun q => h (Le.trans hD hy hz hx k q)
/-- told otherwise: the same -/
theorem Le.scale {D k : Int} {x y : S4} (hD : 0 ≤ D) (hk : 0 < k) : Le D ⟨k * x.a, k * x.b, k * x.c, x.d⟩ y ↔ Le D x y := by
  unfold Le
  have e1 : y.a * (k * x.c) - k * x.a * y.c = k * (y.a * x.c - x.a * y.c) := by grind
  have e2 : y.b * (k * x.c) - k * x.b * y.c = k * (y.b * x.c - x.b * y.c) := by grind
  show nn D (y.a * (k * x.c) - k * x.a * y.c) (y.b * (k * x.c) - k * x.b * y.c) ↔ _
  rw [e1, e2]
  exact nn_scale hD hk
theorem Le.scale' {D k : Int} {x y : S4} (hD : 0 ≤ D) (hk : 0 < k) : Le D y ⟨k * x.a, k * x.b, k * x.c, x.d⟩ ↔ Le D y x := by
  unfold Le
  have e1 : k * x.a * y.c - y.a * (k * x.c) = k * (x.a * y.c - y.a * x.c) := by grind
  have e2 : k * x.b * y.c - y.b * (k * x.c) = k * (x.b * y.c - y.b * x.c) := by grind
  show nn D (k * x.a * y.c - y.a * (k * x.c)) (k * x.b * y.c - y.b * (k * x.c)) ↔ _
  rw [e1, e2]
  exact nn_scale hD hk
theorem Le.root {D a b c d e : Int} {y : S4} : Le D ⟨a, b, c, d⟩ y ↔ Le D ⟨a, b, c, e⟩ y := Iff.rfl
theorem le_nrm {D a b c d e : Int} {y : S4} (hD : 0 ≤ D) (hc : 0 < c) : Le D (nrm a b c d) y ↔ Le D ⟨a, b, c, e⟩ y := by
  obtain ⟨h1, h2, h3⟩ := nrm_back (a := a) (b := b) (c := c) d
  have g := g3_pos (a := a) (b := b) hc
  rw [← Le.scale (x := T.nrm a b c d) hD g, ← h1, ← h2, ← h3]
  exact Iff.rfl
theorem le_nrm' {D a b c d e : Int} {y : S4} (hD : 0 ≤ D) (hc : 0 < c) : Le D y (nrm a b c d) ↔ Le D y ⟨a, b, c, e⟩ := by
  obtain ⟨h1, h2, h3⟩ := nrm_back (a := a) (b := b) (c := c) d
  have g := g3_pos (a := a) (b := b) hc
  rw [← Le.scale' (x := T.nrm a b c d) hD g, ← h1, ← h2, ← h3]
  exact Iff.rfl
/-! ### signs -/
theorem sgn_scale {a b D k : Int} (hk : 0 < k) : sgn (k * a) (k * b) D = sgn a b D := by
  have p : ∀ x : Int, 0 ≤ k * x ↔ 0 ≤ x := fun x => by
    constructor
    · intro h
      apply Classical.byContradiction
      intro z
      have := Int.mul_le_mul_of_nonneg_left (a := x) (b := -1) (c := k) (by omega) (by omega)
      omega
    · intro h; exact Int.mul_nonneg (by omega) h
  have q : ∀ x : Int, k * x ≤ 0 ↔ x ≤ 0 := fun x => by
    have := p (-x)
    rw [Int.mul_neg] at this
    omega
  have e1 : k * a + k * b = k * (a + b) := by grind
  have e2 : k * b * (k * b) * D < k * a * (k * a) ↔ b * b * D < a * a := by
    have e3 : k * b * (k * b) * D - k * a * (k * a) = k * (k * (b * b * D - a * a)) := by grind
    have := p (k * (b * b * D - a * a))
    have := p (b * b * D - a * a)
    omega
  have r : 0 < k * (a + b) ↔ 0 < a + b := by have := q (a + b); omega
  have r2 : 0 < k * a ↔ 0 < a := by have := q a; omega
  unfold sgn
  rw [e1]
  simp only [p, q, e2, r, r2]
/-- no root of a square -/
theorem no_square {D : Int} (h : SF D) {a b : Int} (hb : b ≠ 0) : b * b * D ≠ a * a := by
  intro e
  obtain ⟨h1, _, h3⟩ := h
  have hg : 0 < Int.gcd a b := Int.gcd_pos_of_ne_zero_right _ hb
  obtain ⟨x, ex⟩ : ∃ x, a = Int.gcd a b * x := Int.gcd_dvd_left ..
  obtain ⟨y, ey⟩ : ∃ y, b = Int.gcd a b * y := Int.gcd_dvd_right ..
  have cop : Int.gcd x y = 1 := by
    have : Int.gcd (Int.gcd a b * x) (Int.gcd a b * y) = Int.gcd a b * Int.gcd x y := by
      rw [Int.gcd_mul_left, Int.natAbs_natCast]
    rw [← ex, ← ey] at this
    exact Nat.eq_of_mul_eq_mul_left hg (by omega)
  have gz : ((Int.gcd a b : Nat) : Int) ≠ 0 := by omega
  generalize ((Int.gcd a b : Nat) : Int) = g at *
  have e2 : y * y * D = x * x := by
    have : (g * g) * (y * y * D) = (g * g) * (x * x) := by rw [ex, ey] at e; grind
    exact Int.eq_of_mul_eq_mul_left (by intro z; rcases Int.mul_eq_zero.mp z with z | z <;> exact gz z) this
  have d1 : y.natAbs ∣ x.natAbs * x.natAbs := by
    have : y ∣ x * x := ⟨y * D, by rw [← e2, Int.mul_assoc]⟩
    have := Int.natAbs_dvd_natAbs.mpr this
    rwa [Int.natAbs_mul] at this
  have cp : Nat.Coprime y.natAbs x.natAbs := by
    have : Nat.gcd x.natAbs y.natAbs = 1 := cop
    exact Nat.Coprime.symm this
  have d2 : y.natAbs ∣ x.natAbs := cp.dvd_of_dvd_mul_left d1
  have y1 : y.natAbs = 1 := by
    have z : Nat.gcd y.natAbs x.natAbs = y.natAbs := Nat.gcd_eq_left d2
    have w : Nat.gcd y.natAbs x.natAbs = 1 := cp
    omega
  have yy : y * y = 1 := by
    rcases Int.natAbs_eq y with z | z <;> rw [z, y1] <;> rfl
  rw [yy, Int.one_mul] at e2
  have hx : 2 ≤ x.natAbs := by
    apply Classical.byContradiction
    intro z
    have : x.natAbs = 0 ∨ x.natAbs = 1 := by omega
    have : x * x ≤ 1 := by
      rcases Int.natAbs_eq x with w | w <;> rcases this with v | v <;> rw [w, v] <;> decide
    omega
  refine h3 (x.natAbs : Int) (by omega) ⟨1, ?_⟩
  rw [Int.mul_one, e2]
  rcases Int.natAbs_eq x with w | w
  · rw [← w]
  · have : (x.natAbs : Int) = -x := by omega
    rw [this, Int.neg_mul_neg]
theorem lt_sgn {D : Int} {x y : S4} (hD : 0 < D) : sgn (x.a * y.c - y.a * x.c) (x.b * y.c - y.b * x.c) D < 0 ↔ Lt D x y := by
  have h := sgn_ge (a := x.a * y.c - y.a * x.c) (b := x.b * y.c - y.b * x.c) (D := D) (by omega) (.inr (by omega))
  unfold Lt Le nn
  rw [← h]
  omega
end T
end DL
--import DLOrd
namespace DL
namespace T
open PySem L2 PySem.Spec PyProof.Rows
noncomputable section
/-! ### the field, its root -/
def RR (D : Int) : Int := rF (D * 2 ^ 840)
def fdD (D : Int) : DL.D := .tuple [.int D, .int (RR D)]
/-- a surd of the field, of small parts -/
structure Vs (D : Int) (x : S4) : Prop where
  f : InF D x
  b : Bd 64 x
/-- a slope -/
structure SlV (D : Int) (x : S4) : Prop where
  v : Vs D x
  w : Lw D x
  s : Slp D x
  n : Bd 51 x
/-- a height -/
structure HtV (D : Int) (x : S4) : Prop where
  v : Vs D x
  w : Lw D x
/-- .. of drawn parts -/
structure HtN (D : Int) (x : S4) : Prop where
  h : HtV D x
  n : Bd 51 x
/-- from 0 to 1 -/
structure Pt (D : Int) (x : S4) : Prop where
  h : HtV D x
  lo : Le D ⟨0, 0, 1, 0⟩ x
  hi : Le D x ⟨1, 0, 1, 0⟩
def Bw (w : List Int) : Prop := ∀ x ∈ w, x = 0 ∨ x = 1
def wdD (w : List Int) : DL.D := .tuple (w.map PyData.int)
def one4 : S4 := ⟨1, 0, 1, 0⟩
def zero4 : S4 := ⟨0, 0, 1, 0⟩
/-! ### rows -/
def rowL (s h : S4) (m : Nat) : List Int := (List.range m).map fun i : Nat => wA s h ((i : Int) + 1) - wA s h (i : Int)
def unl (s h o : S4) (m : Nat) : List Int := ((List.range m).filter fun i : Nat => decide (wA s h ((i : Int) + 1) - wA s h (i : Int) ≠ wA s o ((i : Int) + 1) - wA s o (i : Int))).map fun i : Nat => (i : Int)
/-! ### moved -/
def mv (s h : S4) (n m : Int) : S4 := nrm (n * s.a * h.c + h.a * s.c + m * (s.c * h.c)) (n * s.b * h.c + h.b * s.c) (s.c * h.c) (mx s.d h.d)
def mvR (s h : S4) (n : Int) : S4 := sumS (sumS (mulS ⟨n, 0, 1, 0⟩ s) h) ⟨-wS (sumS (mulS ⟨n, 0, 1, 0⟩ s) h), 0, 1, 0⟩
def smallB (x : S4) : Bool := decide (mx2 (mx2 (if x.a < 0 then -x.a else x.a) (if x.b < 0 then -x.b else x.b)) x.c ≤ 1000000000000)
/-! ### heights between -/
structure Hb where
  low : S4
  high : S4
  pt : S4
def stepH (s : S4) (t : Hb) (l : Int) : Hb :=
  let p := sumS (sumS t.pt ⟨l, 0, 1, 0⟩) (negS s)
  let a := sumS p one4
  let o := fun x y : S4 => sgn (sumS x (negS y)).a (sumS x (negS y)).b (sumS x (negS y)).d
  ⟨if 0 < o p t.low then p else t.low, if o a t.high < 0 then a else t.high, p⟩
def hb (s h o : S4) (w : List Int) : Bool :=
  let t := w.foldl (stepH s) ⟨h, o, zero4⟩
  decide (sgn (sumS t.low (negS t.high)).a (sumS t.low (negS t.high)).b (sumS t.low (negS t.high)).d < 0)
/-! ### bounds, by pairs over the slope's divisor -/
structure Bn where
  low : Int × Int
  high : Int × Int
  ones : Int
  k : Int
def stepB (D : Int) (s : S4) (t : Bn) (l : Int) : Bn :=
  let p : Int × Int := ((t.ones + l) * s.c - (t.k + 1) * s.a, -(t.k + 1) * s.b)
  ⟨if 0 < sgn (p.1 - t.low.1) (p.2 - t.low.2) D then p else t.low, if sgn (p.1 + s.c - t.high.1) (p.2 - t.high.2) D < 0 then (p.1 + s.c, p.2) else t.high, t.ones + l, t.k + 1⟩
def bnF (D : Int) (s : S4) (w : List Int) : Bn := w.foldl (stepB D s) ⟨(0, 0), (s.c, 0), 0, 0⟩
def bnd (D : Int) (s : S4) (w : List Int) : Option (S4 × S4) :=
  let t := bnF D s w
  if sgn (t.high.1 - t.low.1) (t.high.2 - t.low.2) D ≤ 0 then none else some (nrm t.low.1 t.low.2 s.c D, nrm t.high.1 t.high.2 s.c D)
def bndD : Option (S4 × S4) → DL.D
  | none => .none
  | some p => .list [p.1.D, p.2.D]
/-- bounds of the field between 0 and 1 -/
def BndV (D : Int) (b : Option (S4 × S4)) : Prop := ∀ l h, b = some (l, h) → Pt D l ∧ Pt D h
def pairD (p : S4 × S4) : DL.D := .tuple [p.1.D, p.2.D]
structure PrV (D : Int) (p : S4 × S4) : Prop where
  x : Pt D p.1
  y : Pt D p.2
  lt : Lt D p.1 p.2
/-! ### the same, kind by kind -/
def Same : Nat → DL.D → Prop
  | 0, _ => False
  | n + 1, d => match d with
    | .none => True
    | .bool _ => True
    | .int _ => True
    | .str _ => True
    | .tuple ds => ds.length ≤ 1000 ∧ ∀ e ∈ ds, Same n e
    | _ => False
/-! ### specs -/
abbrev iS (i : Int) : Sl := .sh (.int i)
abbrev ar4 (s : S4) : List Sl := [iS s.a, iS s.b, iS s.c, iS s.d]
abbrev arD (d : DL.D) : List Sl := [.sh d]
abbrev arS (s : S4) : List Sl := [.sh s.D]
abbrev arSS (x : S4 × S4) : List Sl := [.sh x.1.D, .sh x.2.D]
abbrev arP (x : S4 × S4 × Int) : List Sl := [.sh x.1.D, .sh x.2.1.D, iS x.2.2]
abbrev arN (x : S4 × S4 × Nat) : List Sl := [.sh x.1.D, .sh x.2.1.D, iS (x.2.2 : Int)]
def S_common : Spec := sp 2 (fun ss => ∃ i j : Int, ss = [iS i, iS j] ∧ 0 ≤ i ∧ 0 ≤ j) fun ss d => ∃ i j : Int, ss = [iS i, iS j] ∧ d = .int (Int.gcd i j : Nat)
def S_whole_root : Spec := sp 1 (fun ss => ∃ n : Int, ss = [iS n] ∧ Sm 1940 n) fun ss d => ∃ n r : Int, ss = [iS n] ∧ d = .int r ∧ Rn n r
def S__law_whole_root : Spec := spE (fun n : Int => [iS n]) (fun n => 0 ≤ n ∧ Sm 1940 n) fun n => .int (rF n)
def okZ (s : S4) : Prop := s.c ≠ 0 ∧ Sm 4000 s.a ∧ Sm 4000 s.b ∧ Sm 4000 s.c
def S_lowest : Spec := spE ar4 okZ fun s => (nrmZ s.a s.b s.c s.d).D
def S__law_shrunk : Spec := spE ar4 (fun s => 0 < s.c ∧ Sm 4000 s.c) fun s => (nrm s.a s.b s.c s.d).D
def S_surd_sum : Spec := spE arSS (fun x => Bd 1300 x.1 ∧ Bd 1300 x.2) fun x => (sumS x.1 x.2).D
def S_surd_times : Spec := spE arSS (fun x => Bd 900 x.1 ∧ Bd 900 x.2) fun x => (mulS x.1 x.2).D
def S_surd_turned : Spec := spE arS (fun _ => True) fun s => (negS s).D
def S_surd_sign : Spec := spE arS (fun s => Bd 2000 s) fun s => .int (sgn s.a s.b s.d)
def S_surd_order : Spec := spE arSS (fun x => Bd 900 x.1 ∧ Bd 900 x.2) fun x => .int (sgn (sumS x.1 (negS x.2)).a (sumS x.1 (negS x.2)).b (sumS x.1 (negS x.2)).d)
def S_whole_part : Spec := spE arS (fun s => Bd 900 s) fun s => .int (wS s)
def S_whole_at : Spec := spE arP (fun x => Bd 200 x.1 ∧ Bd 200 x.2.1 ∧ Sm 110 x.2.2) fun x => .int (wA x.1 x.2.1 x.2.2)
def S_letters : Spec := spE arN (fun x => Bd 200 x.1 ∧ Bd 200 x.2.1 ∧ x.2.2 ≤ 1000) fun x => wdD (rowL x.1 x.2.1 x.2.2)
def S_unlike_places : Spec := spE (fun x : S4 × S4 × S4 × Nat => [.sh x.1.D, .sh x.2.1.D, .sh x.2.2.1.D, iS (x.2.2.2 : Int)]) (fun x => Bd 200 x.1 ∧ Bd 200 x.2.1 ∧ Bd 200 x.2.2.1 ∧ x.2.2.2 ≤ 1000) fun x => wdD (unl x.1 x.2.1 x.2.2.1 x.2.2.2)
def S_moved_row : Spec := spE arP (fun x => Bd 64 x.1 ∧ Bd 64 x.2.1 ∧ Sm 101 x.2.2) fun x => (mvR x.1 x.2.1 x.2.2).D
def S_height_between : Spec := fun ss Q => ∃ (D : Int) (s h o : S4) (w : List Int), ss = [.sh s.D, .sh h.D, .sh o.D, .sh (wdD w)] ∧ SF D ∧ Vs D s ∧ Vs D h ∧ Vs D o ∧ Bw w ∧ w.length ≤ 500 ∧ Q (.bool (hb s h o w))
theorem m_height_between : ∀ ss (Q Q' : DL.D → Prop), (∀ d, Q d → Q' d) → S_height_between ss Q → S_height_between ss Q' := fun ss Q Q' k ⟨D, s, h, o, w, e, a, b, c, d, f, g, q⟩ => ⟨D, s, h, o, w, e, a, b, c, d, f, g, k _ q⟩
theorem l_height_between : ∀ ss (Q : DL.D → Prop), S_height_between ss Q → ss.length = 4 := fun ss Q ⟨D, s, h, o, w, e, _⟩ => by rw [e]; rfl
def S__law_own_bag : Spec := spOwn
def S__law_draw : Spec := spDraw
def S__law_pick : Spec := spA (fun ds : List DL.D => [.bg, .sh (.list ds)]) (fun ds => ds ≠ [] ∧ ds.length < 1000) (fun ds d => d ∈ ds) fun d => d
def R__law_same : Nat := 4
def Sn__law_same (n : Nat) : Spec := spE (fun d : DL.D => [.sh d, .sh d]) (Same n) fun _ => .bool true
def S__law_same : Spec := Sn__law_same R__law_same
theorem z0__law_same : ∀ ss (Q : DL.D → Prop), ¬ Sn__law_same 0 ss Q := fun ss Q ⟨_, _, h, _⟩ => h
theorem mn__law_same (n : Nat) : ∀ ss (Q Q' : DL.D → Prop), (∀ d, Q d → Q' d) → Sn__law_same n ss Q → Sn__law_same n ss Q' := spE_mono
theorem ln__law_same (n : Nat) : ∀ ss (Q : DL.D → Prop), Sn__law_same n ss Q → ss.length = 2 := spE_len fun _ => rfl
def S__law_times : Spec := spE (fun x : Int × Int => [.sh (fdD x.1), iS x.2]) (fun x => SF x.1 ∧ Sm 203 x.2) fun x => .int (gF x.1 x.2)
def S__law_field : Spec := spA (fun _ : Unit => [.bg]) (fun _ => True) (fun _ D => SF D) fdD
def arFS (x : Int × Int) : List Sl := [.bg, .sh (fdD x.1), iS x.2]
def okFS (x : Int × Int) : Prop := SF x.1 ∧ 8 ≤ x.2 ∧ x.2 ≤ 1000000000000
def S__law_slope : Spec := spA arFS okFS (fun x s => SlV x.1 s) S4.D
def S__law_height : Spec := spA arFS okFS (fun x s => HtN x.1 s) S4.D
def S__law_moved : Spec := spE (fun x : S4 × S4 × Int × Int => [.sh x.1.D, .sh x.2.1.D, iS x.2.2.1, iS x.2.2.2]) (fun x => Bd 64 x.1 ∧ Bd 64 x.2.1 ∧ Sm 101 x.2.2.1 ∧ Sm 101 x.2.2.2) fun x => (mv x.1 x.2.1 x.2.2.1 x.2.2.2).D
def S__law_is_small : Spec := spE arS (fun s => 0 < s.c) fun s => .bool (smallB s)
def S__law_near : Spec := spA (fun x : Int × S4 × S4 => [.bg, .sh x.2.1.D, .sh x.2.2.D]) (fun x => SF x.1 ∧ SlV x.1 x.2.1 ∧ HtN x.1 x.2.2) (fun x h => HtN x.1 h) S4.D
def S__law_letters : Spec := spE (fun x : Int × S4 × S4 × Nat => [.sh (fdD x.1), .sh x.2.1.D, .sh x.2.2.1.D, iS (x.2.2.2 : Int)]) (fun x => SF x.1 ∧ Vs x.1 x.2.1 ∧ Vs x.1 x.2.2.1 ∧ x.2.2.2 ≤ 500) fun x => .list ((rowL x.2.1 x.2.2.1 x.2.2.2).map PyData.int)
def S__law_sign : Spec := spE (fun x : Int × Int × Int => [iS x.1, iS x.2.1, iS x.2.2]) (fun x => SF x.2.2 ∧ Sm 900 x.1 ∧ Sm 900 x.2.1) fun x => .int (sgn x.1 x.2.1 x.2.2)
def S__law_is_less : Spec := spE (fun x : Int × S4 × S4 => [.sh x.2.1.D, .sh x.2.2.D, iS x.1]) (fun x => SF x.1 ∧ Bd 64 x.2.1 ∧ Bd 64 x.2.2) fun x => .bool (decide (sgn (x.2.1.a * x.2.2.c - x.2.2.a * x.2.1.c) (x.2.1.b * x.2.2.c - x.2.2.b * x.2.1.c) x.1 < 0))
def S__law_bounds : Spec := spE (fun x : Int × S4 × List Int => [.sh (fdD x.1), .sh x.2.1.D, .sh (wdD x.2.2)]) (fun x => SF x.1 ∧ SlV x.1 x.2.1 ∧ Bw x.2.2 ∧ x.2.2.length ≤ 500) fun x => bndD (bnd x.1 x.2.1 x.2.2)
def S__law_word : Spec := spA (fun x : Int × Int × S4 => [.bg, .sh (fdD x.1), iS x.2.1, .sh x.2.2.D]) (fun x => okFS (x.1, x.2.1) ∧ SlV x.1 x.2.2) (fun _ w => Bw w ∧ w.length ≤ 500) fun w : List Int => .list (w.map PyData.int)
def S__law_points : Spec := spA (fun x : Int × Int × Option (S4 × S4) => [.bg, .sh (fdD x.1), iS x.2.1, .sh (bndD x.2.2)]) (fun x => okFS (x.1, x.2.1) ∧ BndV x.1 x.2.2) (fun x ps => (∀ p ∈ ps, Pt x.1 p) ∧ ps.length ≤ 10) fun ps : List S4 => .list (ps.map S4.D)
def S__law_pairs : Spec := spA (fun x : Int × List S4 => [.sh (.list (x.2.map S4.D)), .bg, .sh (fdD x.1)]) (fun x => SF x.1 ∧ (∀ p ∈ x.2, Pt x.1 p) ∧ x.2.length ≤ 10) (fun x ps => (∀ p ∈ ps, PrV x.1 p) ∧ ps.length ≤ 13) fun ps : List (S4 × S4) => .list (ps.map pairD)
def S__law_is_word_right : Spec := spE (fun x : Int × Int × S4 × List Int × Int => [.bg, .sh (fdD x.1), iS x.2.1, .sh x.2.2.1.D, .sh (wdD x.2.2.2.1), iS x.2.2.2.2]) (fun x => okFS (x.1, x.2.1) ∧ SlV x.1 x.2.2.1 ∧ Bw x.2.2.2.1 ∧ x.2.2.2.1.length ≤ 500 ∧ 0 ≤ x.2.2.2.2 ∧ x.2.2.2.2 ≤ 20) fun _ => .bool true
def S__law_are_words_right : Spec := spE (fun x : Int × Int × S4 × S4 => [.bg, .sh (fdD x.1), iS x.2.1, .sh x.2.2.1.D, .sh x.2.2.2.D]) (fun x => okFS (x.1, x.2.1) ∧ SlV x.1 x.2.2.1 ∧ SlV x.1 x.2.2.2) fun _ => .bool true
def S__law_is_moved_right : Spec := spE (fun x : Int × S4 × S4 × Bool => [.bg, .sh (fdD x.1), .sh x.2.1.D, .sh x.2.2.1.D, .sh (.bool x.2.2.2)]) (fun x => SF x.1 ∧ SlV x.1 x.2.1 ∧ HtN x.1 x.2.2.1) fun _ => .bool true
def S__law_are_rows_right : Spec := spE (fun x : Int × S4 × S4 × List S4 × Nat × Bool => [.sh (fdD x.1), .sh x.2.1.D, .sh x.2.2.1.D, .sh (.list (x.2.2.2.1.map S4.D)), iS (x.2.2.2.2.1 : Int), .sh (.bool x.2.2.2.2.2)]) (fun x => SF x.1 ∧ Vs x.1 x.2.1 ∧ Vs x.1 x.2.2.1 ∧ (∀ o ∈ x.2.2.2.1, Vs x.1 o) ∧ x.2.2.2.1.length ≤ 5 ∧ x.2.2.2.2.1 ≤ 500) fun _ => .bool true
end
end T
end DL
namespace DL
namespace T
open PySem L2 PySem.Spec PyProof.Rows
noncomputable section
def g_common : SS := (fSeqS (fWhile (fCmp gGt (fN 1) (fC (.int 0))) (fPar [0, 1] (fMV (fV 1) (fMV (fBin gMod (fN 0) (fN 1)) fAN)))) (fRet (fV 0)))
abbrev N_common : List Str := ["one", "other"]
def g_whole_root : SS := (fSeqS (fIfS (fCmp gLt (fN 0) (fC (.int 2))) (fRet (fV 0)) fNext) (fSeqS (fSet 1 (fBin gShlW (fC (.int 1)) (fBin gDiv (fBin gAdd (fBits (fN 0)) (fC (.int 1))) (fC (.int 2))))) (fSeqS (fSet 2 (fBin gDiv (fBin gAdd (fN 1) (fBin gDiv (fN 0) (fN 1))) (fC (.int 2)))) (fSeqS (fWhile (fCmp gLt (fN 2) (fN 1)) (fPar [1, 2] (fMV (fV 2) (fMV (fBin gDiv (fBin gAdd (fN 2) (fBin gDiv (fN 0) (fN 2))) (fC (.int 2))) fAN)))) (fRet (fV 1))))))
abbrev N_whole_root : List Str := ["number", "root", "later"]
def g_surd_turned : SS := (fRet (fTup (fLC (fNeg (fBin gIx (fN 0) (fC (.int 0)))) (fLC (fNeg (fBin gIx (fN 0) (fC (.int 1)))) (fLC (fBin gIx (fN 0) (fC (.int 2))) (fLC (fBin gIx (fN 0) (fC (.int 3))) fLN))))))
abbrev N_surd_turned : List Str := ["one"]
def g_surd_sign : SS := (fSeqS (fPar [1, 2, 3] (fMV (fBin gIx (fN 0) (fC (.int 0))) (fMV (fBin gIx (fN 0) (fC (.int 1))) (fMV (fBin gIx (fN 0) (fC (.int 3))) fAN)))) (fSeqS (fIfS (fAnd (fCmp gGe (fN 1) (fC (.int 0))) (fCmp gGe (fN 2) (fC (.int 0)))) (fRet (fIf (fCmp gGt (fBin gAdd (fN 1) (fN 2)) (fC (.int 0))) (fC (.int 1)) (fC (.int 0)))) fNext) (fSeqS (fIfS (fAnd (fCmp gLe (fN 1) (fC (.int 0))) (fCmp gLe (fN 2) (fC (.int 0)))) (fRet (fNeg (fC (.int 1)))) fNext) (fRet (fIf (fCmp gEq (fBin (gv gGt) (fBin gMul (fN 1) (fN 1)) (fBin gMul (fBin gMul (fN 2) (fN 2)) (fN 3))) (fBin (gv gGt) (fN 1) (fC (.int 0)))) (fC (.int 1)) (fNeg (fC (.int 1))))))))
abbrev N_surd_sign : List Str := ["one", "a", "b", "d"]
def g__law_own_bag : SS := (fSeqS (fSetN 1 (fLc [2] (fSeq (fNV fScr)) (gNm 2) fYes (fCB bAbs (fLC (fN 2) fLN)))) (fSeqS (fSet 3 (fBin gAdd (fC (.int 4303)) (fCB bLen (fLC (fN 1) fLN)))) (fSeqS (fFrz 1 (fForS (fSeq (fV 1)) (gNm 2) (fSet 3 (fBin gMod (fBin gAdd (fBin gAdd (fBin gMul (fN 3) (fC (.int 48271))) (fBin gMod (fN 2) (fC (.int 2147483629)))) (fC (.int 7))) (fC (.int 2147483647)))))) (fRet (fNV (fLC (fNV (fLRev (fNV (fSeq (fN 1))))) (fLC (fC (.int 0)) (fLC (fV 3) fLN))))))))
abbrev N__law_own_bag : List Str := ["script", "cells", "cell", "mixed"]
def g__law_whole_root : SS := (fSeqS (fIfS (fCmp gEq (fN 0) (fC (.int 0))) (fRet (fC (.int 0))) fNext) (fSeqS (fSet 1 (fBin gShlW (fC (.int 1)) (fBin gDiv (fBin gAdd (fBits (fN 0)) (fC (.int 1))) (fC (.int 2))))) (fSeqS (fSet 2 (fBin gDiv (fBin gAdd (fN 1) (fBin gDiv (fN 0) (fN 1))) (fC (.int 2)))) (fSeqS (fWhile (fCmp gLt (fN 2) (fN 1)) (fSeqS (fSet 1 (fV 2)) (fSet 2 (fBin gDiv (fBin gAdd (fN 1) (fBin gDiv (fN 0) (fN 1))) (fC (.int 2)))))) (fRet (fV 1))))))
abbrev N__law_whole_root : List Str := ["n", "found", "better"]
def g__law_times : SS := (fSeqS (fIfS (fCmp gLt (fN 1) (fC (.int 0))) (fRet (fBin gSub (fNeg (fBin gShr (fBin gMul (fNeg (fN 1)) (fBin gIx (fN 0) (fC (.int 1)))) (fC (.int 420)))) (fC (.int 1)))) fNext) (fRet (fBin gShr (fBin gMul (fN 1) (fBin gIx (fN 0) (fC (.int 1)))) (fC (.int 420)))))
abbrev N__law_times : List Str := ["field", "b"]
def g__law_shrunk : SS := (fSeqS (fSet 4 (fV 2)) (fSeqS (fForS (fSeq (fNV (fLC (fCB bAbs (fLC (fN 0) fLN)) (fLC (fCB bAbs (fLC (fN 1) fLN)) fLN)))) (gNm 5) (fWhile (fCmp gGt (fN 5) (fC (.int 0))) (fPar [4, 5] (fMV (fV 5) (fMV (fBin gMod (fN 4) (fN 5)) fAN))))) (fRet (fTup (fLC (fBin gDiv (fN 0) (fN 4)) (fLC (fBin gDiv (fN 1) (fN 4)) (fLC (fBin gDiv (fN 2) (fN 4)) (fLC (fIf (fCmp gEq (fN 1) (fC (.int 0))) (fC (.int 0)) (fV 3)) fLN))))))))
abbrev N__law_shrunk : List Str := ["a", "b", "c", "d", "common_v", "part"]
def g__law_is_small : SS := (fRet (fBin (gv gLe) (fCB bMax3 (fLC (fCB bAbs (fLC (fBin gIx (fN 0) (fC (.int 0))) fLN)) (fLC (fCB bAbs (fLC (fBin gIx (fN 0) (fC (.int 1))) fLN)) (fLC (fBin gIx (fN 0) (fC (.int 2))) fLN)))) (fBin gPow (fC (.int 10)) (fC (.int 12)))))
abbrev N__law_is_small : List Str := ["surd"]
def g__law_sign : SS := (fSeqS (fIfS (fAnd (fCmp gGe (fN 0) (fC (.int 0))) (fCmp gGe (fN 1) (fC (.int 0)))) (fRet (fIf (fCmp gGt (fBin gAdd (fN 0) (fN 1)) (fC (.int 0))) (fC (.int 1)) (fC (.int 0)))) fNext) (fSeqS (fIfS (fAnd (fCmp gLe (fN 0) (fC (.int 0))) (fCmp gLe (fN 1) (fC (.int 0)))) (fRet (fNeg (fC (.int 1)))) fNext) (fSeqS (fIfS (fCmp gGt (fN 0) (fC (.int 0))) (fRet (fIf (fCmp gGt (fBin gMul (fN 0) (fN 0)) (fBin gMul (fBin gMul (fN 1) (fN 1)) (fN 2))) (fC (.int 1)) (fNeg (fC (.int 1))))) fNext) (fRet (fIf (fCmp gGt (fBin gMul (fBin gMul (fN 1) (fN 1)) (fN 2)) (fBin gMul (fN 0) (fN 0))) (fC (.int 1)) (fNeg (fC (.int 1))))))))
abbrev N__law_sign : List Str := ["a", "b", "d"]
def g_lowest : SS := (fSeqS (fIfS (fCmp gLt (fN 2) (fC (.int 0))) (fPar [0, 1, 2] (fMV (fNeg (fN 0)) (fMV (fNeg (fN 1)) (fMV (fNeg (fN 2)) fAN)))) fNext) (fSeqS (fSet 4 (fCall S_common (fAC (fCall S_common (fAC (fCB bAbs (fLC (fN 0) fLN)) (fAC (fCB bAbs (fLC (fN 1) fLN)) fAN))) (fAC (fV 2) fAN)))) (fRet (fTup (fLC (fBin gDiv (fN 0) (fN 4)) (fLC (fBin gDiv (fN 1) (fN 4)) (fLC (fBin gDiv (fN 2) (fN 4)) (fLC (fIf (fCmp gNe (fN 1) (fC (.int 0))) (fV 3) (fC (.int 0))) fLN))))))))
abbrev N_lowest : List Str := ["a", "b", "c", "d", "by"]
def g_whole_part : SS := (fSeqS (fAsg (fV 0) (gSq 4 (gsCons (gNm 1) (gsCons (gNm 2) (gsCons (gNm 3) (gsCons (gNm 4) gsNil)))))) (fSeqS (fSet 5 (fCall S_whole_root (fAC (fBin gMul (fBin gMul (fN 2) (fN 2)) (fN 4)) fAN))) (fRet (fIf (fCmp gGe (fN 2) (fC (.int 0))) (fBin gDiv (fBin gAdd (fN 1) (fN 5)) (fN 3)) (fBin gDiv (fBin gSub (fBin gSub (fN 1) (fN 5)) (fC (.int 1))) (fN 3))))))
abbrev N_whole_part : List Str := ["one", "a", "b", "c", "d", "root"]
def g__law_pick : SS := (fRet (fBin gIx (fN 1) (fCall S__law_draw (fAB 0 (fAC (fCB bLen (fLC (fN 1) fLN)) fAN)))))
abbrev N__law_pick : List Str := ["bag", "some"]
def g__law_slope : SS := (fSeqS (fSet 3 (fBin gDiv (fN 2) (fC (.int 2)))) (fSeqS (fIfS (fCmp gEq (fCall S__law_draw (fAB 0 (fAC (fC (.int 4)) fAN))) (fC (.int 0))) (fSeqS (fSet 4 (fBin gAdd (fC (.int 2)) (fCall S__law_draw (fAB 0 (fAC (fBin gSub (fN 2) (fC (.int 1))) fAN))))) (fRet (fCall S__law_shrunk (fAC (fBin gAdd (fC (.int 1)) (fCall S__law_draw (fAB 0 (fAC (fBin gSub (fN 4) (fC (.int 1))) fAN)))) (fAC (fC (.int 0)) (fAC (fV 4) (fAC (fC (.int 0)) fAN))))))) fNext) (fSeqS (fSet 4 (fBin gAdd (fC (.int 1)) (fCall S__law_draw (fAB 0 (fAC (fV 3) fAN))))) (fSeqS (fSet 5 (fBin gAdd (fC (.int 1)) (fCall S__law_draw (fAB 0 (fAC (fCB bMax2 (fLC (fBin gDiv (fN 3) (fBin gAdd (fCall S__law_times (fAC (fV 1) (fAC (fC (.int 1)) fAN))) (fC (.int 1)))) (fLC (fC (.int 1)) fLN))) fAN))))) (fSeqS (fSet 5 (fIf (fCmp gEq (fCall S__law_draw (fAB 0 (fAC (fC (.int 2)) fAN))) (fC (.int 0))) (fV 5) (fNeg (fN 5)))) (fRet (fCall S__law_shrunk (fAC (fBin gSub (fCall S__law_draw (fAB 0 (fAC (fV 4) fAN))) (fCall S__law_times (fAC (fV 1) (fAC (fV 5) fAN)))) (fAC (fV 5) (fAC (fV 4) (fAC (fBin gIx (fN 1) (fC (.int 0))) fAN)))))))))))
abbrev N__law_slope : List Str := ["bag", "field", "size", "half", "c", "b"]
def g__law_height : SS := (fSeqS (fSet 3 (fBin gSub (fCall S__law_draw (fAB 0 (fAC (fBin gAdd (fBin gMul (fC (.int 2)) (fN 2)) (fC (.int 1))) fAN))) (fN 2))) (fSeqS (fSet 4 (fIf (fCmp gEq (fCall S__law_draw (fAB 0 (fAC (fC (.int 4)) fAN))) (fC (.int 0))) (fC (.int 0)) (fBin gSub (fCall S__law_draw (fAB 0 (fAC (fBin gAdd (fBin gMul (fC (.int 2)) (fN 2)) (fC (.int 1))) fAN))) (fN 2)))) (fRet (fCall S__law_shrunk (fAC (fV 3) (fAC (fV 4) (fAC (fBin gAdd (fC (.int 1)) (fCall S__law_draw (fAB 0 (fAC (fV 2) fAN)))) (fAC (fBin gIx (fN 1) (fC (.int 0))) fAN))))))))
abbrev N__law_height : List Str := ["bag", "field", "size", "a", "b"]
def g__law_moved : SS := (fSeqS (fSet 4 (fBin gMul (fBin gIx (fN 0) (fC (.int 2))) (fBin gIx (fN 1) (fC (.int 2))))) (fSeqS (fSet 5 (fBin gAdd (fBin gAdd (fBin gMul (fBin gMul (fN 2) (fBin gIx (fN 0) (fC (.int 0)))) (fBin gIx (fN 1) (fC (.int 2)))) (fBin gMul (fBin gIx (fN 1) (fC (.int 0))) (fBin gIx (fN 0) (fC (.int 2))))) (fBin gMul (fN 3) (fN 4)))) (fRet (fCall S__law_shrunk (fAC (fV 5) (fAC (fBin gAdd (fBin gMul (fBin gMul (fN 2) (fBin gIx (fN 0) (fC (.int 1)))) (fBin gIx (fN 1) (fC (.int 2)))) (fBin gMul (fBin gIx (fN 1) (fC (.int 1))) (fBin gIx (fN 0) (fC (.int 2))))) (fAC (fV 4) (fAC (fCB bMax2 (fLC (fBin gIx (fN 0) (fC (.int 3))) (fLC (fBin gIx (fN 1) (fC (.int 3))) fLN))) fAN))))))))
abbrev N__law_moved : List Str := ["slope", "height", "n", "more", "c", "a"]
def g__law_letters : SS := (fSeqS (fPar [4, 5, 6] (fMV (fBin gMul (fBin gIx (fN 1) (fC (.int 2))) (fBin gIx (fN 2) (fC (.int 2)))) (fMV (fBin gMul (fBin gIx (fN 2) (fC (.int 0))) (fBin gIx (fN 1) (fC (.int 2)))) (fMV (fBin gMul (fBin gIx (fN 2) (fC (.int 1))) (fBin gIx (fN 1) (fC (.int 2)))) fAN)))) (fSeqS (fPar [7, 8] (fMV (fBin gMul (fBin gIx (fN 1) (fC (.int 0))) (fBin gIx (fN 2) (fC (.int 2)))) (fMV (fBin gMul (fBin gIx (fN 1) (fC (.int 1))) (fBin gIx (fN 2) (fC (.int 2)))) fAN))) (fSeqS (fPar [9, 10] (fMN fLN (fMV (fBin gDiv (fBin gAdd (fN 5) (fCall S__law_times (fAC (fV 0) (fAC (fV 6) fAN)))) (fN 4)) fAN))) (fSeqS (fForS (fRng1 (fN 3)) (gNm 11) (fSeqS (fPar [5, 6] (fMV (fBin gAdd (fN 5) (fN 7)) (fMV (fBin gAdd (fN 6) (fN 8)) fAN))) (fSeqS (fSet 12 (fBin gDiv (fBin gAdd (fN 5) (fCall S__law_times (fAC (fV 0) (fAC (fV 6) fAN)))) (fN 4))) (fSeqS (fApp 9 (fBin gSub (fN 12) (fN 10))) (fSet 10 (fV 12)))))) (fRetO 9)))))
abbrev N__law_letters : List Str := ["field", "slope", "height", "many", "c", "a", "b", "up", "side", "found", "last", "n", "now"]
def g__law_is_less : SS := (fSeqS (fSet 3 (fBin gSub (fBin gMul (fBin gIx (fN 0) (fC (.int 0))) (fBin gIx (fN 1) (fC (.int 2)))) (fBin gMul (fBin gIx (fN 1) (fC (.int 0))) (fBin gIx (fN 0) (fC (.int 2)))))) (fRet (fBin (gv gLt) (fCall S__law_sign (fAC (fV 3) (fAC (fBin gSub (fBin gMul (fBin gIx (fN 0) (fC (.int 1))) (fBin gIx (fN 1) (fC (.int 2)))) (fBin gMul (fBin gIx (fN 1) (fC (.int 1))) (fBin gIx (fN 0) (fC (.int 2))))) (fAC (fV 2) fAN)))) (fC (.int 0)))))
abbrev N__law_is_less : List Str := ["one", "other", "d", "a"]
def g__law_bounds : SS := (fSeqS (fAsg (fTup (fLC (fBin gIx (fN 1) (fC (.int 0))) (fLC (fBin gIx (fN 1) (fC (.int 1))) (fLC (fBin gIx (fN 1) (fC (.int 2))) (fLC (fBin gIx (fN 0) (fC (.int 0))) fLN))))) (gSq 4 (gsCons (gNm 3) (gsCons (gNm 4) (gsCons (gNm 5) (gsCons (gNm 6) gsNil)))))) (fSeqS (fPar [7, 8, 9] (fMV (fTup (fLC (fC (.int 0)) (fLC (fC (.int 0)) fLN))) (fMV (fTup (fLC (fV 5) (fLC (fC (.int 0)) fLN))) (fMV (fC (.int 0)) fAN)))) (fSeqS (fForS (fEnumT (fV 2)) (gSq 2 (gsCons (gNm 10) (gsCons (gNm 11) gsNil))) (fSeqS (fSet 9 (fBin gAdd (fN 9) (fN 11))) (fSeqS (fSet 12 (fTup (fLC (fBin gSub (fBin gMul (fN 9) (fN 5)) (fBin gMul (fBin gAdd (fN 10) (fC (.int 1))) (fN 3))) (fLC (fBin gMul (fNeg (fBin gAdd (fN 10) (fC (.int 1)))) (fN 4)) fLN)))) (fSeqS (fIfS (fCmp gGt (fCall S__law_sign (fAC (fBin gSub (fBin gIx (fN 12) (fC (.int 0))) (fBin gIx (fN 7) (fC (.int 0)))) (fAC (fBin gSub (fBin gIx (fN 12) (fC (.int 1))) (fBin gIx (fN 7) (fC (.int 1)))) (fAC (fV 6) fAN)))) (fC (.int 0))) (fSet 7 (fV 12)) fNext) (fIfS (fCmp gLt (fCall S__law_sign (fAC (fBin gSub (fBin gAdd (fBin gIx (fN 12) (fC (.int 0))) (fN 5)) (fBin gIx (fN 8) (fC (.int 0)))) (fAC (fBin gSub (fBin gIx (fN 12) (fC (.int 1))) (fBin gIx (fN 8) (fC (.int 1)))) (fAC (fV 6) fAN)))) (fC (.int 0))) (fSet 8 (fTup (fLC (fBin gAdd (fBin gIx (fN 12) (fC (.int 0))) (fN 5)) (fLC (fBin gIx (fN 12) (fC (.int 1))) fLN)))) fNext))))) (fSeqS (fIfS (fCmp gLe (fCall S__law_sign (fAC (fBin gSub (fBin gIx (fN 8) (fC (.int 0))) (fBin gIx (fN 7) (fC (.int 0)))) (fAC (fBin gSub (fBin gIx (fN 8) (fC (.int 1))) (fBin gIx (fN 7) (fC (.int 1)))) (fAC (fV 6) fAN)))) (fC (.int 0))) (fRet (fC .none)) fNext) (fRet (fNV (fLC (fCall S__law_shrunk (fAC (fBin gIx (fN 7) (fC (.int 0))) (fAC (fBin gIx (fN 7) (fC (.int 1))) (fAC (fV 5) (fAC (fV 6) fAN))))) (fLC (fCall S__law_shrunk (fAC (fBin gIx (fN 8) (fC (.int 0))) (fAC (fBin gIx (fN 8) (fC (.int 1))) (fAC (fV 5) (fAC (fV 6) fAN))))) fLN))))))))
abbrev N__law_bounds : List Str := ["field", "slope", "word", "a", "b", "c", "d", "low", "high", "ones", "k", "letter", "one"]
def g_surd_sum : SS := (fSeqS (fSet 2 (fBin gAdd (fBin gMul (fBin gIx (fN 0) (fC (.int 0))) (fBin gIx (fN 1) (fC (.int 2)))) (fBin gMul (fBin gIx (fN 1) (fC (.int 0))) (fBin gIx (fN 0) (fC (.int 2)))))) (fRet (fCall S_lowest (fAC (fV 2) (fAC (fBin gAdd (fBin gMul (fBin gIx (fN 0) (fC (.int 1))) (fBin gIx (fN 1) (fC (.int 2)))) (fBin gMul (fBin gIx (fN 1) (fC (.int 1))) (fBin gIx (fN 0) (fC (.int 2))))) (fAC (fBin gMul (fBin gIx (fN 0) (fC (.int 2))) (fBin gIx (fN 1) (fC (.int 2)))) (fAC (fCB bMax2 (fLC (fBin gIx (fN 0) (fC (.int 3))) (fLC (fBin gIx (fN 1) (fC (.int 3))) fLN))) fAN)))))))
abbrev N_surd_sum : List Str := ["one", "other", "a"]
def g_surd_times : SS := (fSeqS (fSet 2 (fCB bMax2 (fLC (fBin gIx (fN 0) (fC (.int 3))) (fLC (fBin gIx (fN 1) (fC (.int 3))) fLN)))) (fSeqS (fSet 3 (fBin gAdd (fBin gMul (fBin gIx (fN 0) (fC (.int 0))) (fBin gIx (fN 1) (fC (.int 0)))) (fBin gMul (fBin gMul (fBin gIx (fN 0) (fC (.int 1))) (fBin gIx (fN 1) (fC (.int 1)))) (fN 2)))) (fRet (fCall S_lowest (fAC (fV 3) (fAC (fBin gAdd (fBin gMul (fBin gIx (fN 0) (fC (.int 0))) (fBin gIx (fN 1) (fC (.int 1)))) (fBin gMul (fBin gIx (fN 0) (fC (.int 1))) (fBin gIx (fN 1) (fC (.int 0))))) (fAC (fBin gMul (fBin gIx (fN 0) (fC (.int 2))) (fBin gIx (fN 1) (fC (.int 2)))) (fAC (fV 2) fAN))))))))
abbrev N_surd_times : List Str := ["one", "other", "d", "a"]
def g_whole_at : SS := (fSeqS (fSet 3 (fBin gAdd (fBin gMul (fBin gMul (fN 2) (fBin gIx (fN 0) (fC (.int 0)))) (fBin gIx (fN 1) (fC (.int 2)))) (fBin gMul (fBin gIx (fN 1) (fC (.int 0))) (fBin gIx (fN 0) (fC (.int 2)))))) (fSeqS (fSet 4 (fBin gAdd (fBin gMul (fBin gMul (fN 2) (fBin gIx (fN 0) (fC (.int 1)))) (fBin gIx (fN 1) (fC (.int 2)))) (fBin gMul (fBin gIx (fN 1) (fC (.int 1))) (fBin gIx (fN 0) (fC (.int 2)))))) (fRet (fCall S_whole_part (fAC (fTup (fLC (fV 3) (fLC (fV 4) (fLC (fBin gMul (fBin gIx (fN 0) (fC (.int 2))) (fBin gIx (fN 1) (fC (.int 2)))) (fLC (fCB bMax2 (fLC (fBin gIx (fN 0) (fC (.int 3))) (fLC (fBin gIx (fN 1) (fC (.int 3))) fLN))) fLN))))) fAN)))))
abbrev N_whole_at : List Str := ["slope", "height", "n", "a", "b"]
def g__law_field : SS := (fSeqS (fSet 1 (fBin gAdd (fC (.int 2)) (fCall S__law_draw (fAB 0 (fAC (fCall S__law_pick (fAB 0 (fAC (fNV (fLC (fC (.int 5)) (fLC (fC (.int 40)) (fLC (fC (.int 40)) (fLC (fC (.int 999)) (fLC (fC (.int 999998)) fLN)))))) fAN))) fAN))))) (fSeqS (fForS (fRng2 (fC (.int 2)) (fC (.int 1000))) (gNm 2) (fSeqS (fIfS (fCmp gGt (fBin gMul (fN 2) (fN 2)) (fN 1)) fBreak fNext) (fWhile (fCmp gEq (fBin gMod (fN 1) (fBin gMul (fN 2) (fN 2))) (fC (.int 0))) (fSet 1 (fBin gDiv (fN 1) (fBin gMul (fN 2) (fN 2))))))) (fSeqS (fIfS (fCmp gEq (fN 1) (fC (.int 1))) (fSet 1 (fC (.int 2))) fNext) (fRet (fTup (fLC (fV 1) (fLC (fCall S__law_whole_root (fAC (fBin gShlW (fN 1) (fC (.int 840))) fAN)) fLN)))))))
abbrev N__law_field : List Str := ["bag", "d", "k"]
def g__law_near : SS := (fSeqS (fSet 3 (fCall S__law_pick (fAB 0 (fAC (fNV (fLC (fC (.int 0)) (fLC (fC (.int 1)) (fLC (fC (.int 2)) (fLC (fCall S__law_draw (fAB 0 (fAC (fC (.int 60)) fAN))) fLN))))) fAN)))) (fSeqS (fSet 4 (fCall S__law_moved (fAC (fV 1) (fAC (fV 2) (fAC (fIf (fCmp gEq (fCall S__law_draw (fAB 0 (fAC (fC (.int 2)) fAN))) (fC (.int 0))) (fV 3) (fNeg (fN 3))) (fAC (fBin gSub (fCall S__law_draw (fAB 0 (fAC (fC (.int 5)) fAN))) (fC (.int 2))) fAN)))))) (fRet (fIf (fTV (fCall S__law_is_small (fAC (fV 4) fAN))) (fV 4) (fV 2)))))
abbrev N__law_near : List Str := ["bag", "slope", "height", "many", "found"]
def g__law_word : SS := (fSeqS (fPar [4, 5] (fMV (fBin gAdd (fC (.int 1)) (fCall S__law_draw (fAB 0 (fAC (fC (.int 24)) fAN)))) (fMV (fCall S__law_draw (fAB 0 (fAC (fC (.int 8)) fAN))) fAN))) (fSeqS (fIfS (fCmp gEq (fCall S__law_draw (fAB 0 (fAC (fC (.int 4)) fAN))) (fC (.int 0))) (fSet 4 (fCall S__law_pick (fAB 0 (fAC (fNV (fLC (fC (.int 60)) (fLC (fC (.int 500)) (fLC (fBin gAdd (fC (.int 301)) (fCall S__law_draw (fAB 0 (fAC (fC (.int 200)) fAN)))) fLN)))) fAN)))) fNext) (fSeqS (fIfS (fCmp gEq (fN 5) (fC (.int 0))) (fRet (fNV (fLc [6] (fRng1 (fCB bMin2 (fLC (fN 4) (fLC (fC (.int 60)) fLN)))) (gNm 6) fYes (fCall S__law_draw (fAB 0 (fAC (fC (.int 2)) fAN)))))) fNext) (fSeqS (fSet 7 (fIf (fCmp gEq (fN 5) (fC (.int 1))) (fCall S__law_slope (fAB 0 (fAC (fV 1) (fAC (fV 2) fAN)))) (fV 3))) (fSeqS (fSetN 8 (fCallO S__law_letters (fAC (fV 1) (fAC (fV 7) (fAC (fCall S__law_height (fAB 0 (fAC (fV 1) (fAC (fV 2) fAN)))) (fAC (fV 4) fAN)))))) (fSeqS (fIfS (fCmp gEq (fN 5) (fC (.int 2))) (fSeqS (fSet 9 (fCall S__law_pick (fAB 0 (fAC (fNV (fLC (fC (.int 0)) (fLC (fBin gSub (fN 4) (fC (.int 1))) (fLC (fCall S__law_draw (fAB 0 (fAC (fV 4) fAN))) fLN)))) fAN)))) (fSetIx 8 (fBin gSub (fC (.int 1)) (fBin gIx (fN 8) (fN 9))) (fN 9))) fNext) (fFrz 8 (fRet (fV 8)))))))))
abbrev N__law_word : List Str := ["bag", "field", "size", "slope", "many", "way", "turn", "other", "found", "at"]
def g__law_points : SS := (fSeqS (fSetN 4 (fLC (fTup (fLC (fC (.int 0)) (fLC (fC (.int 0)) (fLC (fC (.int 1)) (fLC (fC (.int 0)) fLN))))) (fLC (fTup (fLC (fC (.int 1)) (fLC (fC (.int 0)) (fLC (fC (.int 1)) (fLC (fC (.int 0)) fLN))))) fLN))) (fSeqS (fIfS (fCmp gNotN (fN 3) (fC .none)) (fSeqS (fAsg (fV 3) (gSq 2 (gsCons (gNm 5) (gsCons (gNm 6) gsNil)))) (fSeqS (fSet 7 (fBin gMul (fBin gIx (fN 5) (fC (.int 2))) (fBin gIx (fN 6) (fC (.int 2))))) (fSeqS (fPar [8, 9] (fMV (fBin gAdd (fBin gMul (fBin gIx (fN 5) (fC (.int 0))) (fBin gIx (fN 6) (fC (.int 2)))) (fBin gMul (fBin gIx (fN 6) (fC (.int 0))) (fBin gIx (fN 5) (fC (.int 2))))) (fMV (fBin gAdd (fBin gMul (fBin gIx (fN 5) (fC (.int 1))) (fBin gIx (fN 6) (fC (.int 2)))) (fBin gMul (fBin gIx (fN 6) (fC (.int 1))) (fBin gIx (fN 5) (fC (.int 2))))) fAN))) (fSeqS (fSetN 4 (fCat (fN 4) (fNV (fLC (fV 5) (fLC (fV 6) (fLC (fCall S__law_shrunk (fAC (fV 8) (fAC (fV 9) (fAC (fBin gMul (fC (.int 2)) (fN 7)) (fAC (fBin gIx (fN 1) (fC (.int 0))) fAN))))) fLN)))))) (fSeqS (fApp 4 (fCall S__law_shrunk (fAC (fBin gIx (fN 5) (fC (.int 0))) (fAC (fBin gIx (fN 5) (fC (.int 1))) (fAC (fBin gMul (fC (.int 2)) (fBin gIx (fN 5) (fC (.int 2)))) (fAC (fBin gIx (fN 5) (fC (.int 3))) fAN)))))) (fApp 4 (fCall S__law_shrunk (fAC (fBin gAdd (fBin gIx (fN 6) (fC (.int 0))) (fBin gIx (fN 6) (fC (.int 2)))) (fAC (fBin gIx (fN 6) (fC (.int 1))) (fAC (fBin gMul (fC (.int 2)) (fBin gIx (fN 6) (fC (.int 2)))) (fAC (fBin gIx (fN 6) (fC (.int 3))) fAN))))))))))) fNext) (fSeqS (fForS (fRng1 (fC (.int 3))) (gNm 10) (fApp 4 (fCall S__law_slope (fAB 0 (fAC (fV 1) (fAC (fV 2) fAN)))))) (fFrz 4 (fRet (fNV (fLc [11] (fSeq (fV 4)) (gNm 11) (fTV (fCall S__law_is_small (fAC (fV 11) fAN))) (fV 11))))))))
abbrev N__law_points : List Str := ["bag", "field", "size", "bounds", "found", "low", "high", "c", "a", "b", "turn", "point"]
def g__law_pairs : SS := (fSeqS (fSetN 3 (fLC (fTup (fLC (fC (.int 0)) (fLC (fC (.int 1)) fLN))) (fLC (fTup (fLC (fC (.int 0)) (fLC (fC (.int 2)) fLN))) (fLC (fTup (fLC (fC (.int 2)) (fLC (fC (.int 3)) fLN))) (fLC (fTup (fLC (fC (.int 3)) (fLC (fC (.int 1)) fLN))) (fLC (fTup (fLC (fC (.int 4)) (fLC (fC (.int 3)) fLN))) (fLC (fTup (fLC (fC (.int 2)) (fLC (fC (.int 4)) fLN))) (fLC (fTup (fLC (fC (.int 5)) (fLC (fC (.int 2)) fLN))) (fLC (fTup (fLC (fC (.int 3)) (fLC (fC (.int 6)) fLN))) (fLC (fTup (fLC (fC (.int 5)) (fLC (fC (.int 4)) fLN))) fLN)))))))))) (fSeqS (fForS (fRng1 (fC (.int 4))) (gNm 4) (fApp 3 (fTup (fLC (fCall S__law_draw (fAB 1 (fAC (fC (.int 10)) fAN))) (fLC (fCall S__law_draw (fAB 1 (fAC (fC (.int 10)) fAN))) fLN))))) (fSeqS (fSetN 5 fLN) (fSeqS (fFrz 3 (fForS (fSeq (fV 3)) (gSq 2 (gsCons (gNm 6) (gsCons (gNm 7) gsNil))) (fIfS (fAnd (fCmp gLt (fN 6) (fCB bLen (fLC (fN 0) fLN))) (fCmp gLt (fN 7) (fCB bLen (fLC (fN 0) fLN)))) (fSeqS (fPar [8, 9] (fMV (fBin gIx (fN 0) (fN 6)) (fMV (fBin gIx (fN 0) (fN 7)) fAN))) (fIfS (fTV (fCall S__law_is_less (fAC (fV 8) (fAC (fV 9) (fAC (fBin gIx (fN 2) (fC (.int 0))) fAN))))) (fApp 5 (fTup (fLC (fV 8) (fLC (fV 9) fLN)))) (fIfS (fTV (fCall S__law_is_less (fAC (fV 9) (fAC (fV 8) (fAC (fBin gIx (fN 2) (fC (.int 0))) fAN))))) (fApp 5 (fTup (fLC (fV 9) (fLC (fV 8) fLN)))) fNext))) fNext))) (fFrz 5 (fRet (fV 5)))))))
abbrev N__law_pairs : List Str := ["points", "bag", "field", "some", "turn", "found", "i", "j", "one", "other"]
def g_surd_order : SS := (fRet (fCall S_surd_sign (fAC (fCall S_surd_sum (fAC (fV 0) (fAC (fCall S_surd_turned (fAC (fV 1) fAN)) fAN))) fAN)))
abbrev N_surd_order : List Str := ["one", "other"]
def g_letters : SS := (fSeqS (fSetN 3 (fLc [4] (fRng1 (fBin gAdd (fN 2) (fC (.int 1)))) (gNm 4) fYes (fCall S_whole_at (fAC (fV 0) (fAC (fV 1) (fAC (fV 4) fAN)))))) (fRet (fCB bTuple (fLC (fNV (fLc [4] (fRng1 (fN 2)) (gNm 4) fYes (fBin gSub (fBin gIx (fN 3) (fBin gAdd (fN 4) (fC (.int 1)))) (fBin gIx (fN 3) (fN 4))))) fLN))))
abbrev N_letters : List Str := ["slope", "height", "many", "wholes", "n"]
def g_moved_row : SS := (fSeqS (fSet 3 (fCall S_surd_sum (fAC (fCall S_surd_times (fAC (fTup (fLC (fV 2) (fLC (fC (.int 0)) (fLC (fC (.int 1)) (fLC (fC (.int 0)) fLN))))) (fAC (fV 0) fAN))) (fAC (fV 1) fAN)))) (fRet (fCall S_surd_sum (fAC (fV 3) (fAC (fTup (fLC (fNeg (fCall S_whole_part (fAC (fV 3) fAN))) (fLC (fC (.int 0)) (fLC (fC (.int 1)) (fLC (fC (.int 0)) fLN))))) fAN)))))
abbrev N_moved_row : List Str := ["slope", "height", "n", "found"]
def g__law_same (Sr : Spec) : SS := (fSeqS (fIfS (fCmp gIsN (fN 1) (fC .none)) (fRet (fBin (gv gIsN) (fN 0) (fC .none))) fNext) (fSeqS (fIfS (fCmp gIsB (fN 1) (fC (.bool true))) (fRet (fBin (gv gIsB) (fN 0) (fC (.bool true)))) fNext) (fSeqS (fIfS (fCmp gIsB (fN 1) (fC (.bool false))) (fRet (fBin (gv gIsB) (fN 0) (fC (.bool false)))) fNext) (fSeqS (fIfS (fTV (fIsI "str" (fN 1))) (fRet (fAndV (fIsI "str" (fN 0)) (fBin (gv gEq) (fN 0) (fN 1)))) fNext) (fSeqS (fIfS (fTV (fIsI "int" (fN 1))) (fRet (fAndV (fIsI "int" (fN 0)) (fAndV (fNotV (fIsI "bool" (fN 0))) (fBin (gv gEq) (fN 0) (fN 1))))) fNext) (fSeqS (fIfS (fOr (fNot (fTV (fIsI "tuple" (fN 0)))) (fOr (fNot (fTV (fIsI "tuple" (fN 1)))) (fCmp gNe (fCB bLen (fLC (fN 0) fLN)) (fCB bLen (fLC (fN 1) fLN))))) (fRet (fC (.bool false))) fNext) (fRet (fCB bAll (fLC (fNV (fLc [2, 3] (fZip (fV 0) (fV 1)) (gSq 2 (gsCons (gNm 2) (gsCons (gNm 3) gsNil))) fYes (fCall Sr (fAC (fV 2) (fAC (fV 3) fAN))))) fLN)))))))))
abbrev N__law_same : List Str := ["told", "due", "one", "other"]
def g_unlike_places : SS := (fSeqS (fPar [4, 5] (fMV (fCall S_letters (fAC (fV 0) (fAC (fV 1) (fAC (fV 3) fAN)))) (fMV (fCall S_letters (fAC (fV 0) (fAC (fV 2) (fAC (fV 3) fAN)))) fAN))) (fRet (fCB bTuple (fLC (fNV (fLc [6] (fRng1 (fN 3)) (gNm 6) (fCmp gNe (fBin gIx (fN 4) (fN 6)) (fBin gIx (fN 5) (fN 6))) (fV 6))) fLN))))
abbrev N_unlike_places : List Str := ["slope", "height", "other", "many", "row", "more", "place"]
def g_height_between : SS := (fSeqS (fPar [4, 5, 6] (fMV (fV 1) (fMV (fV 2) (fMV (fTup (fLC (fC (.int 0)) (fLC (fC (.int 0)) (fLC (fC (.int 1)) (fLC (fC (.int 0)) fLN))))) fAN)))) (fSeqS (fForS (fSeq (fV 3)) (gNm 7) (fSeqS (fSet 6 (fCall S_surd_sum (fAC (fCall S_surd_sum (fAC (fV 6) (fAC (fTup (fLC (fV 7) (fLC (fC (.int 0)) (fLC (fC (.int 1)) (fLC (fC (.int 0)) fLN))))) fAN))) (fAC (fCall S_surd_turned (fAC (fV 0) fAN)) fAN)))) (fSeqS (fSet 4 (fIf (fCmp gGt (fCall S_surd_order (fAC (fV 6) (fAC (fV 4) fAN))) (fC (.int 0))) (fV 6) (fV 4))) (fSeqS (fSet 8 (fCall S_surd_sum (fAC (fV 6) (fAC (fTup (fLC (fC (.int 1)) (fLC (fC (.int 0)) (fLC (fC (.int 1)) (fLC (fC (.int 0)) fLN))))) fAN)))) (fSet 5 (fIf (fCmp gLt (fCall S_surd_order (fAC (fV 8) (fAC (fV 5) fAN))) (fC (.int 0))) (fV 8) (fV 5))))))) (fRet (fBin (gv gLt) (fCall S_surd_order (fAC (fV 4) (fAC (fV 5) fAN))) (fC (.int 0))))))
abbrev N_height_between : List Str := ["slope", "height", "other", "word", "low", "high", "point", "letter", "above"]
def g__law_is_moved_right : SS := (fSeqS (fSet 5 (fBin gAdd (fBin gMul (fCall S__law_draw (fAB 0 (fAC (fBin gPow (fC (.int 10)) (fC (.int 9))) fAN))) (fBin gPow (fC (.int 10)) (fC (.int 21)))) (fCall S__law_draw (fAB 0 (fAC (fBin gPow (fC (.int 10)) (fC (.int 9))) fAN))))) (fSeqS (fForS (fSeq (fNV (fLC (fCall S__law_draw (fAB 0 (fAC (fC (.int 40)) fAN))) (fLC (fV 5) (fLC (fCall S__law_pick (fAB 0 (fAC (fNV (fLC (fC (.int 0)) (fLC (fC (.int 1)) (fLC (fBin gPow (fC (.int 10)) (fC (.int 30))) fLN)))) fAN))) fLN))))) (gNm 6) (fSeqS (fAsg (fCall S__law_moved (fAC (fV 2) (fAC (fV 3) (fAC (fV 6) (fAC (fC (.int 0)) fAN))))) (gSq 4 (gsCons (gNm 7) (gsCons (gNm 8) (gsCons (gNm 9) (gsCons (gNm 10) gsNil)))))) (fSeqS (fSet 11 (fCall S__law_shrunk (fAC (fBin gSub (fN 7) (fBin gMul (fBin gDiv (fBin gAdd (fN 7) (fCall S__law_times (fAC (fV 1) (fAC (fV 8) fAN)))) (fN 9)) (fN 9))) (fAC (fV 8) (fAC (fV 9) (fAC (fV 10) fAN)))))) (fSeqS (fIfS (fTV (fN 4)) (fSet 12 (fCallK S_moved_row [1, 2, 0] (fAC (fV 6) (fAC (fV 2) (fAC (fV 3) fAN))))) (fSet 12 (fCall S_moved_row (fAC (fV 2) (fAC (fV 3) (fAC (fV 6) fAN)))))) (fIfS (fNot (fTV (fCall S__law_same (fAC (fV 12) (fAC (fV 11) fAN))))) (fRet (fC (.bool false))) fNext))))) (fRet (fC (.bool true)))))
abbrev N__law_is_moved_right : List Str := ["bag", "field", "slope", "height", "is_named", "great", "n", "a", "b", "c", "d", "due", "told"]
def g__law_is_word_right : SS := (fSeqS (fSet 6 (fCall S__law_bounds (fAC (fV 1) (fAC (fV 3) (fAC (fV 4) fAN))))) (fSeqS (fSet 7 (fNV (fSlL (fCall S__law_pairs (fAC (fCall S__law_points (fAB 0 (fAC (fV 1) (fAC (fV 2) (fAC (fV 6) fAN))))) (fAB 0 (fAC (fV 1) fAN)))) fON (fOS (fN 5))))) (fSeqS (fForS (fEnum (fBin gAdd (fN 7) (fNV (fSlL (fN 7) fON (fOS (fC (.int 1))))))) (gSq 2 (gsCons (gNm 8) (gsCons (gSq 2 (gsCons (gNm 9) (gsCons (gNm 10) gsNil))) gsNil))) (fSeqS (fSet 11 (fAndV (fBin (gv gNotN) (fN 6) (fC .none)) (fCall S__law_is_less (fAC (fBin gIx (fN 6) (fC (.int 0))) (fAC (fV 10) (fAC (fBin gIx (fN 1) (fC (.int 0))) fAN)))))) (fSeqS (fIfS (fAnd (fTV (fN 11)) (fNot (fTV (fCall S__law_is_less (fAC (fV 9) (fAC (fBin gIx (fN 6) (fC (.int 1))) (fAC (fBin gIx (fN 1) (fC (.int 0))) fAN))))))) (fSet 11 (fC (.bool false))) fNext) (fSeqS (fIfS (fCmp gEq (fN 8) (fC (.int 1))) (fSet 12 (fCallK S_height_between [3, 2, 0, 1] (fAC (fV 10) (fAC (fV 4) (fAC (fV 9) (fAC (fV 3) fAN)))))) (fSet 12 (fCall S_height_between (fAC (fV 3) (fAC (fV 9) (fAC (fV 10) (fAC (fV 4) fAN))))))) (fIfS (fNot (fTV (fCall S__law_same (fAC (fV 12) (fAC (fV 11) fAN))))) (fRet (fC (.bool false))) fNext))))) (fRet (fC (.bool true))))))
abbrev N__law_is_word_right : List Str := ["bag", "field", "size", "slope", "word", "few", "bounds", "pairs", "k", "one", "other", "due", "told"]
def g__law_are_rows_right : SS := (fSeqS (fPar [6, 7] (fMV (fNV (fCallO S__law_letters (fAC (fV 0) (fAC (fV 1) (fAC (fV 2) (fAC (fV 4) fAN)))))) (fMN fLN fAN))) (fSeqS (fForS (fSeq (fV 3)) (gNm 8) (fSeqS (fSet 9 (fNV (fCallO S__law_letters (fAC (fV 0) (fAC (fV 1) (fAC (fV 8) (fAC (fV 4) fAN))))))) (fApp 7 (fNV (fLC (fV 8) (fLC (fCB bTuple (fLC (fNV (fLc [10] (fRng1 (fN 4)) (gNm 10) (fCmp gNe (fBin gIx (fN 6) (fN 10)) (fBin gIx (fN 9) (fN 10))) (fV 10))) fLN)) fLN)))))) (fSeqS (fForS (fSeq (fBin gAdd (fN 7) (fNV (fSlL (fN 7) fON (fOS (fC (.int 1))))))) (gSq 2 (gsCons (gNm 8) (gsCons (gNm 11) gsNil))) (fSeqS (fIfS (fTV (fN 5)) (fSet 12 (fCallK S_unlike_places [3, 2, 1, 0] (fAC (fV 4) (fAC (fV 8) (fAC (fV 2) (fAC (fV 1) fAN)))))) (fSet 12 (fCall S_unlike_places (fAC (fV 1) (fAC (fV 2) (fAC (fV 8) (fAC (fV 4) fAN))))))) (fIfS (fNot (fTV (fCall S__law_same (fAC (fV 12) (fAC (fV 11) fAN))))) (fRet (fC (.bool false))) fNext))) (fRet (fC (.bool true))))))
abbrev N__law_are_rows_right : List Str := ["field", "slope", "height", "others", "many", "is_named", "mine", "looks", "other", "yours", "n", "due", "told"]
def g__law_are_words_right : SS := (fSeqS (fPar [5, 6] (fMV (fCB bTuple (fLC (fCall S__law_word (fAB 0 (fAC (fV 1) (fAC (fV 2) (fAC (fV 3) fAN))))) fLN)) (fMV (fCB bTuple (fLC (fNV (fSlL (fCall S__law_word (fAB 0 (fAC (fV 1) (fAC (fV 2) (fAC (fV 4) fAN))))) fON (fOS (fC (.int 60))))) fLN)) fAN))) (fSeqS (fSet 7 (fIf (fCmp gGt (fCB bLen (fLC (fN 5) fLN)) (fC (.int 60))) (fC (.int 4)) (fC (.int 13)))) (fSeqS (fSet 8 (fNV (fLC (fTup (fLC (fV 3) (fLC (fV 5) (fLC (fV 7) fLN)))) (fLC (fTup (fLC (fV 4) (fLC (fV 6) (fLC (fC (.int 13)) fLN)))) (fLC (fTup (fLC (fV 4) (fLC (fSlT (fN 5) fON (fOS (fC (.int 60)))) (fLC (fC (.int 4)) fLN)))) (fLC (fTup (fLC (fV 3) (fLC (fV 6) (fLC (fC (.int 4)) fLN)))) (fLC (fTup (fLC (fV 3) (fLC (fV 5) (fLC (fC (.int 3)) fLN)))) fLN))))))) (fSeqS (fSet 9 (fCB bRepr (fLC (fNV (fLC (fV 3) (fLC (fV 4) (fLC (fV 5) (fLC (fV 6) fLN))))) fLN))) (fSeqS (fForS (fSeq (fV 8)) (gSq 3 (gsCons (gNm 10) (gsCons (gNm 11) (gsCons (gNm 12) gsNil)))) (fIfS (fNot (fTV (fCall S__law_is_word_right (fAB 0 (fAC (fV 1) (fAC (fV 2) (fAC (fV 10) (fAC (fV 11) (fAC (fV 12) fAN))))))))) (fRet (fC (.bool false))) fNext)) (fRet (fBin (gv gEq) (fCB bRepr (fLC (fNV (fLC (fV 3) (fLC (fV 4) (fLC (fV 5) (fLC (fV 6) fLN))))) fLN)) (fN 9))))))))
abbrev N__law_are_words_right : List Str := ["bag", "field", "size", "slope", "second", "word", "short", "few", "asked", "kept", "way", "some", "many"]
def q_law_0 : SS := (fRet (fBin (gv gEq) (fCB bRepr (fLC (fNV (fLC (fV 4) (fLC (fV 5) (fLC (fV 6) (fLC (fV 7) (fLC (fV 8) (fLC (fV 9) fLN))))))) fLN)) (fN 12)))
def q_law_1 : SS := (fSeqS (fIfS (fNot (fTV (fCall S__law_are_words_right (fAB 1 (fAC (fV 2) (fAC (fV 3) (fAC (fV 4) (fAC (fV 5) fAN)))))))) (fRet (fC (.bool false))) fNext) q_law_0)
def q_law_2 : SS := (fSeqS (fIfS (fNot (fTV (fCall S__law_is_moved_right (fAB 1 (fAC (fV 2) (fAC (fV 4) (fAC (fV 8) (fAC (fC (.bool false)) fAN)))))))) (fRet (fC (.bool false))) fNext) q_law_1)
def q_law_3 : SS := (fSeqS (fIfS (fNot (fTV (fCall S__law_is_moved_right (fAB 1 (fAC (fV 2) (fAC (fV 5) (fAC (fV 6) (fAC (fC (.bool true)) fAN)))))))) (fRet (fC (.bool false))) fNext) q_law_2)
def q_law_4 : SS := (fSeqS (fIfS (fNot (fTV (fCall S__law_is_moved_right (fAB 1 (fAC (fV 2) (fAC (fV 4) (fAC (fV 6) (fAC (fC (.bool false)) fAN)))))))) (fRet (fC (.bool false))) fNext) q_law_3)
def q_law_5 : SS := (fSeqS (fIfS (fNot (fTV (fCall S__law_are_rows_right (fAC (fV 2) (fAC (fV 4) (fAC (fCall S__law_pick (fAB 1 (fAC (fNV (fLC (fV 6) (fLC (fV 8) fLN))) fAN))) (fAC (fNV (fLC (fV 9) fLN)) (fAC (fV 11) (fAC (fC (.bool true)) fAN))))))))) (fRet (fC (.bool false))) fNext) q_law_4)
def q_law_6 : SS := (fSeqS (fIfS (fNot (fTV (fCall S__law_are_rows_right (fAC (fV 2) (fAC (fV 5) (fAC (fV 6) (fAC (fNV (fLC (fV 7) (fLC (fV 8) fLN))) (fAC (fC (.int 30)) (fAC (fC (.bool true)) fAN))))))))) (fRet (fC (.bool false))) fNext) q_law_5)
def q_law_7 : SS := (fSeqS (fIfS (fNot (fTV (fCall S__law_are_rows_right (fAC (fV 2) (fAC (fV 4) (fAC (fV 6) (fAC (fNV (fLC (fV 7) (fLC (fV 9) (fLC (fV 8) fLN)))) (fAC (fV 10) (fAC (fC (.bool false)) fAN))))))))) (fRet (fC (.bool false))) fNext) q_law_6)
def q_law_8 : SS := (fSeqS (fSet 12 (fCB bRepr (fLC (fNV (fLC (fV 4) (fLC (fV 5) (fLC (fV 6) (fLC (fV 7) (fLC (fV 8) (fLC (fV 9) fLN))))))) fLN))) q_law_7)
def q_law_9 : SS := (fSeqS (fSet 11 (fIf (fCmp gEq (fCall S__law_draw (fAB 1 (fAC (fC (.int 4)) fAN))) (fC (.int 0))) (fBin gAdd (fC (.int 499)) (fCall S__law_draw (fAB 1 (fAC (fC (.int 2)) fAN)))) (fC (.int 24)))) q_law_8)
def q_law_10 : SS := (fSeqS (fSet 10 (fCall S__law_pick (fAB 1 (fAC (fNV (fLC (fC (.int 0)) (fLC (fC (.int 1)) (fLC (fC (.int 2)) (fLC (fC (.int 60)) (fLC (fBin gAdd (fC (.int 1)) (fCall S__law_draw (fAB 1 (fAC (fC (.int 60)) fAN)))) (fLC (fBin gAdd (fC (.int 1)) (fCall S__law_draw (fAB 1 (fAC (fC (.int 60)) fAN)))) fLN))))))) fAN)))) q_law_9)
def q_law_11 : SS := (fSeqS (fSet 9 (fCall S__law_near (fAB 1 (fAC (fV 4) (fAC (fV 6) fAN))))) q_law_10)
def q_law_12 : SS := (fSeqS (fSet 8 (fIf (fTV (fCall S__law_is_small (fAC (fV 8) fAN))) (fV 8) (fTup (fLC (fC (.int 0)) (fLC (fC (.int 0)) (fLC (fC (.int 1)) (fLC (fC (.int 0)) fLN))))))) q_law_11)
def q_law_13 : SS := (fSeqS (fSet 8 (fCall S__law_moved (fAC (fV 4) (fAC (fTup (fLC (fC (.int 0)) (fLC (fC (.int 0)) (fLC (fC (.int 1)) (fLC (fC (.int 0)) fLN))))) (fAC (fNeg (fCall S__law_draw (fAB 1 (fAC (fC (.int 40)) fAN)))) (fAC (fCall S__law_draw (fAB 1 (fAC (fC (.int 3)) fAN))) fAN)))))) q_law_12)
def q_law_14 : SS := (fSeqS (fPar [6, 7] (fMV (fCall S__law_height (fAB 1 (fAC (fV 2) (fAC (fV 3) fAN)))) (fMV (fCall S__law_height (fAB 1 (fAC (fV 2) (fAC (fV 3) fAN)))) fAN))) q_law_13)
def q_law_15 : SS := (fSeqS (fPar [4, 5] (fMV (fCall S__law_slope (fAB 1 (fAC (fV 2) (fAC (fV 3) fAN)))) (fMV (fCall S__law_slope (fAB 1 (fAC (fV 2) (fAC (fV 3) fAN)))) fAN))) q_law_14)
def g_law : SS := (fSeqS (fPar [2, 3] (fMV (fCall S__law_field (fAB 1 fAN)) (fMV (fCall S__law_pick (fAB 1 (fAC (fNV (fLC (fC (.int 8)) (fLC (fC (.int 30)) (fLC (fC (.int 1000)) (fLC (fBin gPow (fC (.int 10)) (fC (.int 6))) (fLC (fBin gPow (fC (.int 10)) (fC (.int 12))) fLN)))))) fAN))) fAN))) q_law_15)
abbrev N_law : List Str := ["script", "bag", "field", "size", "slope", "second", "height", "other", "tied", "near", "many", "great", "kept"]
end
end T
end DL
namespace DL
namespace T
open PySem L2 PySem.Spec PyProof.Rows
local macro_rules
  | `(tactic| get_elem_tactic_extensible) => `(tactic| (repeat (first | with_reducible refine Go.lc_go ?_ | with_reducible refine Go.ln_go ?_ | ((with_reducible apply Go.v_sh); exact rfl) | ((with_reducible apply Go.n_sh); exact rfl) | ((with_reducible apply Go.n_ow); exact rfl) | ((with_reducible apply Go.ab_go); exact rfl) | ((with_reducible apply Go.app_go); exact rfl) | ((with_reducible apply Go.ext_go); exact rfl) | with_reducible refine Go.c_go ?_ | with_reducible refine Go.tup_go ?_ | with_reducible refine Go.nv_go ?_ | with_reducible refine Go.bin_go ?_ | with_reducible refine Go.slT_go ?_ | with_reducible refine Go.slL_go ?_ | with_reducible refine Go.on_go ?_ | with_reducible refine Go.os_go ?_ | with_reducible refine Go.neg_go ?_ | with_reducible refine Go.sub_go ?_ | with_reducible refine Go.addI_go ?_ | with_reducible refine Go.seqT_go ?_ | with_reducible refine Go.call_go ?_ | with_reducible refine Go.callK_go ?_ | with_reducible refine Go.cb_go ?_ | with_reducible refine Go.dict1_go ?_ | with_reducible refine Go.if_go ?_ | with_reducible refine Go.an_go ?_ | with_reducible refine Go.ac_go ?_ | with_reducible refine Go.mv_go ?_ | with_reducible refine Go.par_go ?_ | with_reducible refine Go.sq_go ?_ | with_reducible refine Go.set_go ?_ | with_reducible refine Go.setN_go ?_ | with_reducible refine Go.ret_go ?_ | with_reducible refine Go.asg_go ?_ | with_reducible refine Go.ifs_go ?_ | with_reducible refine Go.next_go ?_ | with_reducible refine Go.nm_go ?_ | with_reducible refine Go.cmp_go ?_ | with_reducible refine Go.tv_go ?_ | with_reducible refine Go.not_go ?_ | with_reducible refine Go.and_go ?_ | with_reducible refine Go.or_go ?_ | with_reducible refine Go.lenT_go ?_ | with_reducible refine Go.lenL_go ?_ | with_reducible refine Go.absI_go ?_ | with_reducible refine Go.intI_go ?_ | with_reducible refine Go.max2_go ?_ | with_reducible refine Go.min2_go ?_ | with_reducible refine Go.tupL_go ?_ | with_reducible refine Go.tupT_go ?_ | with_reducible refine Go.gv_go ?_ | with_reducible refine Go.ltI_go ?_ | with_reducible refine Go.leI_go ?_ | with_reducible refine Go.gtI_go ?_ | with_reducible refine Go.geI_go ?_ | with_reducible refine Go.eqI_go ?_ | with_reducible refine Go.neI_go ?_ | with_reducible refine Go.eqS_go ?_ | with_reducible refine Go.rng1_go ?_ | ((first | with_reducible apply Go.ixL_go | with_reducible apply Go.ixT_go); first | exact DL.at0 _ _ | exact DL.at1 _ _ _ | exact DL.at2 _ _ _ _ | exact DL.at3 _ _ _ _ _ | exact DL.at4 _ _ _ _ _ _) | ((with_reducible apply Go.frz_go); exact rfl) | ((with_reducible apply Go.frz_sh); exact rfl) | with_reducible refine Go.mn_go ?_ | with_reducible refine Go.andV_go ?_ | ((first | with_reducible apply Go.sqT_go | with_reducible apply Go.sqL_go); exact rfl) | with_reducible refine Go.gsC_go ?_ | with_reducible refine Go.gsN_go ?_ | with_reducible refine Go.ifT (by decide +kernel) ?_ | with_reducible refine Go.ifF (by decide +kernel) ?_ | with_reducible refine Go.cat_go ?_ | with_reducible refine Go.callO_go ?_ | ((with_reducible apply Go.retO_go); exact rfl) | with_reducible refine Go.retN_go ?_ | with_reducible refine Go.ifN_go ?_ | with_reducible refine Go.yes_go ?_ | with_reducible refine Go.isI_go ?_ | with_reducible refine Go.isB_go ?_ | with_reducible refine Go.isN_go ?_ | with_reducible refine Go.notN_go ?_ | with_reducible refine Go.lrev_go ?_ | with_reducible refine Go.bk_go ?_ | with_reducible refine Go.ct_go ?_ | with_reducible refine Go.rng2_go ?_ | with_reducible refine Go.orV_go ?_ | with_reducible refine Go.notV_go ?_ | ((with_reducible apply Go.setIx_go); exact rfl) | unfold fForS | unfold fLc | dsimp only [seqOf, List.set_cons_zero, List.set_cons_succ, setAll, wipeE])))
theorem r_common : ∀ ss (Q : D → Prop), S_common ss Q → g_common (endsOf Q) (initE N_common ss) := by
  rintro ss Q ⟨_, ⟨i, j, rfl, hi, hj⟩, hq⟩
  have hq' := fun d e => hq d ⟨i, j, rfl, e⟩
  simp only [N_common, initE, List.length_cons, List.length_nil, Nat.reduceAdd, Nat.reduceSub, List.replicate, List.cons_append, List.nil_append, List.append_nil]
  simp only [g_common, fSeqS, fSet, fSetN, fRet, fIfS, fNext, fBreak, fCont, fNever, fBin, fCmp, fV, fN, fC, lk, lk_z, lk_s, gAdd, gSub, gMul, gDiv, gMod, gPow, gShl, gShlW, gShr, gv, gLt, gLe, gGt, gGe, gEq, gNe, gIx, fNeg, fTV, fNot, fAnd, fOr, fAndV, fOrV, fNotV, fIf, fLN, fLC, fAN, fAC, fAB, fNV, fTup, fCB, bInt, bAbs, bLen, bMax2, bMin2, bTuple, fSeq, seqOf, fCall, fCallK, fAsg, gNm, gsNil, gsCons, gTpl, gSq, fPar, fMV, fMN, setAll, fApp, fExt, fSetIx, fFrz, fForS, fRng1, fRng2, fBits, fON, fOS, fSlT, fSlL, List.set_cons_zero, List.set_cons_succ, List.length_cons, List.length_nil, endsOf, decide_eq_true_eq, true_and, and_true, at0, at1, at2, at3, at4, Bool.not_eq_true', decide_eq_false_iff_not, lg2, Int.reduceLT, ↓reduceIte]
  refine while_of (fun m ρ => ∃ x y : Int, ρ = [iS x, iS y] ∧ 0 ≤ x ∧ 0 ≤ y ∧ Int.gcd x y = Int.gcd i j ∧ m = y.toNat) ?_ _ _ ⟨i, j, rfl, hi, hj, rfl, rfl⟩
  rintro m ρ ⟨x, y, rfl, hx, hy, hg, rfl⟩ K hK
  simp only [fSeqS, fSet, fSetN, fRet, fIfS, fNext, fBreak, fCont, fNever, fBin, fCmp, fV, fN, fC, lk, lk_z, lk_s, gAdd, gSub, gMul, gDiv, gMod, gPow, gShl, gShlW, gShr, gv, gLt, gLe, gGt, gGe, gEq, gNe, gIx, fNeg, fTV, fNot, fAnd, fOr, fAndV, fOrV, fNotV, fIf, fLN, fLC, fAN, fAC, fAB, fNV, fTup, fCB, bInt, bAbs, bLen, bMax2, bMin2, bTuple, fSeq, seqOf, fCall, fCallK, fAsg, gNm, gsNil, gsCons, gTpl, gSq, fPar, fMV, fMN, setAll, fApp, fExt, fSetIx, fFrz, fForS, fRng1, fRng2, fBits, fON, fOS, fSlT, fSlL, List.set_cons_zero, List.set_cons_succ, List.length_cons, List.length_nil, endsOf, decide_eq_true_eq, true_and, and_true, at0, at1, at2, at3, at4, Bool.not_eq_true', decide_eq_false_iff_not, lg2, Int.reduceLT, ↓reduceIte]
  split
  · rename_i h
    refine hK _ _ ?_ ⟨y, x % y, rfl, hy, Int.emod_nonneg x (by omega), by rw [gcd_emod]; exact hg, rfl⟩
    have := Int.emod_lt_of_pos x h
    have := Int.emod_nonneg x (b := y) (by omega)
    omega
  · refine hq' _ ?_
    have : y = 0 := by omega
    subst this
    rw [← hg]
    simp
    omega
theorem r_whole_root : ∀ ss (Q : D → Prop), S_whole_root ss Q → g_whole_root (endsOf Q) (initE N_whole_root ss) := by
  rintro ss Q ⟨_, ⟨n, rfl, hs⟩, hq⟩
  have hq' := fun r (h : Rn n r) => hq _ ⟨n, r, rfl, rfl, h⟩
  simp only [N_whole_root, initE, List.length_cons, List.length_nil, Nat.reduceAdd, Nat.reduceSub, List.replicate, List.cons_append, List.nil_append, List.append_nil]
  simp only [g_whole_root, fSeqS, fSet, fSetN, fRet, fIfS, fNext, fBreak, fCont, fNever, fBin, fCmp, fV, fN, fC, lk, lk_z, lk_s, gAdd, gSub, gMul, gDiv, gMod, gPow, gShl, gShlW, gShr, gv, gLt, gLe, gGt, gGe, gEq, gNe, gIx, fNeg, fTV, fNot, fAnd, fOr, fAndV, fOrV, fNotV, fIf, fLN, fLC, fAN, fAC, fAB, fNV, fTup, fCB, bInt, bAbs, bLen, bMax2, bMin2, bTuple, fSeq, seqOf, fCall, fCallK, fAsg, gNm, gsNil, gsCons, gTpl, gSq, fPar, fMV, fMN, setAll, fApp, fExt, fSetIx, fFrz, fForS, fRng1, fRng2, fBits, fON, fOS, fSlT, fSlL, List.set_cons_zero, List.set_cons_succ, List.length_cons, List.length_nil, endsOf, decide_eq_true_eq, true_and, and_true, at0, at1, at2, at3, at4, Bool.not_eq_true', decide_eq_false_iff_not, lg2, Int.reduceLT, ↓reduceIte]
  split
  · rename_i h
    exact hq' n (by unfold Rn; rw [if_pos h])
  · rename_i h
    obtain ⟨s, hr⟩ := rt_of (n := n) (by omega)
    obtain ⟨b, e, hb, hb2⟩ := half_bits n (by omega) hs hr
    have p0 := rt_pos hr (by omega)
    rw [e, Int.one_mul, Int.toNat_natCast]
    have hp : (0 : Int) < 2 ^ b := Int.pow_pos (by decide)
    have sb : Sm 970 (2 ^ b - 1) := by
      refine Sm.nat (by omega) ?_
      have : (2 : Int) ^ b ≤ 2 ^ 970 := by exact_mod_cast Nat.pow_le_pow_right (by decide : 0 < 2) hb
      omega
    have lg : ∀ r : Int, 0 < r → r ≤ 2 ^ b → r.natAbs.log2 < 9000 := fun r h0 h1 => by
      refine Sm.log (k := 971) ?_
      refine Sm.nat (by omega) ?_
      have : (2 : Int) ^ b ≤ 2 ^ 970 := by exact_mod_cast Nat.pow_le_pow_right (by decide : 0 < 2) hb
      have : (2 : Int) ^ 971 = 2 ^ 970 * 2 := Int.pow_succ ..
      have : (0 : Int) < 2 ^ 970 := Int.pow_pos (by decide)
      omega
    refine ⟨shl1 (by omega), lg _ hp (Int.le_refl _), ?_⟩
    rw [if_pos hp]
    generalize (2 : Int) ^ b = B at hp lg hb2
    refine while_of (fun m ρ => ∃ r : Int, ρ = [iS n, iS r, iS ((r + n / r) / 2)] ∧ s ≤ r ∧ r ≤ B ∧ m = r.toNat) ?_ _ _ ⟨B, rfl, by omega, Int.le_refl _, rfl⟩
    rintro m ρ ⟨r, rfl, hsr, hrB, rfl⟩ K hK
    have up := rt_up hr (r := r) (by omega)
    simp only [fSeqS, fSet, fSetN, fRet, fIfS, fNext, fBreak, fCont, fNever, fBin, fCmp, fV, fN, fC, lk, lk_z, lk_s, gAdd, gSub, gMul, gDiv, gMod, gPow, gShl, gShlW, gShr, gv, gLt, gLe, gGt, gGe, gEq, gNe, gIx, fNeg, fTV, fNot, fAnd, fOr, fAndV, fOrV, fNotV, fIf, fLN, fLC, fAN, fAC, fAB, fNV, fTup, fCB, bInt, bAbs, bLen, bMax2, bMin2, bTuple, fSeq, seqOf, fCall, fCallK, fAsg, gNm, gsNil, gsCons, gTpl, gSq, fPar, fMV, fMN, setAll, fApp, fExt, fSetIx, fFrz, fForS, fRng1, fRng2, fBits, fON, fOS, fSlT, fSlL, List.set_cons_zero, List.set_cons_succ, List.length_cons, List.length_nil, endsOf, decide_eq_true_eq, true_and, and_true, at0, at1, at2, at3, at4, Bool.not_eq_true', decide_eq_false_iff_not, lg2, Int.reduceLT, ↓reduceIte]
    split
    · rename_i lt
      have p1 : 0 < (r + n / r) / 2 := by omega
      refine ⟨lg _ p1 (by omega), ?_⟩
      rw [if_pos p1]
      exact hK _ _ (by omega) ⟨_, rfl, up, by omega, rfl⟩
    · rename_i ge
      refine hq' _ (rn_of h ?_)
      rw [rt_stop hr (by omega) hsr (by omega)]
      exact hr
theorem go_common {i j : Int} {Q : D → Prop} (hi : 0 ≤ i) (hj : 0 ≤ j) (h : Q (.int (Int.gcd i j : Nat))) : S_common [iS i, iS j] Q :=
  ⟨rfl, ⟨i, j, rfl, hi, hj⟩, fun d ⟨i', j', e, ed⟩ => by
    cases e; rw [ed]; exact h⟩
theorem low_core {a b c d : Int} {Q : D → Prop} (hc : 0 < c) (h3 : Sm 4000 c) (hq : Q (nrm a b c d).D) :
    S_common [.sh (.int (if a < 0 then -a else a)), .sh (.int (if b < 0 then -b else b))] fun x => S_common [.sh x, .sh (.int c)] fun y => ∀ k, y = .int k → k = g3 a b c := by
  have aa : ∀ i : Int, 0 ≤ (if i < 0 then -i else i) := fun i => by split <;> omega
  refine go_common (aa a) (aa b) (go_common (by omega) (by omega) fun k hk => ?_)
  rw [g3_abs a b c hc] at hk
  cases hk; rfl
theorem r_lowest : ∀ ss (Q : D → Prop), S_lowest ss Q → g_lowest (endsOf Q) (initE N_lowest ss) := by
  rintro ss Q ⟨⟨a, b, c, d⟩, rfl, ⟨hc, h1, h2, h3⟩, hq⟩
  have hc : c ≠ 0 := hc
  have h3 : Sm 4000 c := h3
  have hq : Q (nrmZ a b c d).D := hq
  have aa : ∀ i : Int, 0 ≤ (if i < 0 then -i else i) := fun i => by split <;> omega
  simp only [N_lowest, ar4, initE, List.length_cons, List.length_nil, Nat.reduceAdd, Nat.reduceSub, List.replicate, List.cons_append, List.nil_append, List.append_nil]
  simp only [g_lowest, fSeqS, fSet, fSetN, fRet, fIfS, fNext, fBreak, fCont, fNever, fBin, fCmp, fV, fN, fC, lk, lk_z, lk_s, gAdd, gSub, gMul, gDiv, gMod, gPow, gShl, gShlW, gShr, gv, gLt, gLe, gGt, gGe, gEq, gNe, gIx, fNeg, fTV, fNot, fAnd, fOr, fAndV, fOrV, fNotV, fIf, fLN, fLC, fAN, fAC, fAB, fNV, fTup, fCB, bInt, bAbs, bLen, bMax2, bMin2, bTuple, fSeq, seqOf, fCall, fCallK, fAsg, gNm, gsNil, gsCons, gTpl, gSq, fPar, fMV, fMN, setAll, fApp, fExt, fSetIx, fFrz, fForS, fRng1, fRng2, fBits, fON, fOS, fSlT, fSlL, List.set_cons_zero, List.set_cons_succ, List.length_cons, List.length_nil, endsOf, decide_eq_true_eq, true_and, and_true, at0, at1, at2, at3, at4, Bool.not_eq_true', decide_eq_false_iff_not, lg2, Int.reduceLT, ↓reduceIte]
  unfold nrmZ at hq
  split
  · rename_i hn
    rw [if_pos hn] at hq
    refine go_common (aa _) (aa _) ?_
    try simp only [fSeqS, fSet, fSetN, fRet, fIfS, fNext, fBreak, fCont, fNever, fBin, fCmp, fV, fN, fC, lk, lk_z, lk_s, gAdd, gSub, gMul, gDiv, gMod, gPow, gShl, gShlW, gShr, gv, gLt, gLe, gGt, gGe, gEq, gNe, gIx, fNeg, fTV, fNot, fAnd, fOr, fAndV, fOrV, fNotV, fIf, fLN, fLC, fAN, fAC, fAB, fNV, fTup, fCB, bInt, bAbs, bLen, bMax2, bMin2, bTuple, fSeq, seqOf, fCall, fCallK, fAsg, gNm, gsNil, gsCons, gTpl, gSq, fPar, fMV, fMN, setAll, fApp, fExt, fSetIx, fFrz, fForS, fRng1, fRng2, fBits, fON, fOS, fSlT, fSlL, List.set_cons_zero, List.set_cons_succ, List.length_cons, List.length_nil, endsOf, decide_eq_true_eq, true_and, and_true, at0, at1, at2, at3, at4, Bool.not_eq_true', decide_eq_false_iff_not, lg2, Int.reduceLT, ↓reduceIte]
    refine go_common (by omega) (by omega) ?_
    try simp only [fSeqS, fSet, fSetN, fRet, fIfS, fNext, fBreak, fCont, fNever, fBin, fCmp, fV, fN, fC, lk, lk_z, lk_s, gAdd, gSub, gMul, gDiv, gMod, gPow, gShl, gShlW, gShr, gv, gLt, gLe, gGt, gGe, gEq, gNe, gIx, fNeg, fTV, fNot, fAnd, fOr, fAndV, fOrV, fNotV, fIf, fLN, fLC, fAN, fAC, fAB, fNV, fTup, fCB, bInt, bAbs, bLen, bMax2, bMin2, bTuple, fSeq, seqOf, fCall, fCallK, fAsg, gNm, gsNil, gsCons, gTpl, gSq, fPar, fMV, fMN, setAll, fApp, fExt, fSetIx, fFrz, fForS, fRng1, fRng2, fBits, fON, fOS, fSlT, fSlL, List.set_cons_zero, List.set_cons_succ, List.length_cons, List.length_nil, endsOf, decide_eq_true_eq, true_and, and_true, at0, at1, at2, at3, at4, Bool.not_eq_true', decide_eq_false_iff_not, lg2, Int.reduceLT, ↓reduceIte]
    rw [g3_abs (-a) (-b) (-c) (by omega)]
    have g := g3_pos (a := -a) (b := -b) (c := -c) (by omega)
    have gl := g3_log (a := -a) (b := -b) (c := -c) (by omega) h3.neg
    simp only [g, gl, true_and, ↓reduceIte]
    have := fin4 hq
    exact this
  · rename_i hn
    rw [if_neg hn] at hq
    refine go_common (aa _) (aa _) ?_
    try simp only [fSeqS, fSet, fSetN, fRet, fIfS, fNext, fBreak, fCont, fNever, fBin, fCmp, fV, fN, fC, lk, lk_z, lk_s, gAdd, gSub, gMul, gDiv, gMod, gPow, gShl, gShlW, gShr, gv, gLt, gLe, gGt, gGe, gEq, gNe, gIx, fNeg, fTV, fNot, fAnd, fOr, fAndV, fOrV, fNotV, fIf, fLN, fLC, fAN, fAC, fAB, fNV, fTup, fCB, bInt, bAbs, bLen, bMax2, bMin2, bTuple, fSeq, seqOf, fCall, fCallK, fAsg, gNm, gsNil, gsCons, gTpl, gSq, fPar, fMV, fMN, setAll, fApp, fExt, fSetIx, fFrz, fForS, fRng1, fRng2, fBits, fON, fOS, fSlT, fSlL, List.set_cons_zero, List.set_cons_succ, List.length_cons, List.length_nil, endsOf, decide_eq_true_eq, true_and, and_true, at0, at1, at2, at3, at4, Bool.not_eq_true', decide_eq_false_iff_not, lg2, Int.reduceLT, ↓reduceIte]
    refine go_common (by omega) (by omega) ?_
    try simp only [fSeqS, fSet, fSetN, fRet, fIfS, fNext, fBreak, fCont, fNever, fBin, fCmp, fV, fN, fC, lk, lk_z, lk_s, gAdd, gSub, gMul, gDiv, gMod, gPow, gShl, gShlW, gShr, gv, gLt, gLe, gGt, gGe, gEq, gNe, gIx, fNeg, fTV, fNot, fAnd, fOr, fAndV, fOrV, fNotV, fIf, fLN, fLC, fAN, fAC, fAB, fNV, fTup, fCB, bInt, bAbs, bLen, bMax2, bMin2, bTuple, fSeq, seqOf, fCall, fCallK, fAsg, gNm, gsNil, gsCons, gTpl, gSq, fPar, fMV, fMN, setAll, fApp, fExt, fSetIx, fFrz, fForS, fRng1, fRng2, fBits, fON, fOS, fSlT, fSlL, List.set_cons_zero, List.set_cons_succ, List.length_cons, List.length_nil, endsOf, decide_eq_true_eq, true_and, and_true, at0, at1, at2, at3, at4, Bool.not_eq_true', decide_eq_false_iff_not, lg2, Int.reduceLT, ↓reduceIte]
    rw [g3_abs a b c (by omega)]
    have g := g3_pos (a := a) (b := b) (c := c) (by omega)
    have gl := g3_log (a := a) (b := b) (c := c) (by omega) h3
    simp only [g, gl, true_and, ↓reduceIte]
    exact fin4 hq
theorem go_lowest (s : S4) {Q : D → Prop} (h : okZ s) (hq : Q (nrmZ s.a s.b s.c s.d).D) : S_lowest [iS s.a, iS s.b, iS s.c, iS s.d] Q := ⟨s, rfl, h, hq⟩
theorem r_surd_sum : ∀ ss (Q : D → Prop), S_surd_sum ss Q → g_surd_sum (endsOf Q) (initE N_surd_sum ss) := by
  rintro ss Q ⟨⟨s, t⟩, rfl, ⟨h, k⟩, hq⟩
  have h : Bd 1300 s := h
  have k : Bd 1300 t := k
  have hq : Q (sumS s t).D := hq
  have c0 : 0 < s.c * t.c := Int.mul_pos h.c0 k.c0
  simp only [N_surd_sum, D4, initE, List.length_cons, List.length_nil, Nat.reduceAdd, Nat.reduceSub, List.replicate, List.cons_append, List.nil_append, List.append_nil]
  simp only [g_surd_sum, fSeqS, fSet, fSetN, fRet, fIfS, fNext, fBreak, fCont, fNever, fBin, fCmp, fV, fN, fC, lk, lk_z, lk_s, gAdd, gSub, gMul, gDiv, gMod, gPow, gShl, gShlW, gShr, gv, gLt, gLe, gGt, gGe, gEq, gNe, gIx, fNeg, fTV, fNot, fAnd, fOr, fAndV, fOrV, fNotV, fIf, fLN, fLC, fAN, fAC, fAB, fNV, fTup, fCB, bInt, bAbs, bLen, bMax2, bMin2, bTuple, fSeq, seqOf, fCall, fCallK, fAsg, gNm, gsNil, gsCons, gTpl, gSq, fPar, fMV, fMN, setAll, fApp, fExt, fSetIx, fFrz, fForS, fRng1, fRng2, fBits, fON, fOS, fSlT, fSlL, List.set_cons_zero, List.set_cons_succ, List.length_cons, List.length_nil, endsOf, decide_eq_true_eq, true_and, and_true, at0, at1, at2, at3, at4, Bool.not_eq_true', decide_eq_false_iff_not, lg2, Int.reduceLT, ↓reduceIte]
  refine ⟨mw h.a k.c, mw k.a h.c, mw h.b k.c, mw k.b h.c, mw h.c k.c, ?_⟩
  refine go_lowest ⟨s.a * t.c + t.a * s.c, s.b * t.c + t.b * s.c, s.c * t.c, mx s.d t.d⟩ ⟨by show s.c * t.c ≠ 0; omega, ((h.a.mul k.c).add (k.a.mul h.c)).le (by omega), ((h.b.mul k.c).add (k.b.mul h.c)).le (by omega), (h.c.mul k.c).le (by omega)⟩ ?_
  rw [nrmZ_pos c0]
  exact hq
theorem go_root {n : Int} {Q : D → Prop} (h : Sm 1940 n) (hq : Q (.int (rF n))) : sp 1 (fun ss => ∃ n : Int, ss = [iS n] ∧ Sm 1940 n) (fun ss d => ∃ n r : Int, ss = [iS n] ∧ d = .int r ∧ Rn n r) [iS n] Q :=
  ⟨rfl, ⟨n, rfl, h⟩, fun d ⟨n', r, e, ed, hr⟩ => by
    cases e; rw [ed, ← rF_go hr]; exact hq⟩
theorem r_whole_part : ∀ ss (Q : D → Prop), S_whole_part ss Q → g_whole_part (endsOf Q) (initE N_whole_part ss) := by
  rintro ss Q ⟨s, rfl, h, hq⟩
  have hq : Q (.int (wholeS s (rF (s.b * s.b * s.d)))) := hq
  simp only [N_whole_part, arS, D4, initE, List.length_cons, List.length_nil, Nat.reduceAdd, Nat.reduceSub, List.replicate, List.cons_append, List.nil_append, List.append_nil]
  simp only [g_whole_part, fSeqS, fSet, fSetN, fRet, fIfS, fNext, fBreak, fCont, fNever, fBin, fCmp, fV, fN, fC, lk, lk_z, lk_s, gAdd, gSub, gMul, gDiv, gMod, gPow, gShl, gShlW, gShr, gv, gLt, gLe, gGt, gGe, gEq, gNe, gIx, fNeg, fTV, fNot, fAnd, fOr, fAndV, fOrV, fNotV, fIf, fLN, fLC, fAN, fAC, fAB, fNV, fTup, fCB, bInt, bAbs, bLen, bMax2, bMin2, bTuple, fSeq, seqOf, fCall, fCallK, fAsg, gNm, gsNil, gsCons, gTpl, gSq, fPar, fMV, fMN, setAll, fApp, fExt, fSetIx, fFrz, fForS, fRng1, fRng2, fBits, fON, fOS, fSlT, fSlL, List.set_cons_zero, List.set_cons_succ, List.length_cons, List.length_nil, endsOf, decide_eq_true_eq, true_and, and_true, at0, at1, at2, at3, at4, Bool.not_eq_true', decide_eq_false_iff_not, lg2, Int.reduceLT, ↓reduceIte]
  refine ⟨mw h.b h.b, mw (h.b.mul h.b) h.d, go_root (((h.b.mul h.b).mul h.d).le (by omega)) ?_⟩
  try simp only [fSeqS, fSet, fSetN, fRet, fIfS, fNext, fBreak, fCont, fNever, fBin, fCmp, fV, fN, fC, lk, lk_z, lk_s, gAdd, gSub, gMul, gDiv, gMod, gPow, gShl, gShlW, gShr, gv, gLt, gLe, gGt, gGe, gEq, gNe, gIx, fNeg, fTV, fNot, fAnd, fOr, fAndV, fOrV, fNotV, fIf, fLN, fLC, fAN, fAC, fAB, fNV, fTup, fCB, bInt, bAbs, bLen, bMax2, bMin2, bTuple, fSeq, seqOf, fCall, fCallK, fAsg, gNm, gsNil, gsCons, gTpl, gSq, fPar, fMV, fMN, setAll, fApp, fExt, fSetIx, fFrz, fForS, fRng1, fRng2, fBits, fON, fOS, fSlT, fSlL, List.set_cons_zero, List.set_cons_succ, List.length_cons, List.length_nil, endsOf, decide_eq_true_eq, true_and, and_true, at0, at1, at2, at3, at4, Bool.not_eq_true', decide_eq_false_iff_not, lg2, Int.reduceLT, ↓reduceIte]
  have c0 := h.c0
  have cl := h.c.log
  simp only [c0, cl, true_and, ↓reduceIte]
  unfold wholeS at hq
  split
  · rename_i e; rw [if_pos e] at hq; exact hq
  · rename_i e; rw [if_neg e] at hq; exact hq
theorem go_whole_part (s : S4) {Q : D → Prop} (h : Bd 900 s) (hq : Q (.int (wS s))) : S_whole_part [.sh (.tuple [.int s.a, .int s.b, .int s.c, .int s.d])] Q := ⟨s, rfl, h, hq⟩
theorem r_whole_at : ∀ ss (Q : D → Prop), S_whole_at ss Q → g_whole_at (endsOf Q) (initE N_whole_at ss) := by
  rintro ss Q ⟨⟨s, h, n⟩, rfl, ⟨a, b, k⟩, hq⟩
  have a : Bd 200 s := a
  have b : Bd 200 h := b
  have k : Sm 110 n := k
  have hq : Q (.int (wS (pl4 s h n))) := hq
  simp only [N_whole_at, arP, D4, initE, List.length_cons, List.length_nil, Nat.reduceAdd, Nat.reduceSub, List.replicate, List.cons_append, List.nil_append, List.append_nil]
  simp only [g_whole_at, fSeqS, fSet, fSetN, fRet, fIfS, fNext, fBreak, fCont, fNever, fBin, fCmp, fV, fN, fC, lk, lk_z, lk_s, gAdd, gSub, gMul, gDiv, gMod, gPow, gShl, gShlW, gShr, gv, gLt, gLe, gGt, gGe, gEq, gNe, gIx, fNeg, fTV, fNot, fAnd, fOr, fAndV, fOrV, fNotV, fIf, fLN, fLC, fAN, fAC, fAB, fNV, fTup, fCB, bInt, bAbs, bLen, bMax2, bMin2, bTuple, fSeq, seqOf, fCall, fCallK, fAsg, gNm, gsNil, gsCons, gTpl, gSq, fPar, fMV, fMN, setAll, fApp, fExt, fSetIx, fFrz, fForS, fRng1, fRng2, fBits, fON, fOS, fSlT, fSlL, List.set_cons_zero, List.set_cons_succ, List.length_cons, List.length_nil, endsOf, decide_eq_true_eq, true_and, and_true, at0, at1, at2, at3, at4, Bool.not_eq_true', decide_eq_false_iff_not, lg2, Int.reduceLT, ↓reduceIte]
  refine ⟨mw k a.a, mw (k.mul a.a) b.c, mw b.a a.c, mw k a.b, mw (k.mul a.b) b.c, mw b.b a.c, mw a.c b.c, ?_⟩
  exact go_whole_part (pl4 s h n) ((at_bd a b k).le (by decide)) hq
theorem go_whole_at {s h : S4} {n : Int} {Q : D → Prop} (a : Bd 200 s) (b : Bd 200 h) (k : Sm 110 n) (hq : Q (.int (wA s h n))) : S_whole_at [.sh s.D, .sh h.D, iS n] Q := ⟨(s, h, n), rfl, ⟨a, b, k⟩, hq⟩
theorem go_surd_sum (s t : S4) {Q : D → Prop} (h : Bd 1300 s) (k : Bd 1300 t) (hq : Q (sumS s t).D) : S_surd_sum [.sh s.D, .sh t.D] Q := ⟨(s, t), rfl, ⟨h, k⟩, hq⟩
theorem r_surd_times : ∀ ss (Q : D → Prop), S_surd_times ss Q → g_surd_times (endsOf Q) (initE N_surd_times ss) := by
  rintro ss Q ⟨⟨s, t⟩, rfl, ⟨h, k⟩, hq⟩
  have h : Bd 900 s := h
  have k : Bd 900 t := k
  have hq : Q (mulS s t).D := hq
  obtain ⟨d0, d1⟩ := mx_ok h.d0 h.d k.d0 k.d
  have c0 : 0 < s.c * t.c := Int.mul_pos h.c0 k.c0
  simp only [N_surd_times, arSS, D4, initE, List.length_cons, List.length_nil, Nat.reduceAdd, Nat.reduceSub, List.replicate, List.cons_append, List.nil_append, List.append_nil]
  simp only [g_surd_times, fSeqS, fSet, fSetN, fRet, fIfS, fNext, fBreak, fCont, fNever, fBin, fCmp, fV, fN, fC, lk, lk_z, lk_s, gAdd, gSub, gMul, gDiv, gMod, gPow, gShl, gShlW, gShr, gv, gLt, gLe, gGt, gGe, gEq, gNe, gIx, fNeg, fTV, fNot, fAnd, fOr, fAndV, fOrV, fNotV, fIf, fLN, fLC, fAN, fAC, fAB, fNV, fTup, fCB, bInt, bAbs, bLen, bMax2, bMin2, bTuple, fSeq, seqOf, fCall, fCallK, fAsg, gNm, gsNil, gsCons, gTpl, gSq, fPar, fMV, fMN, setAll, fApp, fExt, fSetIx, fFrz, fForS, fRng1, fRng2, fBits, fON, fOS, fSlT, fSlL, List.set_cons_zero, List.set_cons_succ, List.length_cons, List.length_nil, endsOf, decide_eq_true_eq, true_and, and_true, at0, at1, at2, at3, at4, Bool.not_eq_true', decide_eq_false_iff_not, lg2, Int.reduceLT, ↓reduceIte]
  refine ⟨mw h.a k.a, mw h.b k.b, mw (h.b.mul k.b) d1, mw h.a k.b, mw h.b k.a, mw h.c k.c, ?_⟩
  refine go_lowest ⟨s.a * t.a + s.b * t.b * mx s.d t.d, s.a * t.b + s.b * t.a, s.c * t.c, mx s.d t.d⟩ ⟨by show s.c * t.c ≠ 0; omega, ((((h.a.mul k.a).le (l := 1900) (by omega)).add (((h.b.mul k.b).mul d1).le (by omega)))).le (by omega), ((h.a.mul k.b).add ((h.b.mul k.a).le (by omega))).le (by omega), (h.c.mul k.c).le (by omega)⟩ ?_
  rw [nrmZ_pos c0]
  exact hq
theorem go_surd_times (s t : S4) {Q : D → Prop} (h : Bd 900 s) (k : Bd 900 t) (hq : Q (mulS s t).D) : S_surd_times [.sh s.D, .sh t.D] Q := ⟨(s, t), rfl, ⟨h, k⟩, hq⟩
theorem r_surd_turned : ∀ ss (Q : D → Prop), S_surd_turned ss Q → g_surd_turned (endsOf Q) (initE N_surd_turned ss) := by
  rintro ss Q ⟨s, rfl, _, hq⟩
  have hq : Q (negS s).D := hq
  simp only [N_surd_turned, arS, D4, initE, List.length_cons, List.length_nil, Nat.reduceAdd, Nat.reduceSub, List.replicate, List.cons_append, List.nil_append, List.append_nil]
  simp only [g_surd_turned, fSeqS, fSet, fSetN, fRet, fIfS, fNext, fBreak, fCont, fNever, fBin, fCmp, fV, fN, fC, lk, lk_z, lk_s, gAdd, gSub, gMul, gDiv, gMod, gPow, gShl, gShlW, gShr, gv, gLt, gLe, gGt, gGe, gEq, gNe, gIx, fNeg, fTV, fNot, fAnd, fOr, fAndV, fOrV, fNotV, fIf, fLN, fLC, fAN, fAC, fAB, fNV, fTup, fCB, bInt, bAbs, bLen, bMax2, bMin2, bTuple, fSeq, seqOf, fCall, fCallK, fAsg, gNm, gsNil, gsCons, gTpl, gSq, fPar, fMV, fMN, setAll, fApp, fExt, fSetIx, fFrz, fForS, fRng1, fRng2, fBits, fON, fOS, fSlT, fSlL, List.set_cons_zero, List.set_cons_succ, List.length_cons, List.length_nil, endsOf, decide_eq_true_eq, true_and, and_true, at0, at1, at2, at3, at4, Bool.not_eq_true', decide_eq_false_iff_not, lg2, Int.reduceLT, ↓reduceIte]
  exact hq
theorem go_surd_turned (s : S4) {Q : D → Prop} (hq : Q (negS s).D) : S_surd_turned [.sh s.D] Q := ⟨s, rfl, trivial, hq⟩
theorem r_surd_sign : ∀ ss (Q : D → Prop), S_surd_sign ss Q → g_surd_sign (endsOf Q) (initE N_surd_sign ss) := by
  rintro ss Q ⟨s, rfl, h, hq⟩
  have h : Bd 2000 s := h
  have hq : Q (.int (sgn s.a s.b s.d)) := hq
  simp only [N_surd_sign, arS, D4, initE, List.length_cons, List.length_nil, Nat.reduceAdd, Nat.reduceSub, List.replicate, List.cons_append, List.nil_append, List.append_nil]
  simp only [g_surd_sign, fSeqS, fSet, fSetN, fRet, fIfS, fNext, fBreak, fCont, fNever, fBin, fCmp, fV, fN, fC, lk, lk_z, lk_s, gAdd, gSub, gMul, gDiv, gMod, gPow, gShl, gShlW, gShr, gv, gLt, gLe, gGt, gGe, gEq, gNe, gIx, fNeg, fTV, fNot, fAnd, fOr, fAndV, fOrV, fNotV, fIf, fLN, fLC, fAN, fAC, fAB, fNV, fTup, fCB, bInt, bAbs, bLen, bMax2, bMin2, bTuple, fSeq, seqOf, fCall, fCallK, fAsg, gNm, gsNil, gsCons, gTpl, gSq, fPar, fMV, fMN, setAll, fApp, fExt, fSetIx, fFrz, fForS, fRng1, fRng2, fBits, fON, fOS, fSlT, fSlL, List.set_cons_zero, List.set_cons_succ, List.length_cons, List.length_nil, endsOf, decide_eq_true_eq, true_and, and_true, at0, at1, at2, at3, at4, Bool.not_eq_true', decide_eq_false_iff_not, lg2, Int.reduceLT, ↓reduceIte]
  exact sgn_go hq (mw h.a h.a) (mw h.b h.b) (mw (h.b.mul h.b) h.d)
theorem go_surd_sign (s : S4) {Q : D → Prop} (h : Bd 2000 s) (hq : Q (.int (sgn s.a s.b s.d))) : S_surd_sign [.sh s.D] Q := ⟨s, rfl, h, hq⟩
def ordS (x y : S4) : Int := sgn (sumS x (negS y)).a (sumS x (negS y)).b (sumS x (negS y)).d
theorem r_surd_order : ∀ ss (Q : D → Prop), S_surd_order ss Q → g_surd_order (endsOf Q) (initE N_surd_order ss) := by
  rintro ss Q ⟨⟨s, t⟩, rfl, ⟨h, k⟩, hq⟩
  have h : Bd 900 s := h
  have k : Bd 900 t := k
  have hq : Q (.int (ordS s t)) := hq
  simp only [N_surd_order, arSS, initE, List.length_cons, List.length_nil, Nat.reduceAdd, Nat.reduceSub, List.replicate, List.cons_append, List.nil_append, List.append_nil]
  simp only [g_surd_order, fSeqS, fSet, fSetN, fRet, fIfS, fNext, fBreak, fCont, fNever, fBin, fCmp, fV, fN, fC, lk, lk_z, lk_s, gAdd, gSub, gMul, gDiv, gMod, gPow, gShl, gShlW, gShr, gv, gLt, gLe, gGt, gGe, gEq, gNe, gIx, fNeg, fTV, fNot, fAnd, fOr, fAndV, fOrV, fNotV, fIf, fLN, fLC, fAN, fAC, fAB, fNV, fTup, fCB, bInt, bAbs, bLen, bMax2, bMin2, bTuple, fSeq, seqOf, fCall, fCallK, fAsg, gNm, gsNil, gsCons, gTpl, gSq, fPar, fMV, fMN, setAll, fApp, fExt, fSetIx, fFrz, fForS, fRng1, fRng2, fBits, fON, fOS, fSlT, fSlL, List.set_cons_zero, List.set_cons_succ, List.length_cons, List.length_nil, endsOf, decide_eq_true_eq, true_and, and_true, at0, at1, at2, at3, at4, Bool.not_eq_true', decide_eq_false_iff_not, lg2, Int.reduceLT, ↓reduceIte]
  refine go_surd_turned t ?_
  try simp only [fSeqS, fSet, fSetN, fRet, fIfS, fNext, fBreak, fCont, fNever, fBin, fCmp, fV, fN, fC, lk, lk_z, lk_s, gAdd, gSub, gMul, gDiv, gMod, gPow, gShl, gShlW, gShr, gv, gLt, gLe, gGt, gGe, gEq, gNe, gIx, fNeg, fTV, fNot, fAnd, fOr, fAndV, fOrV, fNotV, fIf, fLN, fLC, fAN, fAC, fAB, fNV, fTup, fCB, bInt, bAbs, bLen, bMax2, bMin2, bTuple, fSeq, seqOf, fCall, fCallK, fAsg, gNm, gsNil, gsCons, gTpl, gSq, fPar, fMV, fMN, setAll, fApp, fExt, fSetIx, fFrz, fForS, fRng1, fRng2, fBits, fON, fOS, fSlT, fSlL, List.set_cons_zero, List.set_cons_succ, List.length_cons, List.length_nil, endsOf, decide_eq_true_eq, true_and, and_true, at0, at1, at2, at3, at4, Bool.not_eq_true', decide_eq_false_iff_not, lg2, Int.reduceLT, ↓reduceIte]
  refine go_surd_sum s (negS t) (h.le (by decide)) (k.neg.le (by decide)) ?_
  try simp only [fSeqS, fSet, fSetN, fRet, fIfS, fNext, fBreak, fCont, fNever, fBin, fCmp, fV, fN, fC, lk, lk_z, lk_s, gAdd, gSub, gMul, gDiv, gMod, gPow, gShl, gShlW, gShr, gv, gLt, gLe, gGt, gGe, gEq, gNe, gIx, fNeg, fTV, fNot, fAnd, fOr, fAndV, fOrV, fNotV, fIf, fLN, fLC, fAN, fAC, fAB, fNV, fTup, fCB, bInt, bAbs, bLen, bMax2, bMin2, bTuple, fSeq, seqOf, fCall, fCallK, fAsg, gNm, gsNil, gsCons, gTpl, gSq, fPar, fMV, fMN, setAll, fApp, fExt, fSetIx, fFrz, fForS, fRng1, fRng2, fBits, fON, fOS, fSlT, fSlL, List.set_cons_zero, List.set_cons_succ, List.length_cons, List.length_nil, endsOf, decide_eq_true_eq, true_and, and_true, at0, at1, at2, at3, at4, Bool.not_eq_true', decide_eq_false_iff_not, lg2, Int.reduceLT, ↓reduceIte]
  exact go_surd_sign _ ((h.sum k.neg).le (by decide)) hq
theorem go_surd_order (s t : S4) {Q : D → Prop} (h : Bd 900 s) (k : Bd 900 t) (hq : Q (.int (ordS s t))) : S_surd_order [.sh s.D, .sh t.D] Q := ⟨(s, t), rfl, ⟨h, k⟩, hq⟩
end T
end DL
namespace DL
namespace T
open PySem L2 PySem.Spec PyProof.Rows
local macro_rules
  | `(tactic| get_elem_tactic_extensible) => `(tactic| (repeat (first | with_reducible refine Go.lc_go ?_ | with_reducible refine Go.ln_go ?_ | ((with_reducible apply Go.v_sh); exact rfl) | ((with_reducible apply Go.n_sh); exact rfl) | ((with_reducible apply Go.n_ow); exact rfl) | ((with_reducible apply Go.ab_go); exact rfl) | ((with_reducible apply Go.app_go); exact rfl) | ((with_reducible apply Go.ext_go); exact rfl) | with_reducible refine Go.c_go ?_ | with_reducible refine Go.tup_go ?_ | with_reducible refine Go.nv_go ?_ | with_reducible refine Go.bin_go ?_ | with_reducible refine Go.slT_go ?_ | with_reducible refine Go.slL_go ?_ | with_reducible refine Go.on_go ?_ | with_reducible refine Go.os_go ?_ | with_reducible refine Go.neg_go ?_ | with_reducible refine Go.sub_go ?_ | with_reducible refine Go.addI_go ?_ | with_reducible refine Go.seqT_go ?_ | with_reducible refine Go.call_go ?_ | with_reducible refine Go.callK_go ?_ | with_reducible refine Go.cb_go ?_ | with_reducible refine Go.dict1_go ?_ | with_reducible refine Go.if_go ?_ | with_reducible refine Go.an_go ?_ | with_reducible refine Go.ac_go ?_ | with_reducible refine Go.mv_go ?_ | with_reducible refine Go.par_go ?_ | with_reducible refine Go.sq_go ?_ | with_reducible refine Go.set_go ?_ | with_reducible refine Go.setN_go ?_ | with_reducible refine Go.ret_go ?_ | with_reducible refine Go.asg_go ?_ | with_reducible refine Go.ifs_go ?_ | with_reducible refine Go.next_go ?_ | with_reducible refine Go.nm_go ?_ | with_reducible refine Go.cmp_go ?_ | with_reducible refine Go.tv_go ?_ | with_reducible refine Go.not_go ?_ | with_reducible refine Go.and_go ?_ | with_reducible refine Go.or_go ?_ | with_reducible refine Go.lenT_go ?_ | with_reducible refine Go.lenL_go ?_ | with_reducible refine Go.absI_go ?_ | with_reducible refine Go.intI_go ?_ | with_reducible refine Go.max2_go ?_ | with_reducible refine Go.min2_go ?_ | with_reducible refine Go.tupL_go ?_ | with_reducible refine Go.tupT_go ?_ | with_reducible refine Go.gv_go ?_ | with_reducible refine Go.ltI_go ?_ | with_reducible refine Go.leI_go ?_ | with_reducible refine Go.gtI_go ?_ | with_reducible refine Go.geI_go ?_ | with_reducible refine Go.eqI_go ?_ | with_reducible refine Go.neI_go ?_ | with_reducible refine Go.eqS_go ?_ | with_reducible refine Go.rng1_go ?_ | ((first | with_reducible apply Go.ixL_go | with_reducible apply Go.ixT_go); first | exact DL.at0 _ _ | exact DL.at1 _ _ _ | exact DL.at2 _ _ _ _ | exact DL.at3 _ _ _ _ _ | exact DL.at4 _ _ _ _ _ _) | ((with_reducible apply Go.frz_go); exact rfl) | ((with_reducible apply Go.frz_sh); exact rfl) | with_reducible refine Go.mn_go ?_ | with_reducible refine Go.andV_go ?_ | ((first | with_reducible apply Go.sqT_go | with_reducible apply Go.sqL_go); exact rfl) | with_reducible refine Go.gsC_go ?_ | with_reducible refine Go.gsN_go ?_ | with_reducible refine Go.ifT (by decide +kernel) ?_ | with_reducible refine Go.ifF (by decide +kernel) ?_ | with_reducible refine Go.cat_go ?_ | with_reducible refine Go.callO_go ?_ | ((with_reducible apply Go.retO_go); exact rfl) | with_reducible refine Go.retN_go ?_ | with_reducible refine Go.ifN_go ?_ | with_reducible refine Go.yes_go ?_ | with_reducible refine Go.isI_go ?_ | with_reducible refine Go.isB_go ?_ | with_reducible refine Go.isN_go ?_ | with_reducible refine Go.notN_go ?_ | with_reducible refine Go.lrev_go ?_ | with_reducible refine Go.bk_go ?_ | with_reducible refine Go.ct_go ?_ | with_reducible refine Go.rng2_go ?_ | with_reducible refine Go.orV_go ?_ | with_reducible refine Go.notV_go ?_ | ((with_reducible apply Go.setIx_go); exact rfl) | unfold fForS | unfold fLc | dsimp only [seqOf, List.set_cons_zero, List.set_cons_succ, setAll, wipeE])))
theorem row_run {s h : S4} {m : Nat} {F : Int → Int} {S : Spec} {E : En} {g : SS} (hm : m ≤ 1000) (hS : ∀ (n : Int) (Q : D → Prop), Sm 110 n → Q (.int (F n)) → S [.sh s.D, .sh h.D, iS n] Q)
    (hg : g = fSeqS (fSetN 3 (fLc [4] (fRng1 (fBin gAdd (fN 2) (fC (.int 1)))) (gNm 4) fYes (fCall S (fAC (fV 0) (fAC (fV 1) (fAC (fV 4) fAN)))))) (fRet (fCB bTuple (fLC (fNV (fLc [4] (fRng1 (fN 2)) (gNm 4) fYes (fBin gSub (fBin gIx (fN 3) (fBin gAdd (fN 4) (fC (.int 1)))) (fBin gIx (fN 3) (fN 4))))) fLN))))
    (hq : E.rt (.tuple (((List.range m).map fun i : Nat => F ((i : Int) + 1) - F (i : Int)).map PyData.int))) : g E [.sh s.D, .sh h.D, iS (m : Int), .un, .un] := by
  subst hg
  refine seq_go ?_
  simp only [fSeqS, fSet, fSetN, fRet, fIfS, fNext, fBreak, fCont, fNever, fBin, fCmp, fV, fN, fC, lk, lk_z, lk_s, gAdd, gSub, gMul, gDiv, gMod, gPow, gShl, gShlW, gShr, gv, gLt, gLe, gGt, gGe, gEq, gNe, gIx, fNeg, fTV, fNot, fAnd, fOr, fAndV, fOrV, fNotV, fIf, fLN, fLC, fAN, fAC, fAB, fNV, fTup, fCB, bInt, bAbs, bLen, bMax2, bMin2, bTuple, fSeq, seqOf, fCall, fCallK, fAsg, gNm, gsNil, gsCons, gTpl, gSq, fPar, fMV, fMN, setAll, fApp, fExt, fSetIx, fFrz, fForS, fRng1, fRng2, fBits, fON, fOS, fSlT, fSlL, List.set_cons_zero, List.set_cons_succ, List.length_cons, List.length_nil, endsOf, decide_eq_true_eq, true_and, and_true, at0, at1, at2, at3, at4, Bool.not_eq_true', decide_eq_false_iff_not, lg2, Int.reduceLT, ↓reduceIte, fLc, wipeE]
  have e1 : ((m : Int) + 1).toNat = m + 1 := by omega
  rw [e1]
  refine ⟨by omega, by omega, by rw [rng_len]; unfold most; omega, ?_⟩
  rw [rng_nat]
  refine lc_map (F := fun i : Nat => PyData.int (F (i : Int))) _ (fun i hi K hK => ?_) _ ?_
  · have hi := List.mem_range.mp hi
    simp only [fSeqS, fSet, fSetN, fRet, fIfS, fNext, fBreak, fCont, fNever, fBin, fCmp, fV, fN, fC, lk, lk_z, lk_s, gAdd, gSub, gMul, gDiv, gMod, gPow, gShl, gShlW, gShr, gv, gLt, gLe, gGt, gGe, gEq, gNe, gIx, fNeg, fTV, fNot, fAnd, fOr, fAndV, fOrV, fNotV, fIf, fLN, fLC, fAN, fAC, fAB, fNV, fTup, fCB, bInt, bAbs, bLen, bMax2, bMin2, bTuple, fSeq, seqOf, fCall, fCallK, fAsg, gNm, gsNil, gsCons, gTpl, gSq, fPar, fMV, fMN, setAll, fApp, fExt, fSetIx, fFrz, fForS, fRng1, fRng2, fBits, fON, fOS, fSlT, fSlL, List.set_cons_zero, List.set_cons_succ, List.length_cons, List.length_nil, endsOf, decide_eq_true_eq, true_and, and_true, at0, at1, at2, at3, at4, Bool.not_eq_true', decide_eq_false_iff_not, lg2, Int.reduceLT, ↓reduceIte]
    exact hS _ _ (smN (Nat.lt_of_lt_of_le (m := 1024) (by omega) (by decide))) hK
  have hlt : (m : Int) < 2 ^ 62 := by omega
  have hgt : -(2 ^ 62) ≤ (m : Int) := by omega
  refine ⟨hgt, hlt, by rw [rng_len]; unfold most; omega, ?_⟩
  rw [Int.toNat_natCast, rng_nat]
  rw [List.map_map] at hq
  refine lc_map (F := fun i : Nat => PyData.int (F ((i : Int) + 1) - F (i : Int))) _ (fun i hi K hK => ?_) _ hq
  have hi := List.mem_range.mp hi
  have a1 : atI ((List.range (m + 1)).map fun i : Nat => PyData.int (F (i : Int))) (((i + 1 : Nat)) : Int) = some (.int (F ((i + 1 : Nat) : Int))) := atI_nat (by rw [List.getElem?_map, List.getElem?_range (by omega)]; rfl)
  have a2 : atI ((List.range (m + 1)).map fun i : Nat => PyData.int (F (i : Int))) ((i : Nat) : Int) = some (.int (F (i : Int))) := atI_nat (by rw [List.getElem?_map, List.getElem?_range (by omega)]; rfl)
  have e2 : ((i : Int) + 1) = ((i + 1 : Nat) : Int) := by omega
  rw [e2] at hK
  simp only [fSeqS, fSet, fSetN, fRet, fIfS, fNext, fBreak, fCont, fNever, fBin, fCmp, fV, fN, fC, lk, lk_z, lk_s, gAdd, gSub, gMul, gDiv, gMod, gPow, gShl, gShlW, gShr, gv, gLt, gLe, gGt, gGe, gEq, gNe, gIx, fNeg, fTV, fNot, fAnd, fOr, fAndV, fOrV, fNotV, fIf, fLN, fLC, fAN, fAC, fAB, fNV, fTup, fCB, bInt, bAbs, bLen, bMax2, bMin2, bTuple, fSeq, seqOf, fCall, fCallK, fAsg, gNm, gsNil, gsCons, gTpl, gSq, fPar, fMV, fMN, setAll, fApp, fExt, fSetIx, fFrz, fForS, fRng1, fRng2, fBits, fON, fOS, fSlT, fSlL, List.set_cons_zero, List.set_cons_succ, List.length_cons, List.length_nil, endsOf, decide_eq_true_eq, true_and, and_true, at0, at1, at2, at3, at4, Bool.not_eq_true', decide_eq_false_iff_not, lg2, Int.reduceLT, ↓reduceIte]
  rw [e2]
  simp only [a1, a2]
  exact hK
theorem r_letters : ∀ ss (Q : D → Prop), S_letters ss Q → g_letters (endsOf Q) (initE N_letters ss) := by
  rintro ss Q ⟨⟨s, h, m⟩, rfl, ⟨a, b, k⟩, hq⟩
  exact row_run (S := S_whole_at) k (fun n Q hn hq => go_whole_at a b hn hq) rfl hq
theorem go_letters {s h : S4} {m : Nat} {Q : D → Prop} (a : Bd 200 s) (b : Bd 200 h) (k : m ≤ 1000) (hq : Q (wdD (rowL s h m))) : S_letters [.sh s.D, .sh h.D, iS (m : Int)] Q := ⟨(s, h, m), rfl, ⟨a, b, k⟩, hq⟩
theorem r_unlike_places : ∀ ss (Q : D → Prop), S_unlike_places ss Q → g_unlike_places (endsOf Q) (initE N_unlike_places ss) := by
  rintro ss Q ⟨⟨s, h, o, m⟩, rfl, ⟨a, b, c, k⟩, hq⟩
  have k : m ≤ 1000 := k
  have hq : Q (wdD (unl s h o m)) := hq
  simp only [N_unlike_places, initE, List.length_cons, List.length_nil, Nat.reduceAdd, Nat.reduceSub, List.replicate, List.cons_append, List.nil_append, List.append_nil]
  unfold g_unlike_places
  refine seq_go ?_
  get_elem_tactic_extensible
  refine go_letters a b k ?_
  get_elem_tactic_extensible
  refine go_letters a c k ?_
  get_elem_tactic_extensible
  refine ⟨rfl, ?_⟩
  get_elem_tactic_extensible
  have hlt : (m : Int) < 2 ^ 62 := by omega
  have hgt : -(2 ^ 62) ≤ (m : Int) := by omega
  refine ⟨hgt, hlt, by rw [rng_len]; unfold most; omega, ?_⟩
  rw [Int.toNat_natCast, rng_nat]
  refine lc_filter (c := fun i : Nat => decide (wA s h ((i : Int) + 1) - wA s h (i : Int) ≠ wA s o ((i : Int) + 1) - wA s o (i : Int))) (F := fun i : Nat => PyData.int (i : Int)) _ (fun i hi K J h1 h2 => ?_) _ ?_
  · have hi := List.mem_range.mp hi
    have a1 : ∀ h : S4, atI ((rowL s h m).map PyData.int) ((i : Nat) : Int) = some (.int (wA s h ((i : Int) + 1) - wA s h (i : Int))) := fun h => atI_nat (by unfold rowL; rw [List.getElem?_map, List.getElem?_map, List.getElem?_range hi]; rfl)
    simp only [fSeqS, fSet, fSetN, fRet, fIfS, fNext, fBreak, fCont, fNever, fBin, fCmp, fV, fN, fC, lk, lk_z, lk_s, gAdd, gSub, gMul, gDiv, gMod, gPow, gShl, gShlW, gShr, gv, gLt, gLe, gGt, gGe, gEq, gNe, gIx, fNeg, fTV, fNot, fAnd, fOr, fAndV, fOrV, fNotV, fIf, fLN, fLC, fAN, fAC, fAB, fNV, fTup, fCB, bInt, bAbs, bLen, bMax2, bMin2, bTuple, fSeq, seqOf, fCall, fCallK, fAsg, gNm, gsNil, gsCons, gTpl, gSq, fPar, fMV, fMN, setAll, fApp, fExt, fSetIx, fFrz, fForS, fRng1, fRng2, fBits, fON, fOS, fSlT, fSlL, List.set_cons_zero, List.set_cons_succ, List.length_cons, List.length_nil, endsOf, decide_eq_true_eq, true_and, and_true, at0, at1, at2, at3, at4, Bool.not_eq_true', decide_eq_false_iff_not, lg2, Int.reduceLT, ↓reduceIte, wdD, a1]
    by_cases e : wA s h ((i : Int) + 1) - wA s h (i : Int) = wA s o ((i : Int) + 1) - wA s o (i : Int)
    · rw [if_neg (by simpa using e)]
      exact h2 (by simpa using e)
    · rw [if_pos (by simpa using e)]
      exact h1 (by simpa using e)
  · have e : (List.filter (fun i : Nat => decide (wA s h ((i : Int) + 1) - wA s h (i : Int) ≠ wA s o ((i : Int) + 1) - wA s o (i : Int))) (List.range m)).map (fun i : Nat => PyData.int (i : Int)) = (unl s h o m).map PyData.int := by
      unfold unl
      rw [List.map_map]; rfl
    rw [e]
    get_elem_tactic_extensible
    exact hq
theorem sm30 : (10 : Int) ^ 30 = 1000000000000000000000000000000 := by decide
theorem bd_int {a : Int} {m : Nat} (h : Sm m a) (hm : 1 ≤ m) : Bd m ⟨a, 0, 1, 0⟩ := ⟨h, Sm.le (k := 1) (i := 0) (show (0 : Int).natAbs < 2 ^ 1 by decide) hm, Sm.le (k := 1) (i := 1) (show (1 : Int).natAbs < 2 ^ 1 by decide) hm, (by decide : (0 : Int) < 1), Int.le_refl 0, (by decide : (0 : Int).natAbs < 2 ^ 20)⟩
theorem ediv_sm {a c : Int} {k : Nat} (h : Sm k a) (hc : 0 < c) : Sm k (a / c) := h.div hc
theorem rF_sm {n : Int} {k : Nat} (h0 : 0 ≤ n) (h : Sm k n) (hk : 1 ≤ k) : Sm k (rF n) := by
  obtain ⟨p, q, r⟩ := rF_sq h0
  have : rF n ≤ n ∨ rF n ≤ 1 := by
    by_cases z : rF n ≤ 1
    · exact .inr z
    · refine .inl ?_
      have := Int.mul_le_mul_of_nonneg_left (a := 1) (b := rF n) (c := rF n) (by omega) p
      omega
  unfold Sm at *
  have : 1 < 2 ^ k := Nat.one_lt_two_pow (by omega)
  omega
theorem gF_sm {D b : Int} {k : Nat} (hD : 0 ≤ D) (h : Sm k b) (hd : Sm 20 D) : Sm (2 * k + 22) (gF D b) := by
  have n : 0 ≤ b * b * D := Int.mul_nonneg (by
    rcases Int.le_total 0 b with h | h
    · exact Int.mul_nonneg h h
    · have := Int.mul_nonneg (a := -b) (b := -b) (by omega) (by omega)
      rwa [Int.neg_mul_neg] at this) hD
  have r : Sm (2 * k + 21) (rF (b * b * D)) := rF_sm n (((h.mul h).mul hd).le (by omega)) (by omega)
  unfold gF
  split
  · exact r.le (by omega)
  · have := (r.neg).sub (sm1.le (l := 2 * k + 21) (by omega))
    exact this
theorem wS_sm {s : S4} {k : Nat} (h : Bd k s) : Sm (2 * k + 23) (wS s) := by
  rw [wS_eq]
  exact ((h.a.le (l := 2 * k + 22) (by omega)).add (gF_sm h.d0 h.b h.d)).div h.c0
theorem r_moved_row : ∀ ss (Q : D → Prop), S_moved_row ss Q → g_moved_row (endsOf Q) (initE N_moved_row ss) := by
  rintro ss Q ⟨⟨s, h, n⟩, rfl, ⟨a, b, k⟩, hq⟩
  have a : Bd 64 s := a
  have b : Bd 64 h := b
  have k : Sm 101 n := k
  have hq : Q (mvR s h n).D := hq
  have bn : Bd 101 ⟨n, 0, 1, 0⟩ := bd_int k (by decide)
  have b1 := bn.mul (a.le (by decide))
  have b2 := b1.sum (b.le (by decide))
  simp only [N_moved_row, arP, initE, List.length_cons, List.length_nil, Nat.reduceAdd, Nat.reduceSub, List.replicate, List.cons_append, List.nil_append, List.append_nil]
  unfold g_moved_row
  refine seq_go ?_
  get_elem_tactic_extensible
  refine go_surd_times ⟨n, 0, 1, 0⟩ s (bn.le (by decide)) (a.le (by decide)) ?_
  get_elem_tactic_extensible
  refine go_surd_sum _ h (b1.le (by decide)) (b.le (by decide)) ?_
  get_elem_tactic_extensible
  refine go_whole_part _ (b2.le (by decide)) ?_
  get_elem_tactic_extensible
  exact go_surd_sum _ ⟨_, 0, 1, 0⟩ (b2.le (by decide)) (bd_int ((wS_sm b2).neg.le (by decide)) (by decide)) hq
end T
end DL
namespace DL
namespace T
open PySem L2 PySem.Spec PyProof.Rows
local macro_rules
  | `(tactic| get_elem_tactic_extensible) => `(tactic| (repeat (first | with_reducible refine Go.lc_go ?_ | with_reducible refine Go.ln_go ?_ | ((with_reducible apply Go.v_sh); exact rfl) | ((with_reducible apply Go.n_sh); exact rfl) | ((with_reducible apply Go.n_ow); exact rfl) | ((with_reducible apply Go.ab_go); exact rfl) | ((with_reducible apply Go.app_go); exact rfl) | ((with_reducible apply Go.ext_go); exact rfl) | with_reducible refine Go.c_go ?_ | with_reducible refine Go.tup_go ?_ | with_reducible refine Go.nv_go ?_ | with_reducible refine Go.bin_go ?_ | with_reducible refine Go.slT_go ?_ | with_reducible refine Go.slL_go ?_ | with_reducible refine Go.on_go ?_ | with_reducible refine Go.os_go ?_ | with_reducible refine Go.neg_go ?_ | with_reducible refine Go.sub_go ?_ | with_reducible refine Go.addI_go ?_ | with_reducible refine Go.seqT_go ?_ | with_reducible refine Go.call_go ?_ | with_reducible refine Go.callK_go ?_ | with_reducible refine Go.cb_go ?_ | with_reducible refine Go.dict1_go ?_ | with_reducible refine Go.if_go ?_ | with_reducible refine Go.an_go ?_ | with_reducible refine Go.ac_go ?_ | with_reducible refine Go.mv_go ?_ | with_reducible refine Go.par_go ?_ | with_reducible refine Go.sq_go ?_ | with_reducible refine Go.set_go ?_ | with_reducible refine Go.setN_go ?_ | with_reducible refine Go.ret_go ?_ | with_reducible refine Go.asg_go ?_ | with_reducible refine Go.ifs_go ?_ | with_reducible refine Go.next_go ?_ | with_reducible refine Go.nm_go ?_ | with_reducible refine Go.cmp_go ?_ | with_reducible refine Go.tv_go ?_ | with_reducible refine Go.not_go ?_ | with_reducible refine Go.and_go ?_ | with_reducible refine Go.or_go ?_ | with_reducible refine Go.lenT_go ?_ | with_reducible refine Go.lenL_go ?_ | with_reducible refine Go.absI_go ?_ | with_reducible refine Go.intI_go ?_ | with_reducible refine Go.max2_go ?_ | with_reducible refine Go.min2_go ?_ | with_reducible refine Go.tupL_go ?_ | with_reducible refine Go.tupT_go ?_ | with_reducible refine Go.gv_go ?_ | with_reducible refine Go.ltI_go ?_ | with_reducible refine Go.leI_go ?_ | with_reducible refine Go.gtI_go ?_ | with_reducible refine Go.geI_go ?_ | with_reducible refine Go.eqI_go ?_ | with_reducible refine Go.neI_go ?_ | with_reducible refine Go.eqS_go ?_ | with_reducible refine Go.rng1_go ?_ | ((first | with_reducible apply Go.ixL_go | with_reducible apply Go.ixT_go); first | exact DL.at0 _ _ | exact DL.at1 _ _ _ | exact DL.at2 _ _ _ _ | exact DL.at3 _ _ _ _ _ | exact DL.at4 _ _ _ _ _ _) | ((with_reducible apply Go.frz_go); exact rfl) | ((with_reducible apply Go.frz_sh); exact rfl) | with_reducible refine Go.mn_go ?_ | with_reducible refine Go.andV_go ?_ | ((first | with_reducible apply Go.sqT_go | with_reducible apply Go.sqL_go); exact rfl) | with_reducible refine Go.gsC_go ?_ | with_reducible refine Go.gsN_go ?_ | with_reducible refine Go.ifT (by decide +kernel) ?_ | with_reducible refine Go.ifF (by decide +kernel) ?_ | with_reducible refine Go.cat_go ?_ | with_reducible refine Go.callO_go ?_ | ((with_reducible apply Go.retO_go); exact rfl) | with_reducible refine Go.retN_go ?_ | with_reducible refine Go.ifN_go ?_ | with_reducible refine Go.yes_go ?_ | with_reducible refine Go.isI_go ?_ | with_reducible refine Go.isB_go ?_ | with_reducible refine Go.isN_go ?_ | with_reducible refine Go.notN_go ?_ | with_reducible refine Go.lrev_go ?_ | with_reducible refine Go.bk_go ?_ | with_reducible refine Go.ct_go ?_ | with_reducible refine Go.rng2_go ?_ | with_reducible refine Go.orV_go ?_ | with_reducible refine Go.notV_go ?_ | ((with_reducible apply Go.setIx_go); exact rfl) | unfold fForS | unfold fLc | dsimp only [seqOf, List.set_cons_zero, List.set_cons_succ, setAll, wipeE])))
theorem rF_rt {n s : Int} (h : 0 ≤ n) (k : Rt n s) : rF n = s := by
  obtain ⟨a, b, c⟩ := rF_sq h
  exact rt_unique ⟨a, b, c⟩ k
theorem half_bits1 (n : Int) (h : 1 ≤ n) (hs : Sm 1940 n) {s : Int} (k : Rt n s) : ∃ b : Nat, ((Builtin.Int.intBits n : Nat) + 1 : Int) / 2 = (b : Nat) ∧ b ≤ 970 ∧ s < 2 ^ b := by
  have e : ((n.toNat : Nat) : Int) = n := Int.toNat_of_nonneg (by omega)
  have hb : Builtin.Int.intBits n ≤ 1940 := by
    rw [← e]
    refine bits_le (by decide) ?_
    have : n.natAbs = n.toNat := by omega
    unfold Sm at hs
    rwa [this] at hs
  refine ⟨(Builtin.Int.intBits n + 1) / 2, by omega, by omega, ?_⟩
  rw [← e] at k
  refine rt_first k _ ?_
  rw [e]
  omega
theorem r__law_whole_root : ∀ ss (Q : D → Prop), S__law_whole_root ss Q → g__law_whole_root (endsOf Q) (initE N__law_whole_root ss) := by
  rintro ss Q ⟨n, rfl, ⟨h0, hs⟩, hq⟩
  have hq : Q (.int (rF n)) := hq
  simp only [N__law_whole_root, initE, List.length_cons, List.length_nil, Nat.reduceAdd, Nat.reduceSub, List.replicate, List.cons_append, List.nil_append, List.append_nil]
  simp only [g__law_whole_root, fSeqS, fSet, fSetN, fRet, fIfS, fNext, fBreak, fCont, fNever, fBin, fCmp, fV, fN, fC, lk, lk_z, lk_s, gAdd, gSub, gMul, gDiv, gMod, gPow, gShl, gShlW, gShr, gv, gLt, gLe, gGt, gGe, gEq, gNe, gIx, fNeg, fTV, fNot, fAnd, fOr, fAndV, fOrV, fNotV, fIf, fLN, fLC, fAN, fAC, fAB, fNV, fTup, fCB, bInt, bAbs, bLen, bMax2, bMin2, bTuple, fSeq, seqOf, fCall, fCallK, fAsg, gNm, gsNil, gsCons, gTpl, gSq, fPar, fMV, fMN, setAll, fApp, fExt, fSetIx, fFrz, fForS, fRng1, fRng2, fBits, fON, fOS, fSlT, fSlL, List.set_cons_zero, List.set_cons_succ, List.length_cons, List.length_nil, endsOf, decide_eq_true_eq, true_and, and_true, at0, at1, at2, at3, at4, Bool.not_eq_true', decide_eq_false_iff_not, lg2, Int.reduceLT, ↓reduceIte]
  split
  · rename_i h
    subst h
    have e : rF 0 = 0 := rF_rt (Int.le_refl 0) ⟨by decide, by decide, by decide⟩
    rw [e] at hq
    exact hq
  · rename_i h
    obtain ⟨s, hr⟩ := rt_of (n := n) (by omega)
    obtain ⟨b, e, hb, hb2⟩ := half_bits1 n (by omega) hs hr
    have p0 : 0 < s := by
      obtain ⟨a1, a2, a3⟩ := hr
      apply Classical.byContradiction
      intro z
      have : s = 0 := by omega
      subst this
      omega
    rw [rF_rt h0 hr] at hq
    rw [e, Int.one_mul, Int.toNat_natCast]
    have hp : (0 : Int) < 2 ^ b := Int.pow_pos (by decide)
    have lg : ∀ r : Int, 0 < r → r ≤ 2 ^ b → r.natAbs.log2 < 9000 := fun r h0 h1 => by
      refine Sm.log (k := 971) ?_
      refine Sm.nat (by omega) ?_
      have : (2 : Int) ^ b ≤ 2 ^ 970 := by exact_mod_cast Nat.pow_le_pow_right (by decide : 0 < 2) hb
      have : (2 : Int) ^ 971 = 2 ^ 970 * 2 := Int.pow_succ ..
      have : (0 : Int) < 2 ^ 970 := Int.pow_pos (by decide)
      omega
    refine ⟨shl1 (by omega), lg _ hp (Int.le_refl _), ?_⟩
    rw [if_pos hp]
    generalize (2 : Int) ^ b = B at hp lg hb2
    refine while_of (fun m ρ => ∃ r : Int, ρ = [iS n, iS r, iS ((r + n / r) / 2)] ∧ s ≤ r ∧ r ≤ B ∧ m = r.toNat) ?_ _ _ ⟨B, rfl, by omega, Int.le_refl _, rfl⟩
    rintro m ρ ⟨r, rfl, hsr, hrB, rfl⟩ K hK
    have up := rt_up hr (r := r) (by omega)
    simp only [fSeqS, fSet, fSetN, fRet, fIfS, fNext, fBreak, fCont, fNever, fBin, fCmp, fV, fN, fC, lk, lk_z, lk_s, gAdd, gSub, gMul, gDiv, gMod, gPow, gShl, gShlW, gShr, gv, gLt, gLe, gGt, gGe, gEq, gNe, gIx, fNeg, fTV, fNot, fAnd, fOr, fAndV, fOrV, fNotV, fIf, fLN, fLC, fAN, fAC, fAB, fNV, fTup, fCB, bInt, bAbs, bLen, bMax2, bMin2, bTuple, fSeq, seqOf, fCall, fCallK, fAsg, gNm, gsNil, gsCons, gTpl, gSq, fPar, fMV, fMN, setAll, fApp, fExt, fSetIx, fFrz, fForS, fRng1, fRng2, fBits, fON, fOS, fSlT, fSlL, List.set_cons_zero, List.set_cons_succ, List.length_cons, List.length_nil, endsOf, decide_eq_true_eq, true_and, and_true, at0, at1, at2, at3, at4, Bool.not_eq_true', decide_eq_false_iff_not, lg2, Int.reduceLT, ↓reduceIte]
    split
    · rename_i lt
      have p1 : 0 < (r + n / r) / 2 := by omega
      refine ⟨lg _ p1 (by omega), ?_⟩
      rw [if_pos p1]
      exact hK _ _ (by omega) ⟨_, rfl, up, by omega, rfl⟩
    · rename_i ge
      have := rt_stop hr (by omega) hsr (by omega)
      rw [← this] at hq
      exact hq
theorem go__law_whole_root {n : Int} {Q : D → Prop} (h0 : 0 ≤ n) (h : Sm 1940 n) (hq : Q (.int (rF n))) : S__law_whole_root [iS n] Q := ⟨n, rfl, ⟨h0, h⟩, hq⟩
/-- the root, 2 ** 420 times, tells whole parts -/
theorem times_ok {D b : Int} (hD : SF D) (h0 : 0 ≤ b) (hb : b < 2 ^ 204) : b * RR D / 2 ^ 420 = rF (b * b * D) := by
  have d1 := hD.1
  have d2 := hD.2.1
  by_cases b0 : b = 0
  · subst b0
    have e : (0 : Int) * 0 * D = 0 := by simp
    rw [e, rF_rt (Int.le_refl 0) (s := 0) ⟨by decide, by decide, by decide⟩]
    simp
  obtain ⟨m0, m1, m2⟩ := rF_sq (n := b * b * D) (Int.mul_nonneg (Int.mul_nonneg h0 h0) (by omega))
  have ns := no_square hD (a := rF (b * b * D)) b0
  generalize rF (b * b * D) = m at *
  unfold RR
  have PP : (2 : Int) ^ 840 = 2 ^ 420 * 2 ^ 420 := by decide
  have pb : (2 : Int) ^ 420 = 2 ^ 204 * 2 ^ 216 := by decide
  have p0 : (0 : Int) < 2 ^ 204 := by decide
  have p1 : 2003 * (2 : Int) ^ 204 < 2 ^ 216 := by decide
  rw [PP]
  generalize (2 : Int) ^ 204 = B at *
  generalize (2 : Int) ^ 216 = C at *
  rw [pb]
  obtain ⟨r0, r1, r2⟩ := rF_sq (n := D * (B * C * (B * C))) (Int.mul_nonneg (by omega) (Int.mul_nonneg (Int.mul_nonneg (by omega) (by omega)) (Int.mul_nonneg (by omega) (by omega))))
  generalize rF (D * (B * C * (B * C))) = R at *
  have Pp : 0 < B * C := Int.mul_pos p0 (by omega)
  have bp : 0 < b := by omega
  -- m ≤ 1024 b
  have mb : m < 1001 * b := by
    refine sq_lt m0 (by omega) ?_
    have e : 1001 * b * (1001 * b) = 1002001 * (b * b) := by grind
    have : b * b * D ≤ b * b * 1000001 := Int.mul_le_mul_of_nonneg_left (by omega) (Int.mul_nonneg h0 h0)
    have : 0 < b * b := Int.mul_pos bp bp
    omega
  generalize hP : B * C = P at *
  have lo : m * P ≤ b * R := by
    apply Classical.byContradiction
    intro z
    have h1 : b * (R + 1) < m * P + b := by
      have : b * (R + 1) = b * R + b := by grind
      omega
    have h2 : b * b * (D * (P * P)) < b * (R + 1) * (b * (R + 1)) := by
      have : b * (R + 1) * (b * (R + 1)) = b * b * ((R + 1) * (R + 1)) := by grind
      rw [this]
      exact Int.mul_lt_mul_of_pos_left r2 (Int.mul_pos bp bp)
    have h3 : b * (R + 1) * (b * (R + 1)) ≤ (m * P + b) * (m * P + b) := le_sq (Int.mul_nonneg h0 (by omega)) (by omega)
    have h4 : (m * m + 1) * (P * P) ≤ b * b * D * (P * P) := Int.mul_le_mul_of_nonneg_right (by omega) (Int.mul_nonneg (by omega) (by omega))
    have e5 : b * b * (D * (P * P)) = b * b * D * (P * P) := by grind
    have e6 : (m * P + b) * (m * P + b) = m * m * (P * P) + (2 * m * b * P + b * b) := by grind
    have e7 : (m * m + 1) * (P * P) = m * m * (P * P) + P * P := by grind
    have h5 : P * P < 2 * m * b * P + b * b := by omega
    have h6 : 2 * m * b ≤ 2002 * (b * b) := by
      have : m * b ≤ 1001 * b * b := Int.mul_le_mul_of_nonneg_right (by omega) h0
      have e : 1001 * b * b = 1001 * (b * b) := by grind
      have e2 : 2 * m * b = 2 * (m * b) := by grind
      omega
    have h7 : 2 * m * b * P ≤ 2002 * (b * b) * P := Int.mul_le_mul_of_nonneg_right h6 (by omega)
    have bb : b * b ≤ B * B := le_sq h0 (by omega)
    have bP : b * b ≤ b * b * P := by
      have := Int.mul_le_mul_of_nonneg_left (a := 1) (b := P) (c := b * b) (by omega) (Int.mul_nonneg h0 h0)
      omega
    have e8 : 2002 * (b * b) * P = 2002 * (b * b * P) := by grind
    have h8 : P * P < 2003 * (b * b * P) := by omega
    have h9 : 2003 * (b * b * P) ≤ 2003 * (B * B * P) := by
      have := Int.mul_le_mul_of_nonneg_right (c := P) bb (by omega)
      omega
    have h10 : 2003 * (B * B * P) ≤ C * B * P := by
      have e : 2003 * (B * B * P) = (2003 * B) * (B * P) := by grind
      have e2 : C * B * P = C * (B * P) := by grind
      rw [e, e2]
      refine Int.mul_le_mul_of_nonneg_right ?_ (Int.mul_nonneg (by omega) (by omega))
      omega
    have e9 : C * B * P = P * P := by rw [← hP]; grind
    omega
  have hi : b * R < (m + 1) * P := by
    refine sq_lt (Int.mul_nonneg h0 r0) (Int.mul_nonneg (by omega) (by omega)) ?_
    have h1 : b * R * (b * R) ≤ b * b * D * (P * P) := by
      have : b * R * (b * R) = b * b * (R * R) := by grind
      rw [this]
      have := Int.mul_le_mul_of_nonneg_left (c := b * b) r1 (Int.mul_nonneg h0 h0)
      have e : b * b * (D * (P * P)) = b * b * D * (P * P) := by grind
      omega
    have h2 : b * b * D * (P * P) < (m + 1) * (m + 1) * (P * P) := Int.mul_lt_mul_of_pos_right m2 (Int.mul_pos Pp Pp)
    have e : (m + 1) * P * ((m + 1) * P) = (m + 1) * (m + 1) * (P * P) := by grind
    omega
  rw [Int.ediv_eq_iff_of_pos Pp]
  exact ⟨lo, by have : (m + 1) * P = m * P + P := by grind
                omega⟩
end T
end DL
namespace DL
namespace T
open PySem L2 PySem.Spec PyProof.Rows
local macro_rules
  | `(tactic| get_elem_tactic_extensible) => `(tactic| (repeat (first | with_reducible refine Go.lc_go ?_ | with_reducible refine Go.ln_go ?_ | ((with_reducible apply Go.v_sh); exact rfl) | ((with_reducible apply Go.n_sh); exact rfl) | ((with_reducible apply Go.n_ow); exact rfl) | ((with_reducible apply Go.ab_go); exact rfl) | ((with_reducible apply Go.app_go); exact rfl) | ((with_reducible apply Go.ext_go); exact rfl) | with_reducible refine Go.c_go ?_ | with_reducible refine Go.tup_go ?_ | with_reducible refine Go.nv_go ?_ | with_reducible refine Go.bin_go ?_ | with_reducible refine Go.slT_go ?_ | with_reducible refine Go.slL_go ?_ | with_reducible refine Go.on_go ?_ | with_reducible refine Go.os_go ?_ | with_reducible refine Go.neg_go ?_ | with_reducible refine Go.sub_go ?_ | with_reducible refine Go.addI_go ?_ | with_reducible refine Go.seqT_go ?_ | with_reducible refine Go.call_go ?_ | with_reducible refine Go.callK_go ?_ | with_reducible refine Go.cb_go ?_ | with_reducible refine Go.dict1_go ?_ | with_reducible refine Go.if_go ?_ | with_reducible refine Go.an_go ?_ | with_reducible refine Go.ac_go ?_ | with_reducible refine Go.mv_go ?_ | with_reducible refine Go.par_go ?_ | with_reducible refine Go.sq_go ?_ | with_reducible refine Go.set_go ?_ | with_reducible refine Go.setN_go ?_ | with_reducible refine Go.ret_go ?_ | with_reducible refine Go.asg_go ?_ | with_reducible refine Go.ifs_go ?_ | with_reducible refine Go.next_go ?_ | with_reducible refine Go.nm_go ?_ | with_reducible refine Go.cmp_go ?_ | with_reducible refine Go.tv_go ?_ | with_reducible refine Go.not_go ?_ | with_reducible refine Go.and_go ?_ | with_reducible refine Go.or_go ?_ | with_reducible refine Go.lenT_go ?_ | with_reducible refine Go.lenL_go ?_ | with_reducible refine Go.absI_go ?_ | with_reducible refine Go.intI_go ?_ | with_reducible refine Go.max2_go ?_ | with_reducible refine Go.min2_go ?_ | with_reducible refine Go.tupL_go ?_ | with_reducible refine Go.tupT_go ?_ | with_reducible refine Go.gv_go ?_ | with_reducible refine Go.ltI_go ?_ | with_reducible refine Go.leI_go ?_ | with_reducible refine Go.gtI_go ?_ | with_reducible refine Go.geI_go ?_ | with_reducible refine Go.eqI_go ?_ | with_reducible refine Go.neI_go ?_ | with_reducible refine Go.eqS_go ?_ | with_reducible refine Go.rng1_go ?_ | ((first | with_reducible apply Go.ixL_go | with_reducible apply Go.ixT_go); first | exact DL.at0 _ _ | exact DL.at1 _ _ _ | exact DL.at2 _ _ _ _ | exact DL.at3 _ _ _ _ _ | exact DL.at4 _ _ _ _ _ _) | ((with_reducible apply Go.frz_go); exact rfl) | ((with_reducible apply Go.frz_sh); exact rfl) | with_reducible refine Go.mn_go ?_ | with_reducible refine Go.andV_go ?_ | ((first | with_reducible apply Go.sqT_go | with_reducible apply Go.sqL_go); exact rfl) | with_reducible refine Go.gsC_go ?_ | with_reducible refine Go.gsN_go ?_ | with_reducible refine Go.ifT (by decide +kernel) ?_ | with_reducible refine Go.ifF (by decide +kernel) ?_ | with_reducible refine Go.cat_go ?_ | with_reducible refine Go.callO_go ?_ | ((with_reducible apply Go.retO_go); exact rfl) | with_reducible refine Go.retN_go ?_ | with_reducible refine Go.ifN_go ?_ | with_reducible refine Go.yes_go ?_ | with_reducible refine Go.isI_go ?_ | with_reducible refine Go.isB_go ?_ | with_reducible refine Go.isN_go ?_ | with_reducible refine Go.notN_go ?_ | with_reducible refine Go.lrev_go ?_ | with_reducible refine Go.bk_go ?_ | with_reducible refine Go.ct_go ?_ | with_reducible refine Go.rng2_go ?_ | with_reducible refine Go.orV_go ?_ | with_reducible refine Go.notV_go ?_ | ((with_reducible apply Go.setIx_go); exact rfl) | unfold fForS | unfold fLc | dsimp only [seqOf, List.set_cons_zero, List.set_cons_succ, setAll, wipeE])))
theorem r__law_times : ∀ ss (Q : D → Prop), S__law_times ss Q → g__law_times (endsOf Q) (initE N__law_times ss) := by
  rintro ss Q ⟨⟨D, b⟩, rfl, ⟨hD, hb⟩, hq⟩
  have hD : SF D := hD
  have hb : Sm 203 b := hb
  have hq : Q (.int (gF D b)) := hq
  have d1 := hD.1
  have rs : Sm 861 (RR D) := rF_sm (Int.mul_nonneg (by omega) (by decide)) ((hD.sm.mul (show Sm 841 (2 ^ 840 : Int) by unfold Sm; decide)).le (by decide)) (by decide)
  simp only [N__law_times, fdD, initE, List.length_cons, List.length_nil, Nat.reduceAdd, Nat.reduceSub, List.replicate, List.cons_append, List.nil_append, List.append_nil]
  unfold g__law_times
  refine seq_go ?_
  get_elem_tactic_extensible
  refine Go.ifd (fun h => ?_) (fun h => ?_)
  · get_elem_tactic_extensible
    refine Go.mulI_go (mw hb.neg rs) ?_
    refine ⟨by decide, ?_⟩
    get_elem_tactic_extensible
    have e : (-b) * RR D / 2 ^ 420 = rF ((-b) * (-b) * D) := times_ok hD (by omega) (by unfold Sm at hb; omega)
    rw [gF_neg h, ← e] at hq
    exact hq
  · get_elem_tactic_extensible
    refine Go.mulI_go (mw hb rs) ?_
    refine ⟨by decide, ?_⟩
    get_elem_tactic_extensible
    rw [gF_pos (by omega), ← times_ok hD (by omega) (by unfold Sm at hb; omega)] at hq
    exact hq
theorem go_times {D b : Int} {Q : DL.D → Prop} (hD : SF D) (hb : Sm 203 b) (hq : Q (.int (gF D b))) : S__law_times [.sh (fdD D), iS b] Q := ⟨(D, b), rfl, ⟨hD, hb⟩, hq⟩
theorem gcd_loop {Q : D → Prop} (x y : Int) : Int.gcd y (x % y) = Int.gcd x y := gcd_emod x y
theorem r__law_shrunk : ∀ ss (Q : D → Prop), S__law_shrunk ss Q → g__law_shrunk (endsOf Q) (initE N__law_shrunk ss) := by
  rintro ss Q ⟨⟨a, b, c, d⟩, rfl, ⟨hc, h3⟩, hq⟩
  have hc : 0 < c := hc
  have h3 : Sm 4000 c := h3
  have hq : Q (nrm a b c d).D := hq
  simp only [N__law_shrunk, ar4, initE, List.length_cons, List.length_nil, Nat.reduceAdd, Nat.reduceSub, List.replicate, List.cons_append, List.nil_append, List.append_nil]
  unfold g__law_shrunk
  get_elem_tactic_extensible
  have absn : ∀ i : Int, 0 ≤ (if i < 0 then -i else i) := fun i => by split <;> omega
  refine for_of (fun ds ρ => ∃ (g : Int) (ps : List Int) (p : Sl), ds = ps.map PyData.int ∧ ρ = [iS a, iS b, iS c, iS d, iS g, p] ∧ 0 ≤ g ∧ (∀ x ∈ ps, 0 ≤ x) ∧ (ps.foldl (fun g x => ((Int.gcd g x : Nat) : Int)) g) = g3 a b c) ?_ ?_ _ _ ⟨c, [if a < 0 then -a else a, if b < 0 then -b else b], _, rfl, rfl, by omega, ?_, ?_⟩
  · rintro e ds ρ ⟨g, ps, p, he, rfl, g0, pp, hg⟩ K hK
    cases ps with
    | nil => cases he
    | cons x ps =>
      cases he
      get_elem_tactic_extensible
      have x0 := pp x List.mem_cons_self
      refine while_of (fun m ρ => ∃ y z : Int, ρ = [iS a, iS b, iS c, iS d, iS y, iS z] ∧ 0 ≤ y ∧ 0 ≤ z ∧ Int.gcd y z = Int.gcd g x ∧ m = z.toNat) ?_ _ _ ⟨g, x, rfl, g0, x0, rfl, rfl⟩
      rintro m ρ ⟨y, z, rfl, hy, hz, hg2, rfl⟩ L hL
      get_elem_tactic_extensible
      refine Go.ifd (fun h => ?_) (fun h => ?_)
      · get_elem_tactic_extensible
        refine Go.modI_go h ?_
        get_elem_tactic_extensible
        refine ⟨rfl, ?_⟩
        get_elem_tactic_extensible
        refine hL _ _ ?_ ⟨z, y % z, rfl, hz, Int.emod_nonneg y (by omega), by rw [gcd_emod]; exact hg2, rfl⟩
        have := Int.emod_lt_of_pos y h
        have := Int.emod_nonneg y (b := z) (by omega)
        omega
      · have : z = 0 := by omega
        subst this
        refine hK _ ⟨y, ps, _, rfl, rfl, hy, fun w hw => pp w (List.mem_cons_of_mem _ hw), ?_⟩
        rw [List.foldl_cons, ← hg2] at hg
        have : ((Int.gcd y 0 : Nat) : Int) = y := by simp; omega
        rw [this] at hg
        exact hg
  · rintro ρ ⟨g, ps, p, he, rfl, g0, pp, hg⟩
    cases ps with
    | cons x ps => cases he
    | nil =>
      have hg : g = g3 a b c := hg
      subst hg
      have gp := g3_pos (a := a) (b := b) hc
      have gl := g3_log (a := a) (b := b) hc h3
      get_elem_tactic_extensible
      refine Go.divI_go gl gp ?_
      get_elem_tactic_extensible
      refine Go.divI_go gl gp ?_
      get_elem_tactic_extensible
      refine Go.divI_go gl gp ?_
      get_elem_tactic_extensible
      have := fin4 hq
      refine Go.ifd (fun h => ?_) (fun h => ?_)
      · get_elem_tactic_extensible
        rw [if_neg (fun z => z h)] at this
        exact this
      · get_elem_tactic_extensible
        rw [if_pos h] at this
        exact this
  · intro x hx
    simp only [List.mem_cons, List.not_mem_nil, or_false] at hx
    rcases hx with rfl | rfl <;> exact absn _
  · show ((Int.gcd ((Int.gcd c (if a < 0 then -a else a) : Nat) : Int) (if b < 0 then -b else b) : Nat) : Int) = g3 a b c
    rw [abs_gcd, abs_gcd]
    unfold g3
    congr 1
    simp only [Int.gcd, Int.natAbs_natCast]
    rw [Nat.gcd_comm c.natAbs, Nat.gcd_assoc, Nat.gcd_comm c.natAbs, ← Nat.gcd_assoc]
theorem go_shrunk {a b c d : Int} {Q : D → Prop} (hc : 0 < c) (h : Sm 4000 c) (hq : Q (nrm a b c d).D) : S__law_shrunk [iS a, iS b, iS c, iS d] Q := ⟨⟨a, b, c, d⟩, rfl, ⟨hc, h⟩, hq⟩
theorem itQ {p : Prop} [Decidable p] {Q : D → Prop} {x y : Int} (h : Q (.int (if p then x else y))) : if p then Q (.int x) else Q (.int y) := by
  split
  · rename_i z; rw [if_pos z] at h; exact h
  · rename_i z; rw [if_neg z] at h; exact h
theorem r__law_sign : ∀ ss (Q : D → Prop), S__law_sign ss Q → g__law_sign (endsOf Q) (initE N__law_sign ss) := by
  rintro ss Q ⟨⟨a, b, d⟩, rfl, ⟨hd, ha, hb⟩, hq⟩
  have hd : SF d := hd
  have ha : Sm 900 a := ha
  have hb : Sm 900 b := hb
  have hq : Q (.int (sgn a b d)) := hq
  have m1 := mw ha ha
  have m2 := mw hb hb
  have m3 := mw (hb.mul hb) (hd.sm)
  have ns := fun h => no_square hd (a := a) (b := b) h
  unfold sgn at hq
  simp only [N__law_sign, initE, List.length_cons, List.length_nil, Nat.reduceAdd, Nat.reduceSub, List.replicate, List.cons_append, List.nil_append, List.append_nil]
  simp only [g__law_sign, fSeqS, fSet, fSetN, fRet, fIfS, fNext, fBreak, fCont, fNever, fBin, fCmp, fV, fN, fC, lk, lk_z, lk_s, gAdd, gSub, gMul, gDiv, gMod, gPow, gShl, gShlW, gShr, gv, gLt, gLe, gGt, gGe, gEq, gNe, gIx, fNeg, fTV, fNot, fAnd, fOr, fAndV, fOrV, fNotV, fIf, fLN, fLC, fAN, fAC, fAB, fNV, fTup, fCB, bInt, bAbs, bLen, bMax2, bMin2, bTuple, fSeq, seqOf, fCall, fCallK, fAsg, gNm, gsNil, gsCons, gTpl, gSq, fPar, fMV, fMN, setAll, fApp, fExt, fSetIx, fFrz, fForS, fRng1, fRng2, fBits, fON, fOS, fSlT, fSlL, List.set_cons_zero, List.set_cons_succ, List.length_cons, List.length_nil, endsOf, decide_eq_true_eq, true_and, and_true, at0, at1, at2, at3, at4, Bool.not_eq_true', decide_eq_false_iff_not, lg2, Int.reduceLT, ↓reduceIte, m1, m2, m3]
  by_cases p1 : 0 ≤ a
  · by_cases p2 : 0 ≤ b
    · simp only [p1, p2, and_self, if_true] at hq ⊢
      exact itQ hq
    · simp only [p1, p2, and_false, if_true, if_false] at hq ⊢
      by_cases p3 : a ≤ 0
      · have p4 : b ≤ 0 := by omega
        simp only [p3, p4, and_self, if_true] at hq ⊢
        exact hq
      · have p5 : 0 < a := by omega
        simp only [p3, p5, false_and, if_true, if_false, decide_true, decide_eq_true_eq, Bool.false_eq_true] at hq ⊢
        exact itQ hq
  · by_cases p2 : 0 ≤ b
    · have p3 : a ≤ 0 := by omega
      have p5 : ¬ 0 < a := by omega
      by_cases p4 : b ≤ 0
      · have : b = 0 := by omega
        subst this
        simp only [p1, p3, Int.le_refl, and_true, if_true, if_false, Bool.false_eq_true] at hq ⊢
        exact hq
      · have := ns (by omega)
        simp only [p1, p3, p4, p5, false_and, and_false, if_true, if_false, decide_false, decide_eq_false_iff_not, Bool.false_eq_true] at hq ⊢
        by_cases q : a * a < b * b * d
        · rw [if_pos q]
          rw [if_pos (by omega)] at hq
          exact hq
        · rw [if_neg q]
          rw [if_neg (by omega)] at hq
          exact hq
    · have p3 : a ≤ 0 := by omega
      have p4 : b ≤ 0 := by omega
      simp only [p1, p3, p4, false_and, and_self, if_true, if_false, Bool.false_eq_true] at hq ⊢
      exact hq
theorem go_sign {a b d : Int} {Q : D → Prop} (hd : SF d) (ha : Sm 900 a) (hb : Sm 900 b) (hq : Q (.int (sgn a b d))) : S__law_sign [iS a, iS b, iS d] Q := ⟨(a, b, d), rfl, ⟨hd, ha, hb⟩, hq⟩
theorem r__law_is_less : ∀ ss (Q : D → Prop), S__law_is_less ss Q → g__law_is_less (endsOf Q) (initE N__law_is_less ss) := by
  rintro ss Q ⟨⟨D, x, y⟩, rfl, ⟨hd, h, k⟩, hq⟩
  have h : Bd 64 x := h
  have k : Bd 64 y := k
  simp only [N__law_is_less, initE, List.length_cons, List.length_nil, Nat.reduceAdd, Nat.reduceSub, List.replicate, List.cons_append, List.nil_append, List.append_nil]
  simp only [g__law_is_less, fSeqS, fSet, fSetN, fRet, fIfS, fNext, fBreak, fCont, fNever, fBin, fCmp, fV, fN, fC, lk, lk_z, lk_s, gAdd, gSub, gMul, gDiv, gMod, gPow, gShl, gShlW, gShr, gv, gLt, gLe, gGt, gGe, gEq, gNe, gIx, fNeg, fTV, fNot, fAnd, fOr, fAndV, fOrV, fNotV, fIf, fLN, fLC, fAN, fAC, fAB, fNV, fTup, fCB, bInt, bAbs, bLen, bMax2, bMin2, bTuple, fSeq, seqOf, fCall, fCallK, fAsg, gNm, gsNil, gsCons, gTpl, gSq, fPar, fMV, fMN, setAll, fApp, fExt, fSetIx, fFrz, fForS, fRng1, fRng2, fBits, fON, fOS, fSlT, fSlL, List.set_cons_zero, List.set_cons_succ, List.length_cons, List.length_nil, endsOf, decide_eq_true_eq, true_and, and_true, at0, at1, at2, at3, at4, Bool.not_eq_true', decide_eq_false_iff_not, lg2, Int.reduceLT, ↓reduceIte, D4]
  refine ⟨mw h.a k.c, mw k.a h.c, mw h.b k.c, mw k.b h.c, ?_⟩
  refine go_sign hd (((h.a.mul k.c).sub (k.a.mul h.c)).le (by decide)) (((h.b.mul k.c).sub (k.b.mul h.c)).le (by decide)) ?_
  get_elem_tactic_extensible
  exact hq
theorem go_is_less {D : Int} {x y : S4} {Q : DL.D → Prop} (hd : SF D) (h : Bd 64 x) (k : Bd 64 y) (hq : Q (.bool (decide (Lt D x y)))) : S__law_is_less [.sh x.D, .sh y.D, iS D] Q := ⟨(D, x, y), rfl, ⟨hd, h, k⟩, by
  have : decide (sgn (x.a * y.c - y.a * x.c) (x.b * y.c - y.b * x.c) D < 0) = decide (Lt D x y) := by
    have := hd.1
    have := lt_sgn (D := D) (x := x) (y := y) (by omega)
    by_cases z : Lt D x y
    · rw [decide_eq_true z, decide_eq_true (this.mpr z)]
    · rw [decide_eq_false z, decide_eq_false (fun w => z (this.mp w))]
  show Q (.bool (decide (sgn (x.a * y.c - y.a * x.c) (x.b * y.c - y.b * x.c) D < 0)))
  rw [this]; exact hq⟩
end T
end DL
namespace DL
namespace T
open PySem L2 PySem.Spec PyProof.Rows
local macro_rules
  | `(tactic| get_elem_tactic_extensible) => `(tactic| (repeat (first | with_reducible refine Go.lc_go ?_ | with_reducible refine Go.ln_go ?_ | ((with_reducible apply Go.v_sh); exact rfl) | ((with_reducible apply Go.n_sh); exact rfl) | ((with_reducible apply Go.n_ow); exact rfl) | ((with_reducible apply Go.ab_go); exact rfl) | ((with_reducible apply Go.app_go); exact rfl) | ((with_reducible apply Go.ext_go); exact rfl) | with_reducible refine Go.c_go ?_ | with_reducible refine Go.tup_go ?_ | with_reducible refine Go.nv_go ?_ | with_reducible refine Go.bin_go ?_ | with_reducible refine Go.slT_go ?_ | with_reducible refine Go.slL_go ?_ | with_reducible refine Go.on_go ?_ | with_reducible refine Go.os_go ?_ | with_reducible refine Go.neg_go ?_ | with_reducible refine Go.sub_go ?_ | with_reducible refine Go.addI_go ?_ | with_reducible refine Go.seqT_go ?_ | with_reducible refine Go.call_go ?_ | with_reducible refine Go.callK_go ?_ | with_reducible refine Go.cb_go ?_ | with_reducible refine Go.dict1_go ?_ | with_reducible refine Go.if_go ?_ | with_reducible refine Go.an_go ?_ | with_reducible refine Go.ac_go ?_ | with_reducible refine Go.mv_go ?_ | with_reducible refine Go.par_go ?_ | with_reducible refine Go.sq_go ?_ | with_reducible refine Go.set_go ?_ | with_reducible refine Go.setN_go ?_ | with_reducible refine Go.ret_go ?_ | with_reducible refine Go.asg_go ?_ | with_reducible refine Go.ifs_go ?_ | with_reducible refine Go.next_go ?_ | with_reducible refine Go.nm_go ?_ | with_reducible refine Go.cmp_go ?_ | with_reducible refine Go.tv_go ?_ | with_reducible refine Go.not_go ?_ | with_reducible refine Go.and_go ?_ | with_reducible refine Go.or_go ?_ | with_reducible refine Go.lenT_go ?_ | with_reducible refine Go.lenL_go ?_ | with_reducible refine Go.absI_go ?_ | with_reducible refine Go.intI_go ?_ | with_reducible refine Go.max2_go ?_ | with_reducible refine Go.min2_go ?_ | with_reducible refine Go.tupL_go ?_ | with_reducible refine Go.tupT_go ?_ | with_reducible refine Go.gv_go ?_ | with_reducible refine Go.ltI_go ?_ | with_reducible refine Go.leI_go ?_ | with_reducible refine Go.gtI_go ?_ | with_reducible refine Go.geI_go ?_ | with_reducible refine Go.eqI_go ?_ | with_reducible refine Go.neI_go ?_ | with_reducible refine Go.eqS_go ?_ | with_reducible refine Go.rng1_go ?_ | ((first | with_reducible apply Go.ixL_go | with_reducible apply Go.ixT_go); first | exact DL.at0 _ _ | exact DL.at1 _ _ _ | exact DL.at2 _ _ _ _ | exact DL.at3 _ _ _ _ _ | exact DL.at4 _ _ _ _ _ _) | ((with_reducible apply Go.frz_go); exact rfl) | ((with_reducible apply Go.frz_sh); exact rfl) | with_reducible refine Go.mn_go ?_ | with_reducible refine Go.andV_go ?_ | ((first | with_reducible apply Go.sqT_go | with_reducible apply Go.sqL_go); exact rfl) | with_reducible refine Go.gsC_go ?_ | with_reducible refine Go.gsN_go ?_ | with_reducible refine Go.ifT (by decide +kernel) ?_ | with_reducible refine Go.ifF (by decide +kernel) ?_ | with_reducible refine Go.cat_go ?_ | with_reducible refine Go.callO_go ?_ | ((with_reducible apply Go.retO_go); exact rfl) | with_reducible refine Go.retN_go ?_ | with_reducible refine Go.ifN_go ?_ | with_reducible refine Go.yes_go ?_ | with_reducible refine Go.isI_go ?_ | with_reducible refine Go.isB_go ?_ | with_reducible refine Go.isN_go ?_ | with_reducible refine Go.notN_go ?_ | with_reducible refine Go.lrev_go ?_ | with_reducible refine Go.bk_go ?_ | with_reducible refine Go.ct_go ?_ | with_reducible refine Go.rng2_go ?_ | with_reducible refine Go.orV_go ?_ | with_reducible refine Go.notV_go ?_ | ((with_reducible apply Go.setIx_go); exact rfl) | unfold fForS | unfold fLc | dsimp only [seqOf, List.set_cons_zero, List.set_cons_succ, setAll, wipeE])))
theorem go_draw {n : Int} {Q : D → Prop} (h : 0 < n) (hn : n.natAbs.log2 < 9000) (hq : ∀ r : Int, 0 ≤ r → r < n → Q (.int r)) : S__law_draw [.bg, iS n] Q := ⟨n, rfl, h, hn, hq⟩
theorem lg_small {n : Int} (h0 : 0 ≤ n) (h : n < 1099511627776) : n.natAbs.log2 < 9000 := Sm.log (k := 40) (Sm.nat h0 h)
theorem r__law_pick : ∀ ss (Q : D → Prop), S__law_pick ss Q → g__law_pick (endsOf Q) (initE N__law_pick ss) := by
  rintro ss Q ⟨ds, rfl, ⟨hne, hl⟩, hq⟩
  have hq' := fun d (hd : d ∈ ds) => hq d hd
  have pos : 0 < ds.length := List.length_pos_iff.mpr hne
  simp only [N__law_pick, initE, List.length_cons, List.length_nil, Nat.reduceAdd, Nat.reduceSub, List.replicate, List.cons_append, List.nil_append, List.append_nil]
  simp only [g__law_pick, fSeqS, fSet, fSetN, fRet, fIfS, fNext, fBreak, fCont, fNever, fBin, fCmp, fV, fN, fC, lk, lk_z, lk_s, gAdd, gSub, gMul, gDiv, gMod, gPow, gShl, gShlW, gShr, gv, gLt, gLe, gGt, gGe, gEq, gNe, gIx, fNeg, fTV, fNot, fAnd, fOr, fAndV, fOrV, fNotV, fIf, fLN, fLC, fAN, fAC, fAB, fNV, fTup, fCB, bInt, bAbs, bLen, bMax2, bMin2, bTuple, fSeq, seqOf, fCall, fCallK, fAsg, gNm, gsNil, gsCons, gTpl, gSq, fPar, fMV, fMN, setAll, fApp, fExt, fSetIx, fFrz, fForS, fRng1, fRng2, fBits, fON, fOS, fSlT, fSlL, List.set_cons_zero, List.set_cons_succ, List.length_cons, List.length_nil, endsOf, decide_eq_true_eq, true_and, and_true, at0, at1, at2, at3, at4, Bool.not_eq_true', decide_eq_false_iff_not, lg2, Int.reduceLT, ↓reduceIte]
  refine go_draw (by omega) (lg_small (by omega) (by omega)) fun r h0 h1 => ?_
  obtain ⟨j, rfl⟩ : ∃ j : Nat, r = (j : Int) := ⟨r.toNat, by omega⟩
  have hj : j < ds.length := by omega
  have e : atI ds ((j : Nat) : Int) = some ds[j] := atI_nat (List.getElem?_eq_getElem hj)
  simp only [fSeqS, fSet, fSetN, fRet, fIfS, fNext, fBreak, fCont, fNever, fBin, fCmp, fV, fN, fC, lk, lk_z, lk_s, gAdd, gSub, gMul, gDiv, gMod, gPow, gShl, gShlW, gShr, gv, gLt, gLe, gGt, gGe, gEq, gNe, gIx, fNeg, fTV, fNot, fAnd, fOr, fAndV, fOrV, fNotV, fIf, fLN, fLC, fAN, fAC, fAB, fNV, fTup, fCB, bInt, bAbs, bLen, bMax2, bMin2, bTuple, fSeq, seqOf, fCall, fCallK, fAsg, gNm, gsNil, gsCons, gTpl, gSq, fPar, fMV, fMN, setAll, fApp, fExt, fSetIx, fFrz, fForS, fRng1, fRng2, fBits, fON, fOS, fSlT, fSlL, List.set_cons_zero, List.set_cons_succ, List.length_cons, List.length_nil, endsOf, decide_eq_true_eq, true_and, and_true, at0, at1, at2, at3, at4, Bool.not_eq_true', decide_eq_false_iff_not, lg2, Int.reduceLT, ↓reduceIte, e]
  exact hq' _ (List.getElem_mem hj)
theorem go_pick {ds : List D} {Q : D → Prop} (h1 : ds ≠ []) (h2 : ds.length < 1000) (hq : ∀ d ∈ ds, Q d) : S__law_pick [.bg, .sh (.list ds)] Q := ⟨ds, rfl, ⟨h1, h2⟩, hq⟩
theorem pw {k : Nat} (h : k ≤ 1000) : CPow 10 ((k : Nat) : Int) := ⟨by omega, by omega, by decide⟩
theorem pw8 : CPow 10 8 := pw (k := 8) (by decide)
theorem pw4 : CPow 10 4 := pw (k := 4) (by decide)
theorem pw12 : CPow 10 12 := pw (k := 12) (by decide)
theorem pw11 : CPow 10 11 := pw (k := 11) (by decide)
theorem pw6 : CPow 10 6 := pw (k := 6) (by decide)
theorem pw5 : CPow 10 5 := pw (k := 5) (by decide)
theorem pw10 : CPow 10 10 := pw (k := 10) (by decide)
theorem tp4 : (10 : Int) ^ (4 : Int).toNat = 10000 := by decide
theorem tp5 : (10 : Int) ^ (5 : Int).toNat = 100000 := by decide
theorem tp6 : (10 : Int) ^ (6 : Int).toNat = 1000000 := by decide
theorem tp8 : (10 : Int) ^ (8 : Int).toNat = 100000000 := by decide
theorem tp10 : (10 : Int) ^ (10 : Int).toNat = 10000000000 := by decide
theorem tp11 : (10 : Int) ^ (11 : Int).toNat = 100000000000 := by decide
theorem tp12 : (10 : Int) ^ (12 : Int).toNat = 1000000000000 := by decide
theorem pw9 : CPow 10 9 := pw (k := 9) (by decide)
theorem pw30 : CPow 10 30 := pw (k := 30) (by decide)
theorem tp9 : (10 : Int) ^ (9 : Int).toNat = 1000000000 := by decide
theorem tp30 : (10 : Int) ^ (30 : Int).toNat = 1000000000000000000000000000000 := by decide
theorem r__law_own_bag : ∀ ss (Q : D → Prop), S__law_own_bag ss Q → g__law_own_bag (endsOf Q) (initE N__law_own_bag ss) := by
  rintro ss Q ⟨rfl, hq⟩
  simp only [N__law_own_bag, initE, List.length_cons, List.length_nil, Nat.reduceAdd, Nat.reduceSub, List.replicate, List.cons_append, List.nil_append, List.append_nil]
  unfold g__law_own_bag
  refine seq_go ?_
  simp only [fSeqS, fSet, fSetN, fRet, fIfS, fNext, fBreak, fCont, fNever, fBin, fCmp, fV, fN, fC, lk, lk_z, lk_s, gAdd, gSub, gMul, gDiv, gMod, gPow, gShl, gShlW, gShr, gv, gLt, gLe, gGt, gGe, gEq, gNe, gIx, fNeg, fTV, fNot, fAnd, fOr, fAndV, fOrV, fNotV, fIf, fLN, fLC, fAN, fAC, fAB, fNV, fTup, fCB, bInt, bAbs, bLen, bMax2, bMin2, bTuple, fSeq, seqOf, fCall, fCallK, fAsg, gNm, gsNil, gsCons, gTpl, gSq, fPar, fMV, fMN, setAll, fApp, fExt, fSetIx, fFrz, fForS, fRng1, fRng2, fBits, fON, fOS, fSlT, fSlL, List.set_cons_zero, List.set_cons_succ, List.length_cons, List.length_nil, endsOf, decide_eq_true_eq, true_and, and_true, at0, at1, at2, at3, at4, Bool.not_eq_true', decide_eq_false_iff_not, lg2, Int.reduceLT, ↓reduceIte, fLc, fScr, wipeE]
  intro ms hml
  refine ⟨by rw [List.length_map]; exact hml, ?_⟩
  refine lc_of (fun ds K => ∃ m : List Int, ds = m.map PyData.int ∧ ∀ cs : List Int, cs.length ≤ m.length → (∀ x ∈ cs, 0 ≤ x) → K (cs.map PyData.int)) ?_ ?_ _ _ ⟨ms, rfl, ?_⟩
  · rintro d ds K ⟨m, e, hK⟩ L hL
    cases m with
    | nil => cases e
    | cons i m =>
      cases e
      simp only [fSeqS, fSet, fSetN, fRet, fIfS, fNext, fBreak, fCont, fNever, fBin, fCmp, fV, fN, fC, lk, lk_z, lk_s, gAdd, gSub, gMul, gDiv, gMod, gPow, gShl, gShlW, gShr, gv, gLt, gLe, gGt, gGe, gEq, gNe, gIx, fNeg, fTV, fNot, fAnd, fOr, fAndV, fOrV, fNotV, fIf, fLN, fLC, fAN, fAC, fAB, fNV, fTup, fCB, bInt, bAbs, bLen, bMax2, bMin2, bTuple, fSeq, seqOf, fCall, fCallK, fAsg, gNm, gsNil, gsCons, gTpl, gSq, fPar, fMV, fMN, setAll, fApp, fExt, fSetIx, fFrz, fForS, fRng1, fRng2, fBits, fON, fOS, fSlT, fSlL, List.set_cons_zero, List.set_cons_succ, List.length_cons, List.length_nil, endsOf, decide_eq_true_eq, true_and, and_true, at0, at1, at2, at3, at4, Bool.not_eq_true', decide_eq_false_iff_not, lg2, Int.reduceLT, ↓reduceIte, fYes]
      refine hL _ ⟨m, rfl, fun cs hl h => hK ((if i < 0 then -i else i) :: cs) (by simp only [List.length_cons]; omega) fun x hx => ?_⟩
      rcases List.mem_cons.mp hx with rfl | hx
      · split <;> omega
      · exact h x hx
  · rintro K ⟨m, e, hK⟩
    cases m with
    | nil => exact hK [] (Nat.le_refl _) fun x hx => by cases hx
    | cons q m => cases e
  intro cs hcl hcs
  have hcl : cs.length ≤ 4000000 := Nat.le_trans hcl hml
  refine for_of (fun ds ρ => ∃ (c : List Int) (m : Int) (s : Sl), ds = c.map PyData.int ∧ ρ = [.bg, .sh (.list (cs.map PyData.int)), s, iS m] ∧ 0 ≤ m ∧ m < 2147483647) ?_ ?_ _ _ ⟨cs, _, _, rfl, rfl, by omega, by rw [List.length_map]; omega⟩
  · rintro d ds ρ ⟨c, m, s, e, rfl, m0, m1⟩ K hK
    cases c with
    | nil => cases e
    | cons x c =>
      cases e
      have sm : Sm 31 m := Sm.nat m0 (by omega)
      have sk : Sm 17 48271 := Sm.nat (by decide) (by decide)
      simp only [fSeqS, fSet, fSetN, fRet, fIfS, fNext, fBreak, fCont, fNever, fBin, fCmp, fV, fN, fC, lk, lk_z, lk_s, gAdd, gSub, gMul, gDiv, gMod, gPow, gShl, gShlW, gShr, gv, gLt, gLe, gGt, gGe, gEq, gNe, gIx, fNeg, fTV, fNot, fAnd, fOr, fAndV, fOrV, fNotV, fIf, fLN, fLC, fAN, fAC, fAB, fNV, fTup, fCB, bInt, bAbs, bLen, bMax2, bMin2, bTuple, fSeq, seqOf, fCall, fCallK, fAsg, gNm, gsNil, gsCons, gTpl, gSq, fPar, fMV, fMN, setAll, fApp, fExt, fSetIx, fFrz, fForS, fRng1, fRng2, fBits, fON, fOS, fSlT, fSlL, List.set_cons_zero, List.set_cons_succ, List.length_cons, List.length_nil, endsOf, decide_eq_true_eq, true_and, and_true, at0, at1, at2, at3, at4, Bool.not_eq_true', decide_eq_false_iff_not, lg2, Int.reduceLT, ↓reduceIte]
      have r0 := Int.emod_nonneg x (b := 2147483629) (by decide)
      refine ⟨mw sm sk, hK _ ⟨c, _, _, rfl, rfl, Int.emod_nonneg _ (by decide), Int.emod_lt_of_pos _ (by decide)⟩⟩
  · rintro ρ ⟨c, m, s, _, rfl, m0, m1⟩
    simp only [fSeqS, fSet, fSetN, fRet, fIfS, fNext, fBreak, fCont, fNever, fBin, fCmp, fV, fN, fC, lk, lk_z, lk_s, gAdd, gSub, gMul, gDiv, gMod, gPow, gShl, gShlW, gShr, gv, gLt, gLe, gGt, gGe, gEq, gNe, gIx, fNeg, fTV, fNot, fAnd, fOr, fAndV, fOrV, fNotV, fIf, fLN, fLC, fAN, fAC, fAB, fNV, fTup, fCB, bInt, bAbs, bLen, bMax2, bMin2, bTuple, fSeq, seqOf, fCall, fCallK, fAsg, gNm, gsNil, gsCons, gTpl, gSq, fPar, fMV, fMN, setAll, fApp, fExt, fSetIx, fFrz, fForS, fRng1, fRng2, fBits, fON, fOS, fSlT, fSlL, List.set_cons_zero, List.set_cons_succ, List.length_cons, List.length_nil, endsOf, decide_eq_true_eq, true_and, and_true, at0, at1, at2, at3, at4, Bool.not_eq_true', decide_eq_false_iff_not, lg2, Int.reduceLT, ↓reduceIte, fLRev]
    have := hq cs.reverse m (fun x hx => hcs x (List.mem_reverse.mp hx)) m0 m1
    rwa [List.map_reverse] at this
end T
end DL
namespace DL
namespace T
open PySem L2 PySem.Spec PyProof.Rows
local macro_rules
  | `(tactic| get_elem_tactic_extensible) => `(tactic| (repeat (first | with_reducible refine Go.lc_go ?_ | with_reducible refine Go.ln_go ?_ | ((with_reducible apply Go.v_sh); exact rfl) | ((with_reducible apply Go.n_sh); exact rfl) | ((with_reducible apply Go.n_ow); exact rfl) | ((with_reducible apply Go.ab_go); exact rfl) | ((with_reducible apply Go.app_go); exact rfl) | ((with_reducible apply Go.ext_go); exact rfl) | with_reducible refine Go.c_go ?_ | with_reducible refine Go.tup_go ?_ | with_reducible refine Go.nv_go ?_ | with_reducible refine Go.bin_go ?_ | with_reducible refine Go.slT_go ?_ | with_reducible refine Go.slL_go ?_ | with_reducible refine Go.on_go ?_ | with_reducible refine Go.os_go ?_ | with_reducible refine Go.neg_go ?_ | with_reducible refine Go.sub_go ?_ | with_reducible refine Go.addI_go ?_ | with_reducible refine Go.seqT_go ?_ | with_reducible refine Go.call_go ?_ | with_reducible refine Go.callK_go ?_ | with_reducible refine Go.cb_go ?_ | with_reducible refine Go.dict1_go ?_ | with_reducible refine Go.if_go ?_ | with_reducible refine Go.an_go ?_ | with_reducible refine Go.ac_go ?_ | with_reducible refine Go.mv_go ?_ | with_reducible refine Go.par_go ?_ | with_reducible refine Go.sq_go ?_ | with_reducible refine Go.set_go ?_ | with_reducible refine Go.setN_go ?_ | with_reducible refine Go.ret_go ?_ | with_reducible refine Go.asg_go ?_ | with_reducible refine Go.ifs_go ?_ | with_reducible refine Go.next_go ?_ | with_reducible refine Go.nm_go ?_ | with_reducible refine Go.cmp_go ?_ | with_reducible refine Go.tv_go ?_ | with_reducible refine Go.not_go ?_ | with_reducible refine Go.and_go ?_ | with_reducible refine Go.or_go ?_ | with_reducible refine Go.lenT_go ?_ | with_reducible refine Go.lenL_go ?_ | with_reducible refine Go.absI_go ?_ | with_reducible refine Go.intI_go ?_ | with_reducible refine Go.max2_go ?_ | with_reducible refine Go.min2_go ?_ | with_reducible refine Go.tupL_go ?_ | with_reducible refine Go.tupT_go ?_ | with_reducible refine Go.gv_go ?_ | with_reducible refine Go.ltI_go ?_ | with_reducible refine Go.leI_go ?_ | with_reducible refine Go.gtI_go ?_ | with_reducible refine Go.geI_go ?_ | with_reducible refine Go.eqI_go ?_ | with_reducible refine Go.neI_go ?_ | with_reducible refine Go.eqS_go ?_ | with_reducible refine Go.rng1_go ?_ | ((first | with_reducible apply Go.ixL_go | with_reducible apply Go.ixT_go); first | exact DL.at0 _ _ | exact DL.at1 _ _ _ | exact DL.at2 _ _ _ _ | exact DL.at3 _ _ _ _ _ | exact DL.at4 _ _ _ _ _ _) | ((with_reducible apply Go.frz_go); exact rfl) | ((with_reducible apply Go.frz_sh); exact rfl) | with_reducible refine Go.mn_go ?_ | with_reducible refine Go.andV_go ?_ | ((first | with_reducible apply Go.sqT_go | with_reducible apply Go.sqL_go); exact rfl) | with_reducible refine Go.gsC_go ?_ | with_reducible refine Go.gsN_go ?_ | with_reducible refine Go.ifT (by decide +kernel) ?_ | with_reducible refine Go.ifF (by decide +kernel) ?_ | with_reducible refine Go.cat_go ?_ | with_reducible refine Go.callO_go ?_ | ((with_reducible apply Go.retO_go); exact rfl) | with_reducible refine Go.retN_go ?_ | with_reducible refine Go.ifN_go ?_ | with_reducible refine Go.yes_go ?_ | with_reducible refine Go.isI_go ?_ | with_reducible refine Go.isB_go ?_ | with_reducible refine Go.isN_go ?_ | with_reducible refine Go.notN_go ?_ | with_reducible refine Go.lrev_go ?_ | with_reducible refine Go.bk_go ?_ | with_reducible refine Go.ct_go ?_ | with_reducible refine Go.rng2_go ?_ | with_reducible refine Go.orV_go ?_ | with_reducible refine Go.notV_go ?_ | ((with_reducible apply Go.setIx_go); exact rfl) | unfold fForS | unfold fLc | dsimp only [seqOf, List.set_cons_zero, List.set_cons_succ, setAll, wipeE])))
theorem sqd_nn {b d : Int} (h : 0 ≤ d) : 0 ≤ b * b * d := Int.mul_nonneg (by
  rcases Int.le_total 0 b with h | h
  · exact Int.mul_nonneg h h
  · have := Int.mul_nonneg (a := -b) (b := -b) (by omega) (by omega)
    rwa [Int.neg_mul_neg] at this) h
theorem rF_le {b d : Int} (h0 : 0 ≤ d) (h1 : d ≤ 1000001) : rF (b * b * d) ≤ 1001 * (b.natAbs : Int) := by
  obtain ⟨p, q, r⟩ := rF_sq (sqd_nn (b := b) h0)
  have e : b * b = (b.natAbs : Int) * (b.natAbs : Int) := (Int.natAbs_mul_self' b).symm
  rw [e] at p q r ⊢
  have hx0 : 0 ≤ (b.natAbs : Int) := by omega
  generalize (b.natAbs : Int) = x at p q r hx0 ⊢
  refine sq_le p (by omega) (Int.le_trans q ?_)
  have h : x * x * d ≤ x * x * 1002001 := Int.mul_le_mul_of_nonneg_left (by omega) (Int.mul_nonneg hx0 hx0)
  have e2 : 1001 * x * (1001 * x) = x * x * 1002001 := by
    rw [mul4 1001 x 1001 x, Int.mul_comm]; rfl
  omega
theorem gF_50 {D b : Int} (hD : SF D) (hb : -1000000000001 ≤ b ∧ b ≤ 1000000000001) : Sm 50 (gF D b) := by
  have d1 := hD.1
  have d2 := hD.2.1
  have h := rF_le (b := b) (d := D) (by omega) d2
  have n : 0 ≤ b * b * D := Int.mul_nonneg (by
    rcases Int.le_total 0 b with h | h
    · exact Int.mul_nonneg h h
    · have := Int.mul_nonneg (a := -b) (b := -b) (by omega) (by omega)
      rwa [Int.neg_mul_neg] at this) (by omega)
  have p := (rF_sq n).1
  unfold gF Sm
  split <;> omega
theorem slp_of {a b c D : Int} (hD : 0 ≤ D) (c0 : 0 < c) (lo : nn D a b) (hi : ¬ nn D (a - c) b) (pos : b = 0 → 0 < a) : Slp D (nrm a b c D) := by
  obtain ⟨h1, h2, h3⟩ := nrm_back (a := a) (b := b) (c := c) D
  have gp := g3_pos (a := a) (b := b) c0
  generalize nrm a b c D = x at *
  generalize g3 a b c = g at *
  have e : a - c = g * (x.a - x.c) := by rw [Int.mul_sub, ← h1, ← h3]
  have lo' : nn D x.a x.b := by rw [h1, h2] at lo; exact (nn_scale hD gp).mp lo
  have hi' : ¬ nn D (x.a - x.c) x.b := fun z => hi (by rw [e, h2]; exact (nn_scale hD gp).mpr z)
  refine ⟨lo', by unfold nn at hi'; omega, fun z => ?_⟩
  have := pos (by rw [h2, z, Int.mul_zero])
  rw [h1] at this
  apply Classical.byContradiction
  intro w
  have := Int.mul_le_mul_of_nonneg_left (a := x.a) (b := 0) (c := g) (by omega) (by omega)
  omega
theorem r__law_is_small : ∀ ss (Q : D → Prop), S__law_is_small ss Q → g__law_is_small (endsOf Q) (initE N__law_is_small ss) := by
  rintro ss Q ⟨s, rfl, h, hq⟩
  simp only [N__law_is_small, arS, D4, initE, List.length_cons, List.length_nil, Nat.reduceAdd, Nat.reduceSub, List.replicate, List.cons_append, List.nil_append, List.append_nil]
  simp only [g__law_is_small, bMax3, fSeqS, fSet, fSetN, fRet, fIfS, fNext, fBreak, fCont, fNever, fBin, fCmp, fV, fN, fC, lk, lk_z, lk_s, gAdd, gSub, gMul, gDiv, gMod, gPow, gShl, gShlW, gShr, gv, gLt, gLe, gGt, gGe, gEq, gNe, gIx, fNeg, fTV, fNot, fAnd, fOr, fAndV, fOrV, fNotV, fIf, fLN, fLC, fAN, fAC, fAB, fNV, fTup, fCB, bInt, bAbs, bLen, bMax2, bMin2, bTuple, fSeq, seqOf, fCall, fCallK, fAsg, gNm, gsNil, gsCons, gTpl, gSq, fPar, fMV, fMN, setAll, fApp, fExt, fSetIx, fFrz, fForS, fRng1, fRng2, fBits, fON, fOS, fSlT, fSlL, List.set_cons_zero, List.set_cons_succ, List.length_cons, List.length_nil, endsOf, decide_eq_true_eq, true_and, and_true, at0, at1, at2, at3, at4, Bool.not_eq_true', decide_eq_false_iff_not, lg2, Int.reduceLT, ↓reduceIte, pw12, tp12]
  exact hq
theorem small_ok {s : S4} (h : smallB s = true) : s.a.natAbs ≤ 1000000000000 ∧ s.b.natAbs ≤ 1000000000000 ∧ s.c ≤ 1000000000000 := by
  unfold smallB at h
  have h := of_decide_eq_true h
  unfold mx2 at h
  refine ⟨?_, ?_, ?_⟩ <;> (repeat (split at h)) <;> omega
theorem go_is_small {s : S4} {Q : D → Prop} (h : 0 < s.c) (hq : Q (.bool (smallB s))) : S__law_is_small [.sh s.D] Q := ⟨s, rfl, h, hq⟩
theorem mv_sm {s h : S4} {n m : Int} (a : Bd 64 s) (b : Bd 64 h) (k : Sm 101 n) (l : Sm 101 m) : Bd 240 (mv s h n m) := by
  obtain ⟨d0, d1⟩ := mx_ok a.d0 a.d b.d0 b.d
  refine nrm_bd (((((k.mul a.a).mul b.c).le (l := 238) (by omega)).add ((b.a.mul a.c).le (by omega))).add ((l.mul (a.c.mul b.c)).le (by omega))) ((((k.mul a.b).mul b.c).le (l := 239) (by omega)).add ((b.b.mul a.c).le (by omega))) ((a.c.mul b.c).le (by omega)) (Int.mul_pos a.c0 b.c0) d0 d1
theorem r__law_moved : ∀ ss (Q : D → Prop), S__law_moved ss Q → g__law_moved (endsOf Q) (initE N__law_moved ss) := by
  rintro ss Q ⟨⟨s, h, n, m⟩, rfl, ⟨a, b, k, l⟩, hq⟩
  have a : Bd 64 s := a
  have b : Bd 64 h := b
  have k : Sm 101 n := k
  have l : Sm 101 m := l
  have hq : Q (mv s h n m).D := hq
  simp only [N__law_moved, D4, initE, List.length_cons, List.length_nil, Nat.reduceAdd, Nat.reduceSub, List.replicate, List.cons_append, List.nil_append, List.append_nil]
  simp only [g__law_moved, fSeqS, fSet, fSetN, fRet, fIfS, fNext, fBreak, fCont, fNever, fBin, fCmp, fV, fN, fC, lk, lk_z, lk_s, gAdd, gSub, gMul, gDiv, gMod, gPow, gShl, gShlW, gShr, gv, gLt, gLe, gGt, gGe, gEq, gNe, gIx, fNeg, fTV, fNot, fAnd, fOr, fAndV, fOrV, fNotV, fIf, fLN, fLC, fAN, fAC, fAB, fNV, fTup, fCB, bInt, bAbs, bLen, bMax2, bMin2, bTuple, fSeq, seqOf, fCall, fCallK, fAsg, gNm, gsNil, gsCons, gTpl, gSq, fPar, fMV, fMN, setAll, fApp, fExt, fSetIx, fFrz, fForS, fRng1, fRng2, fBits, fON, fOS, fSlT, fSlL, List.set_cons_zero, List.set_cons_succ, List.length_cons, List.length_nil, endsOf, decide_eq_true_eq, true_and, and_true, at0, at1, at2, at3, at4, Bool.not_eq_true', decide_eq_false_iff_not, lg2, Int.reduceLT, ↓reduceIte]
  refine ⟨mw a.c b.c, mw k a.a, mw (k.mul a.a) b.c, mw b.a a.c, mw l (a.c.mul b.c), mw k a.b, mw (k.mul a.b) b.c, mw b.b a.c, ?_⟩
  exact go_shrunk (Int.mul_pos a.c0 b.c0) ((a.c.mul b.c).le (by decide)) hq
theorem go_moved {s h : S4} {n m : Int} {Q : D → Prop} (a : Bd 64 s) (b : Bd 64 h) (k : Sm 101 n) (l : Sm 101 m) (hq : Q (mv s h n m).D) : S__law_moved [.sh s.D, .sh h.D, iS n, iS m] Q := ⟨(s, h, n, m), rfl, ⟨a, b, k, l⟩, hq⟩
theorem sq_not {t d : Int} (h : 0 < d) (k : d < t * t) : ¬ t * t ∣ d := fun z => by
  have := Int.le_of_dvd h z
  omega
theorem r__law_field : ∀ ss (Q : D → Prop), S__law_field ss Q → g__law_field (endsOf Q) (initE N__law_field ss) := by
  rintro ss Q ⟨_, rfl, _, hq⟩
  simp only [N__law_field, initE, List.length_cons, List.length_nil, Nat.reduceAdd, Nat.reduceSub, List.replicate, List.cons_append, List.nil_append, List.append_nil]
  unfold g__law_field
  get_elem_tactic_extensible
  refine go_pick (by simp) (by simp) fun x hx => ?_
  obtain ⟨m, rfl, m0, m1⟩ : ∃ m : Int, x = .int m ∧ 0 < m ∧ m ≤ 999998 := by
    simp only [List.mem_cons, List.not_mem_nil, or_false] at hx
    rcases hx with rfl | rfl | rfl | rfl | rfl <;> exact ⟨_, rfl, by decide, by decide⟩
  clear hx
  get_elem_tactic_extensible
  refine go_draw m0 (lg_small (by omega) (by omega)) fun r r0 r1 => ?_
  get_elem_tactic_extensible
  refine ⟨⟨by decide, by decide, by decide, by decide⟩, ?_⟩
  have fin : ∀ d : Int, 1 ≤ d → d ≤ 999999 → (∀ t : Int, 2 ≤ t → ¬ t * t ∣ d) → ∀ (k : Sl),
      fSeqS (fIfS (fCmp gEq (fN 1) (fC (.int 1))) (fSet 1 (fC (.int 2))) fNext) (fRet (fTup (fLC (fV 1) (fLC (fCall S__law_whole_root (fAC (fBin gShlW (fN 1) (fC (.int 840))) fAN)) fLN)))) (endsOf Q) [.bg, iS d, k] := by
    intro d d0 d1 hs k
    have last : ∀ e : Int, SF e → (fRet (fTup (fLC (fV 1) (fLC (fCall S__law_whole_root (fAC (fBin gShlW (fN 1) (fC (.int 840))) fAN)) fLN)))) (endsOf Q) [.bg, iS e, k] := by
      intro e he
      have e0 := he.1
      have e1 := he.2.1
      get_elem_tactic_extensible
      refine ⟨?_, ?_⟩
      · refine ⟨by decide, ?_⟩
        have hb : Builtin.Int.intBits e ≤ 20 := by
          obtain ⟨j, rfl⟩ : ∃ j : Nat, e = (j : Int) := ⟨e.toNat, by omega⟩
          refine bits_le (by decide) ?_
          have : (2 : Nat) ^ 20 = 1048576 := by decide
          omega
        have : ((840 : Int).toNat) = 840 := rfl
        omega
      · refine go__law_whole_root (Int.mul_nonneg (by omega) (by decide)) ((he.sm.mul (show Sm 841 (2 ^ (840 : Int).toNat : Int) by unfold Sm; decide)).le (by decide)) ?_
        get_elem_tactic_extensible
        exact hq e he
    get_elem_tactic_extensible
    refine Go.ifd (fun h => ?_) (fun h => ?_)
    · get_elem_tactic_extensible
      refine last 2 ⟨by decide, by decide, fun t ht => sq_not (by decide) ?_⟩
      have := Int.mul_le_mul (a := 2) (b := 2) (c := t) (d := t) ht ht (by decide) (by omega)
      omega
    · get_elem_tactic_extensible
      exact last d ⟨by omega, by omega, hs⟩
  refine for_rng (fun i ρ => ∃ (d : Int) (k : Sl), ρ = [.bg, iS d, k] ∧ 1 ≤ d ∧ d ≤ 999999 ∧ ∀ t : Int, 2 ≤ t → t < i → ¬ t * t ∣ d) _ _ _ ?_ ?_ ⟨2 + r, _, rfl, by omega, by omega, fun t h1 h2 => by omega⟩
  · rintro i ρ i2 i3 ⟨d, k, rfl, d0, d1, hs⟩ K hK
    have i3 : i < 1000 := by
      have : ((1000 : Int) - 2).toNat = 998 := rfl
      omega
    have mi : CMulW i i := mw (Sm.nat (k := 10) (by omega) (by omega)) (Sm.nat (k := 10) (by omega) (by omega))
    get_elem_tactic_extensible
    refine Go.mulI_go mi ?_
    get_elem_tactic_extensible
    refine Go.ifd (fun h => ?_) (fun h => ?_)
    · get_elem_tactic_extensible
      refine fin d d0 d1 (fun t ht => ?_) _
      by_cases z : t < i
      · exact hs t ht z
      · refine sq_not (by omega) ?_
        have := Int.mul_le_mul (a := i) (b := i) (c := t) (d := t) (by omega) (by omega) (by omega) (by omega)
        omega
    · get_elem_tactic_extensible
      refine while_of (fun m ρ => ∃ d : Int, ρ = [.bg, iS d, iS i] ∧ 1 ≤ d ∧ d ≤ 999999 ∧ (∀ t : Int, 2 ≤ t → t < i → ¬ t * t ∣ d) ∧ m = d.toNat) ?_ _ _ ⟨d, rfl, d0, d1, hs, rfl⟩
      rintro m ρ ⟨d, rfl, d0, d1, hs, rfl⟩ L hL
      have ii : 4 ≤ i * i := Int.mul_le_mul (a := 2) (b := 2) (c := i) (d := i) i2 i2 (by decide) (by omega)
      get_elem_tactic_extensible
      refine Go.mulI_go mi ?_
      refine Go.modI_go (by omega) ?_
      get_elem_tactic_extensible
      refine Go.ifd (fun h => ?_) (fun h => ?_)
      · get_elem_tactic_extensible
        refine Go.mulI_go mi ?_
        have lg : (i * i).natAbs.log2 < 9000 := Sm.log (k := 20) ((Sm.nat (k := 10) (i := i) (by omega) (by omega)).mul (Sm.nat (k := 10) (i := i) (by omega) (by omega)))
        refine Go.divI_go lg (by omega) ?_
        get_elem_tactic_extensible
        have dv : i * i ∣ d := Int.dvd_of_emod_eq_zero h
        obtain ⟨q, rfl⟩ := dv
        rw [Int.mul_ediv_cancel_left _ (by omega)]
        have q0 : 0 < q := by
          apply Classical.byContradiction
          intro z
          have := Int.mul_le_mul_of_nonneg_left (a := q) (b := 0) (c := i * i) (by omega) (by omega)
          omega
        have q4 : 4 * q ≤ i * i * q := Int.mul_le_mul_of_nonneg_right ii (by omega)
        exact hL _ _ (by omega) ⟨q, rfl, by omega, by omega, fun t h1 h2 z => hs t h1 h2 (Int.dvd_trans z ⟨i * i, Int.mul_comm _ _⟩), rfl⟩
      · refine hK _ ⟨d, _, rfl, d0, d1, fun t h1 h2 => ?_⟩
        by_cases z : t < i
        · exact hs t h1 z
        · have : t = i := by omega
          subst this
          exact fun w => h (Int.emod_eq_zero_of_dvd w)
  · rintro ρ ⟨d, k, rfl, d0, d1, hs⟩
    refine fin d d0 d1 (fun t ht => ?_) _
    by_cases z : t < 1000
    · refine hs t ht ?_
      have : ((1000 : Int) - 2).toNat = 998 := rfl
      omega
    · refine sq_not (by omega) ?_
      have := Int.mul_le_mul (a := 1000) (b := 1000) (c := t) (d := t) (by omega) (by omega) (by omega) (by omega)
      omega
theorem go_field {Q : D → Prop} (hq : ∀ d : Int, SF d → Q (fdD d)) : S__law_field [.bg] Q := ⟨(), rfl, trivial, hq⟩
end T
end DL
namespace DL
namespace T
open PySem L2 PySem.Spec PyProof.Rows
local macro_rules
  | `(tactic| get_elem_tactic_extensible) => `(tactic| (repeat (first | with_reducible refine Go.lc_go ?_ | with_reducible refine Go.ln_go ?_ | ((with_reducible apply Go.v_sh); exact rfl) | ((with_reducible apply Go.n_sh); exact rfl) | ((with_reducible apply Go.n_ow); exact rfl) | ((with_reducible apply Go.ab_go); exact rfl) | ((with_reducible apply Go.app_go); exact rfl) | ((with_reducible apply Go.ext_go); exact rfl) | with_reducible refine Go.c_go ?_ | with_reducible refine Go.tup_go ?_ | with_reducible refine Go.nv_go ?_ | with_reducible refine Go.bin_go ?_ | with_reducible refine Go.slT_go ?_ | with_reducible refine Go.slL_go ?_ | with_reducible refine Go.on_go ?_ | with_reducible refine Go.os_go ?_ | with_reducible refine Go.neg_go ?_ | with_reducible refine Go.sub_go ?_ | with_reducible refine Go.addI_go ?_ | with_reducible refine Go.seqT_go ?_ | with_reducible refine Go.call_go ?_ | with_reducible refine Go.callK_go ?_ | with_reducible refine Go.cb_go ?_ | with_reducible refine Go.dict1_go ?_ | with_reducible refine Go.if_go ?_ | with_reducible refine Go.an_go ?_ | with_reducible refine Go.ac_go ?_ | with_reducible refine Go.mv_go ?_ | with_reducible refine Go.par_go ?_ | with_reducible refine Go.sq_go ?_ | with_reducible refine Go.set_go ?_ | with_reducible refine Go.setN_go ?_ | with_reducible refine Go.ret_go ?_ | with_reducible refine Go.asg_go ?_ | with_reducible refine Go.ifs_go ?_ | with_reducible refine Go.next_go ?_ | with_reducible refine Go.nm_go ?_ | with_reducible refine Go.cmp_go ?_ | with_reducible refine Go.tv_go ?_ | with_reducible refine Go.not_go ?_ | with_reducible refine Go.and_go ?_ | with_reducible refine Go.or_go ?_ | with_reducible refine Go.lenT_go ?_ | with_reducible refine Go.lenL_go ?_ | with_reducible refine Go.absI_go ?_ | with_reducible refine Go.intI_go ?_ | with_reducible refine Go.max2_go ?_ | with_reducible refine Go.min2_go ?_ | with_reducible refine Go.tupL_go ?_ | with_reducible refine Go.tupT_go ?_ | with_reducible refine Go.gv_go ?_ | with_reducible refine Go.ltI_go ?_ | with_reducible refine Go.leI_go ?_ | with_reducible refine Go.gtI_go ?_ | with_reducible refine Go.geI_go ?_ | with_reducible refine Go.eqI_go ?_ | with_reducible refine Go.neI_go ?_ | with_reducible refine Go.eqS_go ?_ | with_reducible refine Go.rng1_go ?_ | ((first | with_reducible apply Go.ixL_go | with_reducible apply Go.ixT_go); first | exact DL.at0 _ _ | exact DL.at1 _ _ _ | exact DL.at2 _ _ _ _ | exact DL.at3 _ _ _ _ _ | exact DL.at4 _ _ _ _ _ _) | ((with_reducible apply Go.frz_go); exact rfl) | ((with_reducible apply Go.frz_sh); exact rfl) | with_reducible refine Go.mn_go ?_ | with_reducible refine Go.andV_go ?_ | ((first | with_reducible apply Go.sqT_go | with_reducible apply Go.sqL_go); exact rfl) | with_reducible refine Go.gsC_go ?_ | with_reducible refine Go.gsN_go ?_ | with_reducible refine Go.ifT (by decide +kernel) ?_ | with_reducible refine Go.ifF (by decide +kernel) ?_ | with_reducible refine Go.cat_go ?_ | with_reducible refine Go.callO_go ?_ | ((with_reducible apply Go.retO_go); exact rfl) | with_reducible refine Go.retN_go ?_ | with_reducible refine Go.ifN_go ?_ | with_reducible refine Go.yes_go ?_ | with_reducible refine Go.isI_go ?_ | with_reducible refine Go.isB_go ?_ | with_reducible refine Go.isN_go ?_ | with_reducible refine Go.notN_go ?_ | with_reducible refine Go.lrev_go ?_ | with_reducible refine Go.bk_go ?_ | with_reducible refine Go.ct_go ?_ | with_reducible refine Go.rng2_go ?_ | with_reducible refine Go.orV_go ?_ | with_reducible refine Go.notV_go ?_ | ((with_reducible apply Go.setIx_go); exact rfl) | unfold fForS | unfold fLc | dsimp only [seqOf, List.set_cons_zero, List.set_cons_succ, setAll, wipeE])))
theorem sm60 {x : Int} (h : -1000000000000000000 ≤ x ∧ x ≤ 1000000000000000000) : Sm 64 x := by
  unfold Sm
  omega
theorem ht_nrm {D a b c : Int} (hD : SF D) (c0 : 0 < c) (ha : Sm 64 a) (hb : Sm 64 b) (hc : Sm 64 c) : HtV D (nrm a b c D) := by
  have := hD.1
  exact ⟨⟨nrm_inF c0, nrm_bd ha hb hc c0 (by omega) hD.sm⟩, nrm_lw c0⟩
theorem n51 {D a b c : Int} (hD : SF D) (c0 : 0 < c) (ha : -1125900000000000 ≤ a ∧ a ≤ 1127000000000000) (hb : -1125900000000000 ≤ b ∧ b ≤ 1127000000000000) (hc : c ≤ 1127000000000000) : Bd 51 (nrm a b c D) := by
  have := hD.1
  exact nrm_bd (by unfold Sm; omega) (by unfold Sm; omega) (by unfold Sm; omega) c0 (by omega) hD.sm
theorem nrm_0 (a c D : Int) : nrm a 0 c 0 = nrm a 0 c D := nrm_root (.inl rfl)
theorem go_slope {D size : Int} {Q : DL.D → Prop} (h : okFS (D, size)) (hq : ∀ s, SlV D s → Q s.D) : S__law_slope [.bg, .sh (fdD D), iS size] Q := ⟨(D, size), rfl, h, hq⟩
theorem go_height {D size : Int} {Q : DL.D → Prop} (h : okFS (D, size)) (hq : ∀ s, HtN D s → Q s.D) : S__law_height [.bg, .sh (fdD D), iS size] Q := ⟨(D, size), rfl, h, hq⟩
theorem r__law_slope : ∀ ss (Q : D → Prop), S__law_slope ss Q → g__law_slope (endsOf Q) (initE N__law_slope ss) := by
  rintro ss Q ⟨⟨D, z⟩, rfl, ⟨hD, z0, z1⟩, hq⟩
  have hD : SF D := hD
  have d1 := hD.1
  have z0 : 8 ≤ z := z0
  have z1 : z ≤ 1000000000000 := z1
  have hq : ∀ s, SlV D s → Q s.D := hq
  simp only [N__law_slope, arFS, initE, List.length_cons, List.length_nil, Nat.reduceAdd, Nat.reduceSub, List.replicate, List.cons_append, List.nil_append, List.append_nil]
  unfold g__law_slope
  get_elem_tactic_extensible
  refine Go.divI_go (by decide) (by decide) ?_
  get_elem_tactic_extensible
  refine go_draw (by decide) (by decide) fun r r0 r1 => ?_
  get_elem_tactic_extensible
  refine Go.ifd (fun h => ?_) (fun h => ?_)
  · get_elem_tactic_extensible
    refine go_draw (by omega) (lg_small (by omega) (by omega)) fun c c0 c1 => ?_
    get_elem_tactic_extensible
    refine go_draw (by omega) (lg_small (by omega) (by omega)) fun t t0 t1 => ?_
    get_elem_tactic_extensible
    refine go_shrunk (by omega) ((sm60 (by omega)).le (by decide)) ?_
    rw [nrm_0 _ _ D]
    obtain ⟨v, w⟩ := ht_nrm (D := D) (a := 1 + t) (b := 0) (c := 2 + c) hD (by omega) (sm60 (by omega)) (sm60 (by omega)) (sm60 (by omega))
    exact hq _ ⟨v, w, slp_of (by omega) (by omega) (nn_int.mpr (by omega)) (fun z => by have := nn_int.mp z; omega) (fun _ => by omega), n51 hD (by omega) (by omega) (by omega) (by omega)⟩
  · get_elem_tactic_extensible
    refine go_draw (by omega) (lg_small (by omega) (by omega)) fun c c0 c1 => ?_
    get_elem_tactic_extensible
    refine go_times hD ((sm60 (by omega)).le (by decide)) ?_
    have g1 := gF_50 (b := 1) hD (by omega)
    have g0 : 0 ≤ gF D 1 := by rw [gF_pos (by decide)]; exact (rF_sq (sqd_nn (by omega))).1
    get_elem_tactic_extensible
    have gz : (gF D 1 + 1).natAbs.log2 < 9000 := Sm.log (k := 51) (g1.add (sm1.le (by decide)))
    refine Go.divI_go gz (by omega) ?_
    get_elem_tactic_extensible
    have q0 : 0 ≤ z / 2 / (gF D 1 + 1) := Int.ediv_nonneg (by omega) (by omega)
    have q1 : z / 2 / (gF D 1 + 1) ≤ z / 2 := Int.ediv_le_self _ (by omega)
    generalize hm : (if 1 > z / 2 / (gF D 1 + 1) then (1 : Int) else z / 2 / (gF D 1 + 1)) = m
    have m0 : 1 ≤ m ∧ m ≤ 500000000000 := by rw [← hm]; split <;> omega
    refine go_draw (by omega) (lg_small (by omega) (by omega)) fun b b0 b1 => ?_
    get_elem_tactic_extensible
    refine go_draw (by decide) (by decide) fun y y0 y1 => ?_
    have fin : ∀ e : Int, e ≠ 0 → -1000000000000 ≤ e → e ≤ 1000000000000 → (fRet (fCall S__law_shrunk (fAC (fBin gSub (fCall S__law_draw (fAB 0 (fAC (fV 4) fAN))) (fCall S__law_times (fAC (fV 1) (fAC (fV 5) fAN)))) (fAC (fV 5) (fAC (fV 4) (fAC (fBin gIx (fN 1) (fC (.int 0))) fAN)))))) (endsOf Q) [.bg, .sh (fdD D), iS z, iS (z / 2), iS (1 + c), iS e] := by
      intro e e0 e1 e2
      get_elem_tactic_extensible
      refine go_draw (by omega) (lg_small (by omega) (by omega)) fun t t0 t1 => ?_
      get_elem_tactic_extensible
      refine go_times hD ((sm60 (by omega)).le (by decide)) ?_
      have g5 := gF_50 (b := e) hD (by omega)
      simp only [fdD]
      get_elem_tactic_extensible
      refine go_shrunk (by omega) ((sm60 (by omega)).le (by decide)) ?_
      have g6 : -1125899906842624 ≤ gF D e ∧ gF D e ≤ 1125899906842624 := by unfold Sm at g5; omega
      obtain ⟨v, w⟩ := ht_nrm (D := D) (a := t - gF D e) (b := e) (c := 1 + c) hD (by omega) (sm60 (by omega)) (sm60 (by omega)) (sm60 (by omega))
      exact hq _ ⟨v, w, slp_of (by omega) (by omega) (by unfold nn; omega) (by unfold nn; omega) (fun z => (e0 z).elim), n51 hD (by omega) (by omega) (by omega) (by omega)⟩
    get_elem_tactic_extensible
    refine Go.ifd (fun h => ?_) (fun h => ?_)
    · get_elem_tactic_extensible
      exact fin (1 + b) (by omega) (by omega) (by omega)
    · get_elem_tactic_extensible
      exact fin (-(1 + b)) (by omega) (by omega) (by omega)
theorem r__law_height : ∀ ss (Q : D → Prop), S__law_height ss Q → g__law_height (endsOf Q) (initE N__law_height ss) := by
  rintro ss Q ⟨⟨D, z⟩, rfl, ⟨hD, z0, z1⟩, hq⟩
  have hD : SF D := hD
  have z0 : 8 ≤ z := z0
  have z1 : z ≤ 1000000000000 := z1
  have hq : ∀ s, HtN D s → Q s.D := hq
  have m2 : CMulW 2 z := mw (k := 2) (l := 64) (Sm.nat (by decide) (by decide)) (sm60 (by omega))
  simp only [N__law_height, arFS, initE, List.length_cons, List.length_nil, Nat.reduceAdd, Nat.reduceSub, List.replicate, List.cons_append, List.nil_append, List.append_nil]
  unfold g__law_height
  get_elem_tactic_extensible
  refine Go.mulI_go m2 ?_
  get_elem_tactic_extensible
  refine go_draw (by omega) (Sm.log (k := 64) (sm60 (by omega))) fun a a0 a1 => ?_
  get_elem_tactic_extensible
  refine go_draw (by decide) (by decide) fun y y0 y1 => ?_
  get_elem_tactic_extensible
  have fin : ∀ e : Int, -1000000000000 ≤ e → e ≤ 1000000000000 → (fRet (fCall S__law_shrunk (fAC (fV 3) (fAC (fV 4) (fAC (fBin gAdd (fC (.int 1)) (fCall S__law_draw (fAB 0 (fAC (fV 2) fAN)))) (fAC (fBin gIx (fN 1) (fC (.int 0))) fAN)))))) (endsOf Q) [.bg, .sh (fdD D), iS z, iS (a - z), iS e] := by
    intro e e1 e2
    get_elem_tactic_extensible
    refine go_draw (by omega) (Sm.log (k := 64) (sm60 (by omega))) fun c c0 c1 => ?_
    simp only [fdD]
    get_elem_tactic_extensible
    refine go_shrunk (by omega) ((sm60 (by omega)).le (by decide)) ?_
    exact hq _ ⟨ht_nrm hD (by omega) (sm60 (by omega)) (sm60 (by omega)) (sm60 (by omega)), n51 hD (by omega) (by omega) (by omega) (by omega)⟩
  refine Go.ifd (fun h => ?_) (fun h => ?_)
  · get_elem_tactic_extensible
    exact fin 0 (by omega) (by omega)
  · get_elem_tactic_extensible
    refine Go.mulI_go m2 ?_
    get_elem_tactic_extensible
    refine go_draw (by omega) (Sm.log (k := 64) (sm60 (by omega))) fun b b0 b1 => ?_
    get_elem_tactic_extensible
    exact fin (b - z) (by omega) (by omega)
theorem ht_small {D : Int} {s h : S4} {n m : Int} (hD : SF D) (a : Vs D s) (b : Vs D h) (hs : smallB (mv s h n m) = true) : HtN D (mv s h n m) := by
  have d1 := hD.1
  have cc : 0 < s.c * h.c := Int.mul_pos a.b.c0 b.b.c0
  have e : mv s h n m = nrm (n * s.a * h.c + h.a * s.c + m * (s.c * h.c)) (n * s.b * h.c + h.b * s.c) (s.c * h.c) D := by
    unfold mv
    refine nrm_root ?_
    rcases InF.mx (by omega) a.f b.f with ⟨z1, z2, z3⟩ | z
    · exact .inl (by rw [z1, z2]; simp)
    · exact .inr z
  obtain ⟨h1, h2, h3⟩ := small_ok hs
  rw [e] at h1 h2 h3 ⊢
  have f := nrm_inF (a := n * s.a * h.c + h.a * s.c + m * (s.c * h.c)) (b := n * s.b * h.c + h.b * s.c) (D := D) cc
  have c0 := nrm_c (a := n * s.a * h.c + h.a * s.c + m * (s.c * h.c)) (b := n * s.b * h.c + h.b * s.c) cc
  have w := nrm_lw (a := n * s.a * h.c + h.a * s.c + m * (s.c * h.c)) (b := n * s.b * h.c + h.b * s.c) (D := D) cc
  have c0 : 0 < (nrm (n * s.a * h.c + h.a * s.c + m * (s.c * h.c)) (n * s.b * h.c + h.b * s.c) (s.c * h.c) D).c := c0
  generalize nrm (n * s.a * h.c + h.a * s.c + m * (s.c * h.c)) (n * s.b * h.c + h.b * s.c) (s.c * h.c) D = x at *
  have d0 : 0 ≤ x.d := by rcases f with ⟨_, z⟩ | ⟨_, z⟩ <;> omega
  have d2 : Sm 20 x.d := by
    rcases f with ⟨_, z⟩ | ⟨_, z⟩
    · rw [z]; exact (by decide : (0 : Int).natAbs < 2 ^ 20)
    · rw [z]; exact hD.sm
  have s51 : ∀ y : Int, y.natAbs ≤ 1000000000000 → Sm 51 y := fun y hy => by unfold Sm; omega
  have n : Bd 51 x := ⟨s51 _ h1, s51 _ h2, s51 _ (by omega), c0, d0, d2⟩
  exact ⟨⟨⟨f, n.le (by decide)⟩, w⟩, n⟩
theorem mv_c0 {s h : S4} {n m : Int} (a : Bd 64 s) (b : Bd 64 h) (k : Sm 101 n) (l : Sm 101 m) : 0 < (mv s h n m).c := (mv_sm a b k l).c0
theorem r__law_near : ∀ ss (Q : D → Prop), S__law_near ss Q → g__law_near (endsOf Q) (initE N__law_near ss) := by
  rintro ss Q ⟨⟨D, s, h⟩, rfl, ⟨hD, hs, hh⟩, hq⟩
  have hD : SF D := hD
  have hs : SlV D s := hs
  have hh : HtN D h := hh
  have hq : ∀ h, HtN D h → Q h.D := hq
  simp only [N__law_near, initE, List.length_cons, List.length_nil, Nat.reduceAdd, Nat.reduceSub, List.replicate, List.cons_append, List.nil_append, List.append_nil]
  unfold g__law_near
  get_elem_tactic_extensible
  refine go_draw (by decide) (by decide) fun r r0 r1 => ?_
  get_elem_tactic_extensible
  refine go_pick (by simp) (by simp) fun x hx => ?_
  obtain ⟨m, rfl, m0, m1⟩ : ∃ m : Int, x = .int m ∧ 0 ≤ m ∧ m ≤ 60 := by
    simp only [List.mem_cons, List.not_mem_nil, or_false] at hx
    rcases hx with rfl | rfl | rfl | rfl
    · exact ⟨_, rfl, by decide, by decide⟩
    · exact ⟨_, rfl, by decide, by decide⟩
    · exact ⟨_, rfl, by decide, by decide⟩
    · exact ⟨_, rfl, by omega, by omega⟩
  clear hx
  get_elem_tactic_extensible
  refine go_draw (by decide) (by decide) fun y y0 y1 => ?_
  get_elem_tactic_extensible
  have fin : ∀ n : Int, -60 ≤ n → n ≤ 60 → S__law_draw [.bg, iS 5] fun d => gSub d (.int 2) fun d => S__law_moved [.sh s.D, .sh h.D, iS n, .sh d] fun d => (fRet (fIf (fTV (fCall S__law_is_small (fAC (fV 4) fAN))) (fV 4) (fV 2))) (endsOf Q) [.bg, .sh s.D, .sh h.D, iS m, .sh d] := by
    intro n n0 n1
    refine go_draw (by decide) (by decide) fun k k0 k1 => ?_
    get_elem_tactic_extensible
    refine go_moved hs.v.b hh.h.v.b ((sm60 (by omega)).le (by decide)) ((sm60 (by omega)).le (by decide)) ?_
    get_elem_tactic_extensible
    refine go_is_small (mv_c0 hs.v.b hh.h.v.b ((sm60 (by omega)).le (by decide)) ((sm60 (by omega)).le (by decide))) ?_
    get_elem_tactic_extensible
    split
    · rename_i e
      get_elem_tactic_extensible
      exact hq _ (ht_small hD hs.v hh.h.v e)
    · get_elem_tactic_extensible
      exact hq _ hh
  refine Go.ifd (fun h => ?_) (fun h => ?_)
  · get_elem_tactic_extensible
    exact fin m (by omega) (by omega)
  · get_elem_tactic_extensible
    exact fin (-m) (by omega) (by omega)
theorem go_near {D : Int} {s h : S4} {Q : DL.D → Prop} (hD : SF D) (hs : SlV D s) (hh : HtN D h) (hq : ∀ h, HtN D h → Q h.D) : S__law_near [.bg, .sh s.D, .sh h.D] Q := ⟨(D, s, h), rfl, ⟨hD, hs, hh⟩, hq⟩
end T
end DL
namespace DL
namespace T
open PySem L2 PySem.Spec PyProof.Rows
local macro_rules
  | `(tactic| get_elem_tactic_extensible) => `(tactic| (repeat (first | with_reducible refine Go.lc_go ?_ | with_reducible refine Go.ln_go ?_ | ((with_reducible apply Go.v_sh); exact rfl) | ((with_reducible apply Go.n_sh); exact rfl) | ((with_reducible apply Go.n_ow); exact rfl) | ((with_reducible apply Go.ab_go); exact rfl) | ((with_reducible apply Go.app_go); exact rfl) | ((with_reducible apply Go.ext_go); exact rfl) | with_reducible refine Go.c_go ?_ | with_reducible refine Go.tup_go ?_ | with_reducible refine Go.nv_go ?_ | with_reducible refine Go.bin_go ?_ | with_reducible refine Go.slT_go ?_ | with_reducible refine Go.slL_go ?_ | with_reducible refine Go.on_go ?_ | with_reducible refine Go.os_go ?_ | with_reducible refine Go.neg_go ?_ | with_reducible refine Go.sub_go ?_ | with_reducible refine Go.addI_go ?_ | with_reducible refine Go.seqT_go ?_ | with_reducible refine Go.call_go ?_ | with_reducible refine Go.callK_go ?_ | with_reducible refine Go.cb_go ?_ | with_reducible refine Go.dict1_go ?_ | with_reducible refine Go.if_go ?_ | with_reducible refine Go.an_go ?_ | with_reducible refine Go.ac_go ?_ | with_reducible refine Go.mv_go ?_ | with_reducible refine Go.par_go ?_ | with_reducible refine Go.sq_go ?_ | with_reducible refine Go.set_go ?_ | with_reducible refine Go.setN_go ?_ | with_reducible refine Go.ret_go ?_ | with_reducible refine Go.asg_go ?_ | with_reducible refine Go.ifs_go ?_ | with_reducible refine Go.next_go ?_ | with_reducible refine Go.nm_go ?_ | with_reducible refine Go.cmp_go ?_ | with_reducible refine Go.tv_go ?_ | with_reducible refine Go.not_go ?_ | with_reducible refine Go.and_go ?_ | with_reducible refine Go.or_go ?_ | with_reducible refine Go.lenT_go ?_ | with_reducible refine Go.lenL_go ?_ | with_reducible refine Go.absI_go ?_ | with_reducible refine Go.intI_go ?_ | with_reducible refine Go.max2_go ?_ | with_reducible refine Go.min2_go ?_ | with_reducible refine Go.tupL_go ?_ | with_reducible refine Go.tupT_go ?_ | with_reducible refine Go.gv_go ?_ | with_reducible refine Go.ltI_go ?_ | with_reducible refine Go.leI_go ?_ | with_reducible refine Go.gtI_go ?_ | with_reducible refine Go.geI_go ?_ | with_reducible refine Go.eqI_go ?_ | with_reducible refine Go.neI_go ?_ | with_reducible refine Go.eqS_go ?_ | with_reducible refine Go.rng1_go ?_ | ((first | with_reducible apply Go.ixL_go | with_reducible apply Go.ixT_go); first | exact DL.at0 _ _ | exact DL.at1 _ _ _ | exact DL.at2 _ _ _ _ | exact DL.at3 _ _ _ _ _ | exact DL.at4 _ _ _ _ _ _) | ((with_reducible apply Go.frz_go); exact rfl) | ((with_reducible apply Go.frz_sh); exact rfl) | with_reducible refine Go.mn_go ?_ | with_reducible refine Go.andV_go ?_ | ((first | with_reducible apply Go.sqT_go | with_reducible apply Go.sqL_go); exact rfl) | with_reducible refine Go.gsC_go ?_ | with_reducible refine Go.gsN_go ?_ | with_reducible refine Go.ifT (by decide +kernel) ?_ | with_reducible refine Go.ifF (by decide +kernel) ?_ | with_reducible refine Go.cat_go ?_ | with_reducible refine Go.callO_go ?_ | ((with_reducible apply Go.retO_go); exact rfl) | with_reducible refine Go.retN_go ?_ | with_reducible refine Go.ifN_go ?_ | with_reducible refine Go.yes_go ?_ | with_reducible refine Go.isI_go ?_ | with_reducible refine Go.isB_go ?_ | with_reducible refine Go.isN_go ?_ | with_reducible refine Go.notN_go ?_ | with_reducible refine Go.lrev_go ?_ | with_reducible refine Go.bk_go ?_ | with_reducible refine Go.ct_go ?_ | with_reducible refine Go.rng2_go ?_ | with_reducible refine Go.orV_go ?_ | with_reducible refine Go.notV_go ?_ | ((with_reducible apply Go.setIx_go); exact rfl) | unfold fForS | unfold fLc | dsimp only [seqOf, List.set_cons_zero, List.set_cons_succ, setAll, wipeE])))
theorem sm0' {k : Nat} : Sm k (0 : Int) := by
  unfold Sm
  exact Nat.pow_pos (by decide)
theorem wA_eq {D : Int} {s h : S4} (hD : 0 ≤ D) (a : Vs D s) (b : Vs D h) (n : Int) : wA s h n = ((pl4 s h n).a + gF D (pl4 s h n).b) / (s.c * h.c) := by
  have e : wA s h n = ((pl4 s h n).a + gF (mx s.d h.d) (pl4 s h n).b) / (s.c * h.c) := wS_eq _
  rw [e]
  rcases InF.mx hD a.f b.f with ⟨z1, z2, z3⟩ | z
  · have : (pl4 s h n).b = 0 := by simp only [pl4, z1, z2]; simp
    rw [this, gF_zero, gF_zero]
  · rw [z]
theorem rowL_succ (s h : S4) (k : Nat) : rowL s h (k + 1) = rowL s h k ++ [wA s h ((k : Int) + 1) - wA s h (k : Int)] := by
  unfold rowL
  rw [List.range_succ, List.map_append]; rfl
theorem rowL_len (s h : S4) (k : Nat) : (rowL s h k).length = k := by unfold rowL; rw [List.length_map, List.length_range]
theorem r__law_letters : ∀ ss (Q : D → Prop), S__law_letters ss Q → g__law_letters (endsOfO Q) (initE N__law_letters ss) := by
  rintro ss Q ⟨⟨D, s, h, m⟩, rfl, ⟨hD, a, b, hm⟩, hq⟩
  have hD : SF D := hD
  have d1 := hD.1
  have a : Vs D s := a
  have b : Vs D h := b
  have hm : m ≤ 500 := hm
  have hq : Q (.list ((rowL s h m).map PyData.int)) := hq
  have cc : 0 < s.c * h.c := Int.mul_pos a.b.c0 b.b.c0
  have cl : (s.c * h.c).natAbs.log2 < 9000 := Sm.log (k := 128) ((a.b.c.mul b.b.c).le (by decide))
  have W := wA_eq (D := D) (by omega) a b
  have b0 : ∀ k : Nat, k ≤ 500 → Sm 203 (pl4 s h (k : Int)).b := fun k hk => by
    have := smN (n := k) (k := 9) (by omega)
    exact ((((this.mul a.b.b).mul b.b.c).le (l := 202) (by decide)).add ((b.b.b.mul a.b.c).le (by decide)))
  simp only [N__law_letters, D4, initE, List.length_cons, List.length_nil, Nat.reduceAdd, Nat.reduceSub, List.replicate, List.cons_append, List.nil_append, List.append_nil]
  unfold g__law_letters
  get_elem_tactic_extensible
  refine Go.mulI_go (mw a.b.c b.b.c) ?_
  get_elem_tactic_extensible
  refine Go.mulI_go (mw b.b.a a.b.c) ?_
  get_elem_tactic_extensible
  refine Go.mulI_go (mw b.b.b a.b.c) ?_
  get_elem_tactic_extensible
  refine ⟨rfl, ?_⟩
  get_elem_tactic_extensible
  refine Go.mulI_go (mw a.b.a b.b.c) ?_
  get_elem_tactic_extensible
  refine Go.mulI_go (mw a.b.b b.b.c) ?_
  get_elem_tactic_extensible
  refine ⟨rfl, ?_⟩
  get_elem_tactic_extensible
  refine go_times hD ((b.b.b.mul a.b.c).le (by decide)) ?_
  get_elem_tactic_extensible
  refine Go.divI_go cl cc ?_
  get_elem_tactic_extensible
  refine ⟨rfl, ?_⟩
  get_elem_tactic_extensible
  refine ⟨by omega, by omega, ?_⟩
  rw [Int.toNat_natCast]
  have p0 : pl4 s h 0 = ⟨h.a * s.c, h.b * s.c, s.c * h.c, mx s.d h.d⟩ := by
    unfold pl4
    simp
  have w0 : (h.a * s.c + gF D (h.b * s.c)) / (s.c * h.c) = wA s h 0 := by rw [W 0, p0]
  rw [w0]
  refine for_rng (fun i ρ => ∃ (k : Nat) (t u : Sl), i = (k : Int) ∧ ρ = [.sh (fdD D), .sh (.tuple [.int s.a, .int s.b, .int s.c, .int s.d]), .sh (.tuple [.int h.a, .int h.b, .int h.c, .int h.d]), iS (m : Int), iS (s.c * h.c), iS (pl4 s h (k : Int)).a, iS (pl4 s h (k : Int)).b, iS (s.a * h.c), iS (s.b * h.c), .ow ((rowL s h k).map PyData.int), iS (wA s h (k : Int)), t, u]) _ _ _ ?_ ?_ ⟨0, _, _, rfl, by
    have : ((0 : Nat) : Int) = 0 := rfl
    rw [this, p0]; rfl⟩
  · rintro i ρ i2 i3 ⟨k, t, u, rfl, rfl⟩ K hK
    have hk : k < m := by omega
    have ea : (pl4 s h (k : Int)).a + s.a * h.c = (pl4 s h (((k + 1 : Nat) : Int))).a := by
      simp only [pl4, Int.natCast_add]; grind
    have eb : (pl4 s h (k : Int)).b + s.b * h.c = (pl4 s h (((k + 1 : Nat) : Int))).b := by
      simp only [pl4, Int.natCast_add]; grind
    get_elem_tactic_extensible
    refine ⟨rfl, ?_⟩
    get_elem_tactic_extensible
    rw [ea, eb]
    refine go_times hD (b0 (k + 1) (by omega)) ?_
    get_elem_tactic_extensible
    refine Go.divI_go cl cc ?_
    rw [← W]
    get_elem_tactic_extensible
    refine ⟨by rw [List.length_map, rowL_len]; unfold most; omega, ?_⟩
    get_elem_tactic_extensible
    have er : List.map PyData.int (rowL s h k) ++ [.int (wA s h (((k + 1 : Nat) : Int)) - wA s h (k : Int))] = List.map PyData.int (rowL s h (k + 1)) := by
      rw [rowL_succ, List.map_append]; rfl
    rw [er]
    exact hK _ ⟨k + 1, _, _, by omega, rfl⟩
  · rintro ρ ⟨k, t, u, hk, rfl⟩
    have : k = m := by omega
    subst this
    get_elem_tactic_extensible
    exact hq
theorem go_lett {D : Int} {s h : S4} {m : Nat} {Q : DL.D → Prop} (hD : SF D) (a : Vs D s) (b : Vs D h) (hm : m ≤ 500) (hq : Q (.list ((rowL s h m).map PyData.int))) : S__law_letters [.sh (fdD D), .sh s.D, .sh h.D, iS (m : Int)] Q := ⟨(D, s, h, m), rfl, ⟨hD, a, b, hm⟩, hq⟩
/-! ### bounds -/
structure BnS (t : Bn) : Prop where
  l1 : Sm 63 t.low.1
  l2 : Sm 63 t.low.2
  h1 : Sm 63 t.high.1
  h2 : Sm 63 t.high.2
  o : 0 ≤ t.ones ∧ t.ones ≤ t.k
  k : 0 ≤ t.k
def q1 (s : S4) (t : Bn) (l : Int) : Int := (t.ones + l) * s.c - (t.k + 1) * s.a
def q2 (s : S4) (t : Bn) : Int := -(t.k + 1) * s.b
theorem q_sm {s : S4} {t : Bn} {l : Int} (n : Bd 51 s) (h : BnS t) (hl : l = 0 ∨ l = 1) (hk : t.k < 500) : Sm 62 (q1 s t l) ∧ Sm 62 (q2 s t) ∧ Sm 62 (q1 s t l + s.c) := by
  obtain ⟨o0, o1⟩ := h.o
  have k0 := h.k
  have s1 : Sm 9 (t.ones + l) := by unfold Sm; omega
  have s2 : Sm 9 (t.k + 1) := by unfold Sm; omega
  have a := (((s1.mul n.c).le (l := 60) (by decide)).sub ((s2.mul n.a).le (by decide)))
  exact ⟨a.le (by decide), ((s2.neg.mul n.b).le (by decide)), (a.add (n.c.le (by decide)))⟩
theorem stepB_ok {D : Int} {s : S4} {t : Bn} {l : Int} (n : Bd 51 s) (h : BnS t) (hl : l = 0 ∨ l = 1) (hk : t.k < 500) : BnS (stepB D s t l) := by
  obtain ⟨a, b, c⟩ := q_sm n h hl hk
  have o := h.o
  have k0 := h.k
  refine ⟨?_, ?_, ?_, ?_, ?_, ?_⟩
  · show Sm 63 (if 0 < sgn (q1 s t l - t.low.1) (q2 s t - t.low.2) D then (q1 s t l, q2 s t) else t.low).1
    split
    · exact a.le (by decide)
    · exact h.l1
  · show Sm 63 (if 0 < sgn (q1 s t l - t.low.1) (q2 s t - t.low.2) D then (q1 s t l, q2 s t) else t.low).2
    split
    · exact b.le (by decide)
    · exact h.l2
  · show Sm 63 (if sgn (q1 s t l + s.c - t.high.1) (q2 s t - t.high.2) D < 0 then (q1 s t l + s.c, q2 s t) else t.high).1
    split
    · exact c.le (by decide)
    · exact h.h1
  · show Sm 63 (if sgn (q1 s t l + s.c - t.high.1) (q2 s t - t.high.2) D < 0 then (q1 s t l + s.c, q2 s t) else t.high).2
    split
    · exact b.le (by decide)
    · exact h.h2
  · show 0 ≤ t.ones + l ∧ t.ones + l ≤ t.k + 1
    omega
  · show 0 ≤ t.k + 1
    omega
def pD (p : Int × Int) : DL.D := .tuple [.int p.1, .int p.2]
theorem r__law_bounds : ∀ ss (Q : D → Prop), S__law_bounds ss Q → g__law_bounds (endsOf Q) (initE N__law_bounds ss) := by
  rintro ss Q ⟨⟨D, s, w⟩, rfl, ⟨hD, hs, hw, hl⟩, hq⟩
  have hD : SF D := hD
  have hs : SlV D s := hs
  have hw : Bw w := hw
  have hl : w.length ≤ 500 := hl
  have hq : Q (bndD (bnd D s w)) := hq
  have n := hs.n
  simp only [N__law_bounds, D4, fdD, wdD, initE, List.length_cons, List.length_nil, Nat.reduceAdd, Nat.reduceSub, List.replicate, List.cons_append, List.nil_append, List.append_nil]
  unfold g__law_bounds
  get_elem_tactic_extensible
  refine ⟨rfl, ?_⟩
  get_elem_tactic_extensible
  show fFor _ _ (enumD 0 (w.map PyData.int)) _ _
  refine for_of (fun ds ρ => ∃ (v : List Int) (t : Bn) (k : Nat) (x y z : Sl), ds = enumD k (v.map PyData.int) ∧ ρ = [.sh (.tuple [.int D, .int (RR D)]), .sh (.tuple [.int s.a, .int s.b, .int s.c, .int s.d]), .sh (.tuple (w.map PyData.int)), iS s.a, iS s.b, iS s.c, iS D, .sh (pD t.low), .sh (pD t.high), iS t.ones, x, y, z] ∧ (∀ l ∈ v, l = 0 ∨ l = 1) ∧ BnS t ∧ t.k = (k : Int) ∧ k + v.length ≤ 500 ∧ v.foldl (stepB D s) t = bnF D s w) ?_ ?_ _ _ ⟨w, ⟨(0, 0), (s.c, 0), 0, 0⟩, 0, _, _, _, rfl, rfl, hw, ⟨sm0' , sm0', n.c.le (by decide), sm0', ⟨Int.le_refl 0, Int.le_refl 0⟩, Int.le_refl 0⟩, rfl, by omega, rfl⟩
  · rintro d ds ρ ⟨v, t, k, x, y, z, he, rfl, hv, ht, hk, hlen, hf⟩ K hK
    cases v with
    | nil => cases he
    | cons l v =>
      cases he
      rw [List.length_cons] at hlen
      have hl := hv l List.mem_cons_self
      obtain ⟨a, b, c⟩ := q_sm n ht hl (by omega)
      have st := stepB_ok (D := D) n ht hl (by omega)
      obtain ⟨o0, o1⟩ := ht.o
      have m1 : CMulW (t.ones + l) s.c := mw (k := 10) (by unfold Sm; omega) n.c
      have m2 : CMulW ((k : Int) + 1) s.a := mw (k := 10) (by unfold Sm; omega) n.a
      have m3 : CMulW (-((k : Int) + 1)) s.b := mw (k := 10) (by unfold Sm; omega) n.b
      have e1 : (t.ones + l) * s.c - ((k : Int) + 1) * s.a = q1 s t l := by rw [← hk]; rfl
      have e2 : -((k : Int) + 1) * s.b = q2 s t := by rw [← hk]; rfl
      get_elem_tactic_extensible
      refine Go.mulI_go m1 ?_
      get_elem_tactic_extensible
      refine Go.mulI_go m2 ?_
      get_elem_tactic_extensible
      refine Go.mulI_go m3 ?_
      get_elem_tactic_extensible
      rw [e1, e2]
      simp only [pD]
      get_elem_tactic_extensible
      refine go_sign hD ((a.le (l := 63) (by decide)).sub ht.l1 |>.le (by decide)) ((b.le (l := 63) (by decide)).sub ht.l2 |>.le (by decide)) ?_
      get_elem_tactic_extensible
      have fin : ∀ (E' : En) (_ : ∀ ρ, K ρ → E'.nx ρ) (lo : Int × Int), lo = (stepB D s t l).low → (fIfS (fCmp gLt (fCall S__law_sign (fAC (fBin gSub (fBin gAdd (fBin gIx (fN 12) (fC (.int 0))) (fN 5)) (fBin gIx (fN 8) (fC (.int 0)))) (fAC (fBin gSub (fBin gIx (fN 12) (fC (.int 1))) (fBin gIx (fN 8) (fC (.int 1)))) (fAC (fV 6) fAN)))) (fC (.int 0))) (fSet 8 (fTup (fLC (fBin gAdd (fBin gIx (fN 12) (fC (.int 0))) (fN 5)) (fLC (fBin gIx (fN 12) (fC (.int 1))) fLN)))) fNext) E' [.sh (.tuple [.int D, .int (RR D)]), .sh (.tuple [.int s.a, .int s.b, .int s.c, .int s.d]), .sh (.tuple (w.map PyData.int)), iS s.a, iS s.b, iS s.c, iS D, .sh (pD lo), .sh (.tuple [.int t.high.1, .int t.high.2]), iS (t.ones + l), iS (k : Int), iS l, .sh (.tuple [.int (q1 s t l), .int (q2 s t)])] := by
        intro E' hE lo hlo
        get_elem_tactic_extensible
        refine go_sign hD ((c.le (l := 63) (by decide)).sub ht.h1 |>.le (by decide)) ((b.le (l := 63) (by decide)).sub ht.h2 |>.le (by decide)) ?_
        get_elem_tactic_extensible
        have key := fun (hi : Int × Int) (e : hi = (stepB D s t l).high) => hE _ (hK [.sh (.tuple [.int D, .int (RR D)]), .sh (.tuple [.int s.a, .int s.b, .int s.c, .int s.d]), .sh (.tuple (w.map PyData.int)), iS s.a, iS s.b, iS s.c, iS D, .sh (pD lo), .sh (pD hi), iS (t.ones + l), iS (k : Int), iS l, .sh (.tuple [.int (q1 s t l), .int (q2 s t)])] ⟨v, stepB D s t l, k + 1, iS (k : Int), iS l, .sh (.tuple [.int (q1 s t l), .int (q2 s t)]), rfl, by rw [hlo, e]; rfl, fun x hx => hv x (List.mem_cons_of_mem _ hx), st, by show t.k + 1 = _; omega, by omega, hf⟩)
        refine Go.ifd (fun h => ?_) (fun h => ?_)
        · get_elem_tactic_extensible
          exact key (q1 s t l + s.c, q2 s t) (by
            show _ = (if sgn (q1 s t l + s.c - t.high.1) (q2 s t - t.high.2) D < 0 then (q1 s t l + s.c, q2 s t) else t.high)
            rw [if_pos h])
        · get_elem_tactic_extensible
          exact key t.high (by
            show _ = (if sgn (q1 s t l + s.c - t.high.1) (q2 s t - t.high.2) D < 0 then (q1 s t l + s.c, q2 s t) else t.high)
            rw [if_neg h])
      refine Go.ifd (fun h => ?_) (fun h => ?_)
      · get_elem_tactic_extensible
        exact fin _ (fun _ h => h) (q1 s t l, q2 s t) (by
          show _ = (if 0 < sgn (q1 s t l - t.low.1) (q2 s t - t.low.2) D then (q1 s t l, q2 s t) else t.low)
          rw [if_pos h])
      · get_elem_tactic_extensible
        exact fin _ (fun _ h => h) t.low (by
          show _ = (if 0 < sgn (q1 s t l - t.low.1) (q2 s t - t.low.2) D then (q1 s t l, q2 s t) else t.low)
          rw [if_neg h])
  · rintro ρ ⟨v, t, k, x, y, z, he, rfl, hv, ht, hk, hlen, hf⟩
    cases v with
    | cons r rs => cases he
    | nil =>
      have hf : t = bnF D s w := hf
      unfold bnd at hq
      rw [← hf] at hq
      simp only at hq
      simp only [pD]
      get_elem_tactic_extensible
      refine go_sign hD ((ht.h1.sub ht.l1).le (by decide)) ((ht.h2.sub ht.l2).le (by decide)) ?_
      get_elem_tactic_extensible
      refine Go.ifd (fun h => ?_) (fun h => ?_)
      · get_elem_tactic_extensible
        rw [if_pos h] at hq
        exact hq
      · get_elem_tactic_extensible
        rw [if_neg h] at hq
        refine go_shrunk n.c0 (n.c.le (by decide)) ?_
        get_elem_tactic_extensible
        refine go_shrunk n.c0 (n.c.le (by decide)) ?_
        get_elem_tactic_extensible
        exact hq
theorem go_bounds {D : Int} {s : S4} {w : List Int} {Q : DL.D → Prop} (hD : SF D) (hs : SlV D s) (hw : Bw w) (hl : w.length ≤ 500) (hq : Q (bndD (bnd D s w))) : S__law_bounds [.sh (fdD D), .sh s.D, .sh (wdD w)] Q := ⟨(D, s, w), rfl, ⟨hD, hs, hw, hl⟩, hq⟩
end T
end DL
namespace DL
namespace T
open PySem L2 PySem.Spec PyProof.Rows
local macro_rules
  | `(tactic| get_elem_tactic_extensible) => `(tactic| (repeat (first | with_reducible refine Go.lc_go ?_ | with_reducible refine Go.ln_go ?_ | ((with_reducible apply Go.v_sh); exact rfl) | ((with_reducible apply Go.n_sh); exact rfl) | ((with_reducible apply Go.n_ow); exact rfl) | ((with_reducible apply Go.ab_go); exact rfl) | ((with_reducible apply Go.app_go); exact rfl) | ((with_reducible apply Go.ext_go); exact rfl) | with_reducible refine Go.c_go ?_ | with_reducible refine Go.tup_go ?_ | with_reducible refine Go.nv_go ?_ | with_reducible refine Go.bin_go ?_ | with_reducible refine Go.slT_go ?_ | with_reducible refine Go.slL_go ?_ | with_reducible refine Go.on_go ?_ | with_reducible refine Go.os_go ?_ | with_reducible refine Go.neg_go ?_ | with_reducible refine Go.sub_go ?_ | with_reducible refine Go.addI_go ?_ | with_reducible refine Go.seqT_go ?_ | with_reducible refine Go.call_go ?_ | with_reducible refine Go.callK_go ?_ | with_reducible refine Go.cb_go ?_ | with_reducible refine Go.dict1_go ?_ | with_reducible refine Go.if_go ?_ | with_reducible refine Go.an_go ?_ | with_reducible refine Go.ac_go ?_ | with_reducible refine Go.mv_go ?_ | with_reducible refine Go.par_go ?_ | with_reducible refine Go.sq_go ?_ | with_reducible refine Go.set_go ?_ | with_reducible refine Go.setN_go ?_ | with_reducible refine Go.ret_go ?_ | with_reducible refine Go.asg_go ?_ | with_reducible refine Go.ifs_go ?_ | with_reducible refine Go.next_go ?_ | with_reducible refine Go.nm_go ?_ | with_reducible refine Go.cmp_go ?_ | with_reducible refine Go.tv_go ?_ | with_reducible refine Go.not_go ?_ | with_reducible refine Go.and_go ?_ | with_reducible refine Go.or_go ?_ | with_reducible refine Go.lenT_go ?_ | with_reducible refine Go.lenL_go ?_ | with_reducible refine Go.absI_go ?_ | with_reducible refine Go.intI_go ?_ | with_reducible refine Go.max2_go ?_ | with_reducible refine Go.min2_go ?_ | with_reducible refine Go.tupL_go ?_ | with_reducible refine Go.tupT_go ?_ | with_reducible refine Go.gv_go ?_ | with_reducible refine Go.ltI_go ?_ | with_reducible refine Go.leI_go ?_ | with_reducible refine Go.gtI_go ?_ | with_reducible refine Go.geI_go ?_ | with_reducible refine Go.eqI_go ?_ | with_reducible refine Go.neI_go ?_ | with_reducible refine Go.eqS_go ?_ | with_reducible refine Go.rng1_go ?_ | ((first | with_reducible apply Go.ixL_go | with_reducible apply Go.ixT_go); first | exact DL.at0 _ _ | exact DL.at1 _ _ _ | exact DL.at2 _ _ _ _ | exact DL.at3 _ _ _ _ _ | exact DL.at4 _ _ _ _ _ _) | ((with_reducible apply Go.frz_go); exact rfl) | ((with_reducible apply Go.frz_sh); exact rfl) | with_reducible refine Go.mn_go ?_ | with_reducible refine Go.andV_go ?_ | ((first | with_reducible apply Go.sqT_go | with_reducible apply Go.sqL_go); exact rfl) | with_reducible refine Go.gsC_go ?_ | with_reducible refine Go.gsN_go ?_ | with_reducible refine Go.ifT (by decide +kernel) ?_ | with_reducible refine Go.ifF (by decide +kernel) ?_ | with_reducible refine Go.cat_go ?_ | with_reducible refine Go.callO_go ?_ | ((with_reducible apply Go.retO_go); exact rfl) | with_reducible refine Go.retN_go ?_ | with_reducible refine Go.ifN_go ?_ | with_reducible refine Go.yes_go ?_ | with_reducible refine Go.isI_go ?_ | with_reducible refine Go.isB_go ?_ | with_reducible refine Go.isN_go ?_ | with_reducible refine Go.notN_go ?_ | with_reducible refine Go.lrev_go ?_ | with_reducible refine Go.bk_go ?_ | with_reducible refine Go.ct_go ?_ | with_reducible refine Go.rng2_go ?_ | with_reducible refine Go.orV_go ?_ | with_reducible refine Go.notV_go ?_ | ((with_reducible apply Go.setIx_go); exact rfl) | unfold fForS | unfold fLc | dsimp only [seqOf, List.set_cons_zero, List.set_cons_succ, setAll, wipeE])))
/-- the slope, taken k times, over k times the divisor -/
theorem slp_times {D : Int} (hD : 0 ≤ D) {s : S4} (h : Slp D s) {k : Int} (hk : 0 < k) : 0 ≤ s.a * k + gF D (s.b * k) ∧ s.a * k + gF D (s.b * k) < s.c * k := by
  obtain ⟨j, rfl⟩ : ∃ j : Nat, k = (j : Int) + 1 := ⟨(k - 1).toNat, by omega⟩
  have := ind_gF hD s.b j
  have h1 := h.lo
  have h2 := h.hi
  rw [Int.mul_comm s.b]
  have e1 : s.a * ((j : Int) + 1) + (j + 1 : Int) * gF D s.b = (j + 1 : Int) * (s.a + gF D s.b) := by
    rw [Int.mul_comm s.a, ← Int.mul_add]
  have p1 : 0 ≤ (j + 1 : Int) * (s.a + gF D s.b) := Int.mul_nonneg (by omega) h1
  have p2 : (j + 1 : Int) * (s.a + gF D s.b + 1) ≤ (j + 1 : Int) * s.c := Int.mul_le_mul_of_nonneg_left (by omega) (by omega)
  have e2 : (j + 1 : Int) * (s.a + gF D s.b + 1) = (j + 1 : Int) * (s.a + gF D s.b) + (j + 1) := by rw [Int.mul_add _ _ 1, Int.mul_one]
  rw [Int.mul_comm s.c]
  omega
theorem ediv_step {N M c : Int} (hc : 0 < c) (h1 : N ≤ M) (h2 : M ≤ N + c) : N / c ≤ M / c ∧ M / c ≤ N / c + 1 := by
  refine ⟨Int.ediv_le_ediv hc h1, ?_⟩
  have := Int.ediv_le_ediv hc h2
  rwa [Int.add_ediv_of_dvd_right (Int.dvd_refl c), Int.ediv_self (by omega)] at this
theorem wA_step {D : Int} {s h : S4} (hD : SF D) (a : SlV D s) (b : Vs D h) (n : Int) : wA s h (n + 1) - wA s h n = 0 ∨ wA s h (n + 1) - wA s h n = 1 := by
  have d1 := hD.1
  rw [wA_eq (D := D) (by omega) a.v b, wA_eq (D := D) (by omega) a.v b]
  have cc : 0 < s.c * h.c := Int.mul_pos a.v.b.c0 b.b.c0
  have S := slp_times (by omega) a.s b.b.c0
  have e1 : (pl4 s h (n + 1)).a = (pl4 s h n).a + s.a * h.c := by simp only [pl4]; grind
  have e2 : (pl4 s h (n + 1)).b = (pl4 s h n).b + s.b * h.c := by simp only [pl4]; grind
  have G := gF_add (D := D) (by omega) (pl4 s h n).b (s.b * h.c)
  rw [e1, e2]
  have := ediv_step (N := (pl4 s h n).a + gF D (pl4 s h n).b) (M := (pl4 s h n).a + s.a * h.c + gF D ((pl4 s h n).b + s.b * h.c)) cc (by omega) (by omega)
  omega
theorem rowL_bw {D : Int} {s h : S4} (hD : SF D) (a : SlV D s) (b : Vs D h) (m : Nat) : Bw (rowL s h m) := fun x hx => by
  unfold rowL at hx
  obtain ⟨i, _, rfl⟩ := List.mem_map.mp hx
  exact wA_step hD a b i
theorem okFS.sf {D z : Int} (h : okFS (D, z)) : SF D := h.1
theorem go_word {D z : Int} {s : S4} {Q : DL.D → Prop} (h : okFS (D, z)) (hs : SlV D s) (hq : ∀ w : List Int, Bw w → w.length ≤ 500 → Q (.list (w.map PyData.int))) : S__law_word [.bg, .sh (fdD D), iS z, .sh s.D] Q := ⟨(D, z, s), rfl, ⟨h, hs⟩, fun w hw => hq w hw.1 hw.2⟩
theorem lc_draws {g : GT} {e : SE} {ρ : Env} {P : Int → Prop} (hg : ∀ d K, d ∈ (rng 0 0) ∨ True → (∀ x, P x → K (.int x)) → g d ρ fun ρ1 => e ρ1 K) : ∀ (ds : List D) (Q : List D → Prop), (∀ cs : List Int, cs.length = ds.length → (∀ x ∈ cs, P x) → Q (cs.map PyData.int)) → lcRun g fYes e ρ ds Q
  | [], Q, h => h [] rfl (fun _ hx => by cases hx)
  | d :: ds, Q, h => hg d _ (.inr trivial) fun x hx => lc_draws hg ds _ fun cs hl hc => h (x :: cs) (by rw [List.length_cons, List.length_cons, hl]) (fun y hy => by
      rcases List.mem_cons.mp hy with rfl | hy
      · exact hx
      · exact hc y hy)
theorem ixN_lt {n : Nat} {j : Int} (h0 : 0 ≤ j) (h : j < n) : ixN n j = some j.toNat := by
  unfold ixN
  rw [if_pos h0, if_pos (by omega)]
theorem r__law_word : ∀ ss (Q : D → Prop), S__law_word ss Q → g__law_word (endsOf Q) (initE N__law_word ss) := by
  rintro ss Q ⟨⟨D, z, s⟩, rfl, ⟨hF, hs⟩, hq⟩
  have hF : okFS (D, z) := hF
  have hD : SF D := hF.1
  have hs : SlV D s := hs
  have hq : ∀ w : List Int, Bw w ∧ w.length ≤ 500 → Q (.list (w.map PyData.int)) := hq
  simp only [N__law_word, initE, List.length_cons, List.length_nil, Nat.reduceAdd, Nat.reduceSub, List.replicate, List.cons_append, List.nil_append, List.append_nil]
  unfold g__law_word
  get_elem_tactic_extensible
  refine go_draw (by decide) (by decide) fun r r0 r1 => ?_
  get_elem_tactic_extensible
  refine go_draw (by decide) (by decide) fun y y0 y1 => ?_
  get_elem_tactic_extensible
  refine ⟨rfl, ?_⟩
  get_elem_tactic_extensible
  refine go_draw (by decide) (by decide) fun x x0 x1 => ?_
  get_elem_tactic_extensible
  have fin : ∀ m : Int, 1 ≤ m → m ≤ 500 → fSeqS (fIfS (fCmp gEq (fN 5) (fC (.int 0))) (fRet (fNV (fLc [6] (fRng1 (fCB bMin2 (fLC (fN 4) (fLC (fC (.int 60)) fLN)))) (gNm 6) fYes (fCall S__law_draw (fAB 0 (fAC (fC (.int 2)) fAN)))))) fNext) (fSeqS (fSet 7 (fIf (fCmp gEq (fN 5) (fC (.int 1))) (fCall S__law_slope (fAB 0 (fAC (fV 1) (fAC (fV 2) fAN)))) (fV 3))) (fSeqS (fSetN 8 (fCallO S__law_letters (fAC (fV 1) (fAC (fV 7) (fAC (fCall S__law_height (fAB 0 (fAC (fV 1) (fAC (fV 2) fAN)))) (fAC (fV 4) fAN)))))) (fSeqS (fIfS (fCmp gEq (fN 5) (fC (.int 2))) (fSeqS (fSet 9 (fCall S__law_pick (fAB 0 (fAC (fNV (fLC (fC (.int 0)) (fLC (fBin gSub (fN 4) (fC (.int 1))) (fLC (fCall S__law_draw (fAB 0 (fAC (fV 4) fAN))) fLN)))) fAN)))) (fSetIx 8 (fBin gSub (fC (.int 1)) (fBin gIx (fN 8) (fN 9))) (fN 9))) fNext) (fFrz 8 (fRet (fV 8)))))) (endsOf Q) [.bg, .sh (fdD D), iS z, .sh s.D, iS m, iS y, .un, .un, .un, .un] := by
    intro m m0 m1
    obtain ⟨m, rfl⟩ : ∃ j : Nat, m = (j : Int) := ⟨m.toNat, by omega⟩
    have rest : ∀ o : S4, SlV D o → fSeqS (fSetN 8 (fCallO S__law_letters (fAC (fV 1) (fAC (fV 7) (fAC (fCall S__law_height (fAB 0 (fAC (fV 1) (fAC (fV 2) fAN)))) (fAC (fV 4) fAN)))))) (fSeqS (fIfS (fCmp gEq (fN 5) (fC (.int 2))) (fSeqS (fSet 9 (fCall S__law_pick (fAB 0 (fAC (fNV (fLC (fC (.int 0)) (fLC (fBin gSub (fN 4) (fC (.int 1))) (fLC (fCall S__law_draw (fAB 0 (fAC (fV 4) fAN))) fLN)))) fAN)))) (fSetIx 8 (fBin gSub (fC (.int 1)) (fBin gIx (fN 8) (fN 9))) (fN 9))) fNext) (fFrz 8 (fRet (fV 8)))) (endsOf Q) [.bg, .sh (fdD D), iS z, .sh s.D, iS (m : Int), iS y, .un, .sh o.D, .un, .un] := by
      intro o ho
      get_elem_tactic_extensible
      refine go_height hF fun h hh => ?_
      get_elem_tactic_extensible
      refine go_lett hD ho.v hh.h.v (by omega) ?_
      get_elem_tactic_extensible
      have bw := rowL_bw hD ho hh.h.v m
      have rl := rowL_len o h m
      generalize rowL o h m = w at bw rl
      refine Go.ifd (fun h2 => ?_) (fun h2 => ?_)
      · get_elem_tactic_extensible
        refine go_draw (by omega) (lg_small (by omega) (by omega)) fun t t0 t1 => ?_
        get_elem_tactic_extensible
        refine go_pick (by simp) (by simp) fun u hu => ?_
        obtain ⟨j, rfl, hj⟩ : ∃ j : Nat, u = .int (j : Int) ∧ j < m := by
          simp only [List.mem_cons, List.not_mem_nil, or_false] at hu
          rcases hu with rfl | rfl | rfl
          · exact ⟨0, rfl, by omega⟩
          · exact ⟨(m - 1 : Nat), by congr 1; omega, by omega⟩
          · exact ⟨t.toNat, by congr 1; omega, by omega⟩
        clear hu
        get_elem_tactic_extensible
        have hjl : j < w.length := by omega
        have e1 : atI (w.map PyData.int) ((j : Nat) : Int) = some (.int w[j]) := atI_nat (by rw [List.getElem?_map, List.getElem?_eq_getElem hjl]; rfl)
        refine Go.ixL_go e1 ?_
        get_elem_tactic_extensible
        rw [ixN_lt (by omega) (by rw [List.length_map]; omega)]
        get_elem_tactic_extensible
        have e2 : (w.map PyData.int).set ((j : Int)).toNat (.int (1 - w[j])) = (w.set j (1 - w[j])).map PyData.int := by
          rw [Int.toNat_natCast, List.map_set]
        rw [e2]
        refine hq _ ⟨fun x hx => ?_, by rw [List.length_set]; omega⟩
        rcases List.mem_or_eq_of_mem_set hx with hx | rfl
        · exact bw x hx
        · have := bw w[j] (List.getElem_mem hjl)
          omega
      · get_elem_tactic_extensible
        exact hq _ ⟨bw, by omega⟩
    get_elem_tactic_extensible
    refine Go.ifd (fun h => ?_) (fun h => ?_)
    · get_elem_tactic_extensible
      have hm2 : (if (60 : Int) < (m : Int) then (60 : Int) else (m : Int)) ≤ 60 := by split <;> omega
      have hm3 : 0 ≤ (if (60 : Int) < (m : Int) then (60 : Int) else (m : Int)) := by split <;> omega
      generalize (if (60 : Int) < (m : Int) then (60 : Int) else (m : Int)) = n at hm2 hm3
      refine ⟨by omega, by omega, by rw [rng_len]; unfold most; omega, ?_⟩
      refine lc_draws (P := fun x => x = 0 ∨ x = 1) (fun d K _ hK => ?_) _ _ fun cs hl hc => ?_
      · get_elem_tactic_extensible
        refine go_draw (by decide) (by decide) fun x x0 x1 => ?_
        exact hK _ (by omega)
      · rw [rng_len] at hl
        exact hq cs ⟨hc, by omega⟩
    · get_elem_tactic_extensible
      refine Go.ifd (fun h2 => ?_) (fun h2 => ?_)
      · get_elem_tactic_extensible
        refine go_slope hF fun o ho => ?_
        get_elem_tactic_extensible
        exact rest o ho
      · get_elem_tactic_extensible
        exact rest s hs
  refine Go.ifd (fun h => ?_) (fun h => ?_)
  · get_elem_tactic_extensible
    refine go_draw (by decide) (by decide) fun t t0 t1 => ?_
    get_elem_tactic_extensible
    refine go_pick (by simp) (by simp) fun u hu => ?_
    obtain ⟨m, rfl, m0, m1⟩ : ∃ m : Int, u = .int m ∧ 1 ≤ m ∧ m ≤ 500 := by
      simp only [List.mem_cons, List.not_mem_nil, or_false] at hu
      rcases hu with rfl | rfl | rfl
      · exact ⟨_, rfl, by decide, by decide⟩
      · exact ⟨_, rfl, by decide, by decide⟩
      · exact ⟨_, rfl, by omega, by omega⟩
    clear hu
    get_elem_tactic_extensible
    exact fin m m0 m1
  · get_elem_tactic_extensible
    exact fin (1 + r) (by omega) (by omega)
end T
end DL
namespace DL
namespace T
open PySem L2 PySem.Spec PyProof.Rows
local macro_rules
  | `(tactic| get_elem_tactic_extensible) => `(tactic| (repeat (first | with_reducible refine Go.lc_go ?_ | with_reducible refine Go.ln_go ?_ | ((with_reducible apply Go.v_sh); exact rfl) | ((with_reducible apply Go.n_sh); exact rfl) | ((with_reducible apply Go.n_ow); exact rfl) | ((with_reducible apply Go.ab_go); exact rfl) | ((with_reducible apply Go.app_go); exact rfl) | ((with_reducible apply Go.ext_go); exact rfl) | with_reducible refine Go.c_go ?_ | with_reducible refine Go.tup_go ?_ | with_reducible refine Go.nv_go ?_ | with_reducible refine Go.bin_go ?_ | with_reducible refine Go.slT_go ?_ | with_reducible refine Go.slL_go ?_ | with_reducible refine Go.on_go ?_ | with_reducible refine Go.os_go ?_ | with_reducible refine Go.neg_go ?_ | with_reducible refine Go.sub_go ?_ | with_reducible refine Go.addI_go ?_ | with_reducible refine Go.seqT_go ?_ | with_reducible refine Go.call_go ?_ | with_reducible refine Go.callK_go ?_ | with_reducible refine Go.cb_go ?_ | with_reducible refine Go.dict1_go ?_ | with_reducible refine Go.if_go ?_ | with_reducible refine Go.an_go ?_ | with_reducible refine Go.ac_go ?_ | with_reducible refine Go.mv_go ?_ | with_reducible refine Go.par_go ?_ | with_reducible refine Go.sq_go ?_ | with_reducible refine Go.set_go ?_ | with_reducible refine Go.setN_go ?_ | with_reducible refine Go.ret_go ?_ | with_reducible refine Go.asg_go ?_ | with_reducible refine Go.ifs_go ?_ | with_reducible refine Go.next_go ?_ | with_reducible refine Go.nm_go ?_ | with_reducible refine Go.cmp_go ?_ | with_reducible refine Go.tv_go ?_ | with_reducible refine Go.not_go ?_ | with_reducible refine Go.and_go ?_ | with_reducible refine Go.or_go ?_ | with_reducible refine Go.lenT_go ?_ | with_reducible refine Go.lenL_go ?_ | with_reducible refine Go.absI_go ?_ | with_reducible refine Go.intI_go ?_ | with_reducible refine Go.max2_go ?_ | with_reducible refine Go.min2_go ?_ | with_reducible refine Go.tupL_go ?_ | with_reducible refine Go.tupT_go ?_ | with_reducible refine Go.gv_go ?_ | with_reducible refine Go.ltI_go ?_ | with_reducible refine Go.leI_go ?_ | with_reducible refine Go.gtI_go ?_ | with_reducible refine Go.geI_go ?_ | with_reducible refine Go.eqI_go ?_ | with_reducible refine Go.neI_go ?_ | with_reducible refine Go.eqS_go ?_ | with_reducible refine Go.rng1_go ?_ | ((first | with_reducible apply Go.ixL_go | with_reducible apply Go.ixT_go); first | exact DL.at0 _ _ | exact DL.at1 _ _ _ | exact DL.at2 _ _ _ _ | exact DL.at3 _ _ _ _ _ | exact DL.at4 _ _ _ _ _ _) | ((with_reducible apply Go.frz_go); exact rfl) | ((with_reducible apply Go.frz_sh); exact rfl) | with_reducible refine Go.mn_go ?_ | with_reducible refine Go.andV_go ?_ | ((first | with_reducible apply Go.sqT_go | with_reducible apply Go.sqL_go); exact rfl) | with_reducible refine Go.gsC_go ?_ | with_reducible refine Go.gsN_go ?_ | with_reducible refine Go.ifT (by decide +kernel) ?_ | with_reducible refine Go.ifF (by decide +kernel) ?_ | with_reducible refine Go.cat_go ?_ | with_reducible refine Go.callO_go ?_ | ((with_reducible apply Go.retO_go); exact rfl) | with_reducible refine Go.retN_go ?_ | with_reducible refine Go.ifN_go ?_ | with_reducible refine Go.yes_go ?_ | with_reducible refine Go.isI_go ?_ | with_reducible refine Go.isB_go ?_ | with_reducible refine Go.isN_go ?_ | with_reducible refine Go.notN_go ?_ | with_reducible refine Go.lrev_go ?_ | with_reducible refine Go.bk_go ?_ | with_reducible refine Go.ct_go ?_ | with_reducible refine Go.rng2_go ?_ | with_reducible refine Go.orV_go ?_ | with_reducible refine Go.notV_go ?_ | ((with_reducible apply Go.setIx_go); exact rfl) | unfold fForS | unfold fLc | dsimp only [seqOf, List.set_cons_zero, List.set_cons_succ, setAll, wipeE])))
/-- from 0 to 1, of any size -/
structure P01 (D : Int) (x : S4) : Prop where
  w : Lw D x
  c : 0 < x.c
  lo : nn D x.a x.b
  hi : nn D (x.c - x.a) (-x.b)
theorem le_0 {D : Int} {x : S4} : Le D ⟨0, 0, 1, 0⟩ x ↔ nn D x.a x.b := by
  unfold Le
  simp
theorem le_1 {D : Int} {x : S4} : Le D x ⟨1, 0, 1, 0⟩ ↔ nn D (x.c - x.a) (-x.b) := by
  unfold Le
  simp
theorem p01_nrm {D a b c : Int} (hD : 0 ≤ D) (c0 : 0 < c) (lo : nn D a b) (hi : nn D (c - a) (-b)) : P01 D (nrm a b c D) := by
  obtain ⟨h1, h2, h3⟩ := nrm_back (a := a) (b := b) (c := c) D
  have gp := g3_pos (a := a) (b := b) c0
  have w := nrm_lw (a := a) (b := b) (c := c) (D := D) c0
  have cp : 0 < (nrm a b c D).c := nrm_c c0
  generalize nrm a b c D = x at *
  generalize g3 a b c = g at *
  refine ⟨w, cp, ?_, ?_⟩
  · rw [h1, h2] at lo
    exact (nn_scale hD gp).mp lo
  · have e1 : c - a = g * (x.c - x.a) := by rw [Int.mul_sub, ← h1, ← h3]
    have e2 : -b = g * (-x.b) := by rw [Int.mul_neg, ← h2]
    rw [e1, e2] at hi
    exact (nn_scale hD gp).mp hi
theorem p01_small {D : Int} {x : S4} (hD : SF D) (h : P01 D x) (k : smallB x = true) : Pt D x := by
  have d1 := hD.1
  obtain ⟨h1, h2, h3⟩ := small_ok k
  have f := h.w.inF h.c
  refine ⟨⟨⟨f, sm60 (by omega), sm60 (by omega), sm60 (by have := h.c; omega), h.c, ?_, ?_⟩, h.w⟩, le_0.mpr h.lo, le_1.mpr h.hi⟩
  · rcases f with ⟨_, z⟩ | ⟨_, z⟩ <;> omega
  · rcases f with ⟨_, z⟩ | ⟨_, z⟩
    · rw [z]; exact (by decide : (0 : Int).natAbs < 2 ^ 20)
    · rw [z]; exact hD.sm
theorem Pt.p01 {D : Int} {x : S4} (h : Pt D x) : P01 D x := ⟨h.h.w, h.h.v.b.c0, le_0.mp h.lo, le_1.mp h.hi⟩
theorem slv_p01 {D : Int} {s : S4} (h : SlV D s) : P01 D s := ⟨h.w, h.v.b.c0, h.s.lo, by
  have := h.s.hi
  unfold nn
  by_cases z : s.b = 0
  · rw [z] at this ⊢
    rw [Int.neg_zero]
    rw [gF_zero] at this ⊢
    omega
  · rw [gF_opp z]; omega⟩
theorem p01_mid {D : Int} {l h : S4} (hD : 0 ≤ D) (a : P01 D l) (b : P01 D h) : P01 D (nrm (l.a * h.c + h.a * l.c) (l.b * h.c + h.b * l.c) (2 * (l.c * h.c)) D) := by
  have cc := Int.mul_pos a.c b.c
  refine p01_nrm hD (by omega) ?_ ?_
  · have := nn_add hD ((nn_scale hD b.c).mpr a.lo) ((nn_scale hD a.c).mpr b.lo)
    have e1 : h.c * l.a + l.c * h.a = l.a * h.c + h.a * l.c := by grind
    have e2 : h.c * l.b + l.c * h.b = l.b * h.c + h.b * l.c := by grind
    rwa [e1, e2] at this
  · have := nn_add hD ((nn_scale hD b.c).mpr a.hi) ((nn_scale hD a.c).mpr b.hi)
    have e1 : h.c * (l.c - l.a) + l.c * (h.c - h.a) = 2 * (l.c * h.c) - (l.a * h.c + h.a * l.c) := by grind
    have e2 : h.c * -l.b + l.c * -h.b = -(l.b * h.c + h.b * l.c) := by grind
    rwa [e1, e2] at this
theorem p01_half {D : Int} {l : S4} (hD : 0 ≤ D) (a : P01 D l) : P01 D (nrm l.a l.b (2 * l.c) D) := by
  have c := a.c
  refine p01_nrm hD (by omega) a.lo ?_
  have := nn_add hD a.hi ((nn_int (a := l.c)).mpr (by omega))
  have e : l.c - l.a + l.c = 2 * l.c - l.a := by omega
  rwa [e, Int.add_zero] at this
theorem p01_up {D : Int} {l : S4} (hD : 0 ≤ D) (a : P01 D l) : P01 D (nrm (l.a + l.c) l.b (2 * l.c) D) := by
  have c := a.c
  refine p01_nrm hD (by omega) ?_ ?_
  · have := nn_add hD a.lo ((nn_int (a := l.c)).mpr (by omega))
    rwa [Int.add_zero] at this
  · have e : 2 * l.c - (l.a + l.c) = l.c - l.a := by omega
    rw [e]; exact a.hi
theorem inF_root {D a b c : Int} {l : S4} (f : InF D l) (h : b = l.b) : nrm a b c l.d = nrm a b c D := nrm_root (by
  rcases f with ⟨z, _⟩ | ⟨_, z⟩
  · exact .inl (by omega)
  · exact .inr z)
theorem p01_0 (D : Int) : P01 D ⟨0, 0, 1, 0⟩ := ⟨by
  unfold Lw nrm
  rw [if_neg (fun z => z rfl)]
  rfl, by decide, nn_zero D, nn_int.mpr (by decide)⟩
theorem p01_1 (D : Int) : P01 D ⟨1, 0, 1, 0⟩ := ⟨by
  unfold Lw nrm
  rw [if_neg (fun z => z rfl)]
  rfl, by decide, nn_int.mpr (by decide), nn_zero D⟩
theorem go_points {D z : Int} {b : Option (S4 × S4)} {Q : DL.D → Prop} (h : okFS (D, z)) (hb : BndV D b) (hq : ∀ ps : List S4, (∀ p ∈ ps, Pt D p) → ps.length ≤ 10 → Q (.list (ps.map S4.D))) : S__law_points [.bg, .sh (fdD D), iS z, .sh (bndD b)] Q := ⟨(D, z, b), rfl, ⟨h, hb⟩, fun ps hp => hq ps hp.1 hp.2⟩
theorem r__law_points : ∀ ss (Q : D → Prop), S__law_points ss Q → g__law_points (endsOf Q) (initE N__law_points ss) := by
  rintro ss Q ⟨⟨D, z, b⟩, rfl, ⟨hF, hb⟩, hq⟩
  have hF : okFS (D, z) := hF
  have hD : SF D := hF.1
  have d1 := hD.1
  have hb : BndV D b := hb
  have hq : ∀ ps : List S4, ((∀ p ∈ ps, Pt D p) ∧ ps.length ≤ 10) → Q (.list (ps.map S4.D)) := hq
  simp only [N__law_points, initE, List.length_cons, List.length_nil, Nat.reduceAdd, Nat.reduceSub, List.replicate, List.cons_append, List.nil_append, List.append_nil]
  unfold g__law_points
  get_elem_tactic_extensible
  have fin : ∀ (fs : List S4), (∀ p ∈ fs, P01 D p) → fs.length ≤ 7 → ∀ (s5 s6 s7 s8 s9 : Sl), fSeqS (fForS (fRng1 (fC (.int 3))) (gNm 10) (fApp 4 (fCall S__law_slope (fAB 0 (fAC (fV 1) (fAC (fV 2) fAN)))))) (fFrz 4 (fRet (fNV (fLc [11] (fSeq (fV 4)) (gNm 11) (fTV (fCall S__law_is_small (fAC (fV 11) fAN))) (fV 11))))) (endsOf Q) [.bg, .sh (fdD D), iS z, .sh (bndD b), .ow (fs.map S4.D), s5, s6, s7, s8, s9, .un, .un] := by
    intro fs hfs hfl s5 s6 s7 s8 s9
    get_elem_tactic_extensible
    refine ⟨by decide, by decide, ?_⟩
    refine for_rng (fun i ρ => ∃ (gs : List S4) (s10 : Sl), ρ = [.bg, .sh (fdD D), iS z, .sh (bndD b), .ow (gs.map S4.D), s5, s6, s7, s8, s9, s10, .un] ∧ (∀ p ∈ gs, P01 D p) ∧ (gs.length : Int) ≤ 7 + i) _ _ _ ?_ ?_ ⟨fs, _, rfl, hfs, by omega⟩
    · rintro i ρ i2 i3 ⟨gs, s10, rfl, hg, hl⟩ K hK
      have i3 : i < 3 := i3
      get_elem_tactic_extensible
      refine go_slope hF fun o ho => ?_
      refine ⟨by rw [List.length_map]; unfold most; omega, ?_⟩
      get_elem_tactic_extensible
      have e : gs.map S4.D ++ [o.D] = (gs ++ [o]).map S4.D := by rw [List.map_append]; rfl
      rw [e]
      refine hK _ ⟨gs ++ [o], _, rfl, fun p hp => ?_, by rw [List.length_append, List.length_singleton]; omega⟩
      rcases List.mem_append.mp hp with hp | hp
      · exact hg p hp
      · rw [List.mem_singleton.mp hp]; exact slv_p01 ho
    · rintro ρ ⟨gs, s10, rfl, hg, hl⟩
      have hl : (gs.length : Int) ≤ 10 := hl
      get_elem_tactic_extensible
      refine ⟨by rw [List.length_map]; unfold most; omega, ?_⟩
      refine lc_filter (f := S4.D) (F := S4.D) (c := smallB) gs (fun o ho K J h1 h2 => ?_) _ ?_
      · get_elem_tactic_extensible
        refine go_is_small (hg o ho).c ?_
        get_elem_tactic_extensible
        split
        · rename_i e
          get_elem_tactic_extensible
          exact h1 e
        · rename_i e
          exact h2 (by simpa using e)
      · refine hq _ ⟨fun p hp => ?_, ?_⟩
        · obtain ⟨h1, h2⟩ := List.mem_filter.mp hp
          exact p01_small hD (hg p h1) h2
        · have := List.length_filter_le smallB gs
          omega
  have base : ∀ p ∈ ([⟨0, 0, 1, 0⟩, ⟨1, 0, 1, 0⟩] : List S4), P01 D p := fun p hp => by
    simp only [List.mem_cons, List.not_mem_nil, or_false] at hp
    rcases hp with rfl | rfl
    · exact p01_0 D
    · exact p01_1 D
  cases b with
  | none =>
    simp only [bndD]
    get_elem_tactic_extensible
    refine Go.ifF (by decide) ?_
    exact fin [⟨0, 0, 1, 0⟩, ⟨1, 0, 1, 0⟩] base (by decide) _ _ _ _ _
  | some lh =>
    obtain ⟨l, h⟩ := lh
    obtain ⟨hl, hh⟩ := hb l h rfl
    have a := hl.p01
    have c := hh.p01
    have la := hl.h.v.b
    have ha := hh.h.v.b
    have cc : 0 < l.c * h.c := Int.mul_pos a.c c.c
    simp only [bndD] at fin ⊢
    get_elem_tactic_extensible
    refine Go.ifT rfl ?_
    get_elem_tactic_extensible
    simp only [D4]
    get_elem_tactic_extensible
    refine Go.mulI_go (mw la.c ha.c) ?_
    get_elem_tactic_extensible
    refine Go.mulI_go (mw la.a ha.c) ?_
    get_elem_tactic_extensible
    refine Go.mulI_go (mw ha.a la.c) ?_
    get_elem_tactic_extensible
    refine Go.mulI_go (mw la.b ha.c) ?_
    get_elem_tactic_extensible
    refine Go.mulI_go (mw ha.b la.c) ?_
    get_elem_tactic_extensible
    refine ⟨rfl, ?_⟩
    have two : Sm 2 (2 : Int) := (by decide : (2 : Int).natAbs < 2 ^ 2)
    get_elem_tactic_extensible
    refine Go.mulI_go (mw two (la.c.mul ha.c)) ?_
    simp only [fdD] at fin ⊢
    get_elem_tactic_extensible
    refine go_shrunk (by omega) ((two.mul (la.c.mul ha.c)).le (by decide)) ?_
    get_elem_tactic_extensible
    refine ⟨(show (5 : Nat) ≤ sizeLine by rw [sizeLine_eq]; decide), ?_⟩
    get_elem_tactic_extensible
    refine Go.mulI_go (mw two la.c) ?_
    get_elem_tactic_extensible
    refine go_shrunk (by have := a.c; omega) ((two.mul la.c).le (by decide)) ?_
    refine ⟨(show (5 : Nat) < most by unfold most; decide), ?_⟩
    get_elem_tactic_extensible
    refine Go.mulI_go (mw two ha.c) ?_
    get_elem_tactic_extensible
    refine go_shrunk (by have := c.c; omega) ((two.mul ha.c).le (by decide)) ?_
    refine ⟨(show (6 : Nat) < most by unfold most; decide), ?_⟩
    rw [inF_root hl.h.v.f rfl, inF_root hh.h.v.f rfl]
    have p1 := p01_mid (by omega) a c
    have p2 := p01_half (by omega) a
    have p3 := p01_up (by omega) c
    refine fin [⟨0, 0, 1, 0⟩, ⟨1, 0, 1, 0⟩, l, h, _, _, _] (fun p hp => ?_) (show (7 : Nat) ≤ 7 by decide) _ _ _ _ _
    simp only [List.mem_cons, List.not_mem_nil, or_false] at hp
    rcases hp with rfl | rfl | rfl | rfl | rfl | rfl | rfl
    · exact p01_0 D
    · exact p01_1 D
    · exact a
    · exact c
    · exact p1
    · exact p2
    · exact p3
theorem go_pairs {D : Int} {ps : List S4} {Q : DL.D → Prop} (hD : SF D) (hp : ∀ p ∈ ps, Pt D p) (hl : ps.length ≤ 10) (hq : ∀ rs : List (S4 × S4), (∀ p ∈ rs, PrV D p) → rs.length ≤ 13 → Q (.list (rs.map pairD))) : S__law_pairs [.sh (.list (ps.map S4.D)), .bg, .sh (fdD D)] Q := ⟨(D, ps), rfl, ⟨hD, hp, hl⟩, fun rs h => hq rs h.1 h.2⟩
def ijD (p : Nat × Nat) : DL.D := .tuple [.int (p.1 : Int), .int (p.2 : Int)]
theorem r__law_pairs : ∀ ss (Q : D → Prop), S__law_pairs ss Q → g__law_pairs (endsOf Q) (initE N__law_pairs ss) := by
  rintro ss Q ⟨⟨D, ps⟩, rfl, ⟨hD, hp, hl⟩, hq⟩
  have hD : SF D := hD
  have hp : ∀ p ∈ ps, Pt D p := hp
  have hl : ps.length ≤ 10 := hl
  have hq : ∀ rs : List (S4 × S4), ((∀ p ∈ rs, PrV D p) ∧ rs.length ≤ 13) → Q (.list (rs.map pairD)) := hq
  simp only [N__law_pairs, initE, List.length_cons, List.length_nil, Nat.reduceAdd, Nat.reduceSub, List.replicate, List.cons_append, List.nil_append, List.append_nil]
  unfold g__law_pairs
  get_elem_tactic_extensible
  refine ⟨by decide, by decide, ?_⟩
  refine for_rng (fun i ρ => ∃ (js : List (Nat × Nat)) (s4 : Sl), ρ = [.sh (.list (ps.map S4.D)), .bg, .sh (fdD D), .ow (js.map ijD), s4, .un, .un, .un, .un, .un] ∧ (js.length : Int) = 9 + i) _ _ _ ?_ ?_ ⟨[(0, 1), (0, 2), (2, 3), (3, 1), (4, 3), (2, 4), (5, 2), (3, 6), (5, 4)], _, rfl, rfl⟩
  · rintro i ρ i2 i3 ⟨js, s4, rfl, hjl⟩ K hK
    have i3 : i < 4 := i3
    get_elem_tactic_extensible
    refine go_draw (by decide) (by decide) fun x x0 x1 => ?_
    get_elem_tactic_extensible
    refine go_draw (by decide) (by decide) fun y y0 y1 => ?_
    get_elem_tactic_extensible
    refine ⟨by rw [List.length_map]; unfold most; omega, ?_⟩
    have e : js.map ijD ++ [.tuple [.int x, .int y]] = (js ++ [(x.toNat, y.toNat)]).map ijD := by
      rw [List.map_append]
      congr 1
      simp only [List.map_cons, List.map_nil, ijD]
      rw [Int.toNat_of_nonneg x0, Int.toNat_of_nonneg y0]
    get_elem_tactic_extensible
    rw [e]
    exact hK _ ⟨_, _, rfl, by rw [List.length_append, List.length_singleton]; omega⟩
  · rintro ρ ⟨js, s4, rfl, hjl⟩
    have hjl : (js.length : Int) = 13 := hjl
    get_elem_tactic_extensible
    refine for_of (fun ds ρ => ∃ (ks : List (Nat × Nat)) (rs : List (S4 × S4)) (s6 s7 s8 s9 : Sl), ds = ks.map ijD ∧ ρ = [.sh (.list (ps.map S4.D)), .bg, .sh (fdD D), .sh (.list (js.map ijD)), s4, .ow (rs.map pairD), s6, s7, s8, s9] ∧ (∀ p ∈ rs, PrV D p) ∧ rs.length + ks.length ≤ 13) ?_ ?_ _ _ ⟨js, [], _, _, _, _, rfl, rfl, fun _ h => (by cases h), by simp only [List.length_nil]; omega⟩
    · rintro d ds ρ ⟨ks, rs, s6, s7, s8, s9, he, rfl, hr, hlen⟩ K hK
      cases ks with
      | nil => cases he
      | cons k ks =>
        cases he
        obtain ⟨i, j⟩ := k
        rw [List.length_cons] at hlen
        simp only [ijD]
        get_elem_tactic_extensible
        refine Go.ifd (fun h1 => ?_) (fun h1 => ?_)
        · rw [List.length_map] at h1
          get_elem_tactic_extensible
          refine Go.ifd (fun h2 => ?_) (fun h2 => ?_)
          · rw [List.length_map] at h2
            have h1 : i < ps.length := by omega
            have h2 : j < ps.length := by omega
            have a1 : atI (ps.map S4.D) ((i : Nat) : Int) = some (ps[i]).D := atI_nat (by rw [List.getElem?_map, List.getElem?_eq_getElem h1]; rfl)
            have a2 : atI (ps.map S4.D) ((j : Nat) : Int) = some (ps[j]).D := atI_nat (by rw [List.getElem?_map, List.getElem?_eq_getElem h2]; rfl)
            have p1 := hp ps[i] (List.getElem_mem h1)
            have p2 := hp ps[j] (List.getElem_mem h2)
            generalize ps[i] = x at *
            generalize ps[j] = y at *
            get_elem_tactic_extensible
            refine Go.ixL_go a1 ?_
            get_elem_tactic_extensible
            refine Go.ixL_go a2 ?_
            get_elem_tactic_extensible
            refine ⟨rfl, ?_⟩
            simp only [fdD] at hK ⊢
            get_elem_tactic_extensible
            refine go_is_less hD p1.h.v.b p2.h.v.b ?_
            have key := fun (u v : S4) (hu : Pt D u) (hv : Pt D v) (hlt : Lt D u v) (t6 t7 t8 t9 : Sl) => hK [.sh (.list (ps.map S4.D)), .bg, .sh (.tuple [.int D, .int (RR D)]), .sh (.list (js.map ijD)), s4, .ow (rs.map pairD ++ [.tuple [u.D, v.D]]), t6, t7, t8, t9] ⟨ks, rs ++ [(u, v)], t6, t7, t8, t9, rfl, by rw [List.map_append]; rfl, fun p hp => (List.mem_append.mp hp).elim (hr p) fun z => by rw [List.mem_singleton.mp z]; exact ⟨hu, hv, hlt⟩, by rw [List.length_append, List.length_singleton]; omega⟩
            refine Go.ifd (fun lt => ?_) (fun lt => ?_)
            · get_elem_tactic_extensible
              exact ⟨by rw [List.length_map]; unfold most; omega, key x y p1 p2 lt _ _ _ _⟩
            · get_elem_tactic_extensible
              refine go_is_less hD p2.h.v.b p1.h.v.b ?_
              refine Go.ifd (fun lt => ?_) (fun lt => ?_)
              · get_elem_tactic_extensible
                exact ⟨by rw [List.length_map]; unfold most; omega, key y x p2 p1 lt _ _ _ _⟩
              · exact hK _ ⟨ks, rs, _, _, _, _, rfl, rfl, hr, by omega⟩
          · exact hK _ ⟨ks, rs, _, _, _, _, rfl, rfl, hr, by omega⟩
        · rw [if_neg (by decide)]
          exact hK _ ⟨ks, rs, _, _, _, _, rfl, rfl, hr, by omega⟩
    · rintro ρ ⟨ks, rs, s6, s7, s8, s9, he, rfl, hr, hlen⟩
      get_elem_tactic_extensible
      exact hq rs ⟨hr, by omega⟩
end T
end DL
namespace DL
namespace T
open PySem L2 PySem.Spec PyProof.Rows
local macro_rules
  | `(tactic| get_elem_tactic_extensible) => `(tactic| (repeat (first | with_reducible refine Go.lc_go ?_ | with_reducible refine Go.ln_go ?_ | ((with_reducible apply Go.v_sh); exact rfl) | ((with_reducible apply Go.n_sh); exact rfl) | ((with_reducible apply Go.n_ow); exact rfl) | ((with_reducible apply Go.ab_go); exact rfl) | ((with_reducible apply Go.app_go); exact rfl) | ((with_reducible apply Go.ext_go); exact rfl) | with_reducible refine Go.c_go ?_ | with_reducible refine Go.tup_go ?_ | with_reducible refine Go.nv_go ?_ | with_reducible refine Go.bin_go ?_ | with_reducible refine Go.slT_go ?_ | with_reducible refine Go.slL_go ?_ | with_reducible refine Go.on_go ?_ | with_reducible refine Go.os_go ?_ | with_reducible refine Go.neg_go ?_ | with_reducible refine Go.sub_go ?_ | with_reducible refine Go.addI_go ?_ | with_reducible refine Go.seqT_go ?_ | with_reducible refine Go.call_go ?_ | with_reducible refine Go.callK_go ?_ | with_reducible refine Go.cb_go ?_ | with_reducible refine Go.dict1_go ?_ | with_reducible refine Go.if_go ?_ | with_reducible refine Go.an_go ?_ | with_reducible refine Go.ac_go ?_ | with_reducible refine Go.mv_go ?_ | with_reducible refine Go.par_go ?_ | with_reducible refine Go.sq_go ?_ | with_reducible refine Go.set_go ?_ | with_reducible refine Go.setN_go ?_ | with_reducible refine Go.ret_go ?_ | with_reducible refine Go.asg_go ?_ | with_reducible refine Go.ifs_go ?_ | with_reducible refine Go.next_go ?_ | with_reducible refine Go.nm_go ?_ | with_reducible refine Go.cmp_go ?_ | with_reducible refine Go.tv_go ?_ | with_reducible refine Go.not_go ?_ | with_reducible refine Go.and_go ?_ | with_reducible refine Go.or_go ?_ | with_reducible refine Go.lenT_go ?_ | with_reducible refine Go.lenL_go ?_ | with_reducible refine Go.absI_go ?_ | with_reducible refine Go.intI_go ?_ | with_reducible refine Go.max2_go ?_ | with_reducible refine Go.min2_go ?_ | with_reducible refine Go.tupL_go ?_ | with_reducible refine Go.tupT_go ?_ | with_reducible refine Go.gv_go ?_ | with_reducible refine Go.ltI_go ?_ | with_reducible refine Go.leI_go ?_ | with_reducible refine Go.gtI_go ?_ | with_reducible refine Go.geI_go ?_ | with_reducible refine Go.eqI_go ?_ | with_reducible refine Go.neI_go ?_ | with_reducible refine Go.eqS_go ?_ | with_reducible refine Go.rng1_go ?_ | ((first | with_reducible apply Go.ixL_go | with_reducible apply Go.ixT_go); first | exact DL.at0 _ _ | exact DL.at1 _ _ _ | exact DL.at2 _ _ _ _ | exact DL.at3 _ _ _ _ _ | exact DL.at4 _ _ _ _ _ _) | ((with_reducible apply Go.frz_go); exact rfl) | ((with_reducible apply Go.frz_sh); exact rfl) | with_reducible refine Go.mn_go ?_ | with_reducible refine Go.andV_go ?_ | ((first | with_reducible apply Go.sqT_go | with_reducible apply Go.sqL_go); exact rfl) | with_reducible refine Go.gsC_go ?_ | with_reducible refine Go.gsN_go ?_ | with_reducible refine Go.ifT (by decide +kernel) ?_ | with_reducible refine Go.ifF (by decide +kernel) ?_ | with_reducible refine Go.cat_go ?_ | with_reducible refine Go.callO_go ?_ | ((with_reducible apply Go.retO_go); exact rfl) | with_reducible refine Go.retN_go ?_ | with_reducible refine Go.ifN_go ?_ | with_reducible refine Go.yes_go ?_ | with_reducible refine Go.isI_go ?_ | with_reducible refine Go.isB_go ?_ | with_reducible refine Go.isN_go ?_ | with_reducible refine Go.notN_go ?_ | with_reducible refine Go.lrev_go ?_ | with_reducible refine Go.bk_go ?_ | with_reducible refine Go.ct_go ?_ | with_reducible refine Go.rng2_go ?_ | with_reducible refine Go.orV_go ?_ | with_reducible refine Go.notV_go ?_ | ((with_reducible apply Go.setIx_go); exact rfl) | unfold fForS | unfold fLc | dsimp only [seqOf, List.set_cons_zero, List.set_cons_succ, setAll, wipeE])))
/-! ### orders told by signs -/
theorem ord_eq {D : Int} {x y : S4} (hD : 0 ≤ D) (f : InF D x) (g : InF D y) (hx : 0 < x.c) (hy : 0 < y.c) : ordS x y = sgn (x.a * y.c - y.a * x.c) (x.b * y.c - y.b * x.c) D := by
  have cc := Int.mul_pos hx hy
  have e : sumS x (negS y) = nrm (x.a * y.c + -y.a * x.c) (x.b * y.c + -y.b * x.c) (x.c * y.c) D := sum_rep hD f g.neg
  unfold ordS
  rw [e]
  obtain ⟨h1, h2, h3⟩ := nrm_back (a := x.a * y.c + -y.a * x.c) (b := x.b * y.c + -y.b * x.c) (c := x.c * y.c) D
  have gp := g3_pos (a := x.a * y.c + -y.a * x.c) (b := x.b * y.c + -y.b * x.c) cc
  have fi := nrm_inF (a := x.a * y.c + -y.a * x.c) (b := x.b * y.c + -y.b * x.c) (D := D) cc
  generalize nrm (x.a * y.c + -y.a * x.c) (x.b * y.c + -y.b * x.c) (x.c * y.c) D = N at *
  generalize g3 (x.a * y.c + -y.a * x.c) (x.b * y.c + -y.b * x.c) (x.c * y.c) = G at *
  have e1 : x.a * y.c - y.a * x.c = G * N.a := by rw [← h1]; grind
  have e2 : x.b * y.c - y.b * x.c = G * N.b := by rw [← h2]; grind
  rw [e1, e2, sgn_scale gp]
  rcases fi with ⟨z, _⟩ | ⟨_, z⟩
  · rw [z]; unfold sgn; simp
  · rw [z]
theorem gt_sgn {D a b : Int} (hD : 0 < D) : 0 < sgn a b D ↔ ¬ nn D (-a) (-b) := by
  rw [sgn_gt (by omega) (.inr (by omega))]
  unfold nn
  by_cases z : b = 0
  · rw [if_pos z, z, Int.neg_zero, gF_zero]; omega
  · rw [if_neg z, gF_opp z]; omega
theorem lt_of_gt {D : Int} {x y : S4} (hD : 0 < D) : 0 < sgn (x.a * y.c - y.a * x.c) (x.b * y.c - y.b * x.c) D ↔ Lt D y x := by
  rw [gt_sgn hD]
  unfold Lt Le
  rw [Int.neg_sub, Int.neg_sub]
theorem ord_gt {D : Int} {x y : S4} (hD : 0 < D) (f : InF D x) (g : InF D y) (hx : 0 < x.c) (hy : 0 < y.c) : 0 < ordS x y ↔ Lt D y x := by
  rw [ord_eq (by omega) f g hx hy, lt_of_gt hD]
theorem ord_lt {D : Int} {x y : S4} (hD : 0 < D) (f : InF D x) (g : InF D y) (hx : 0 < x.c) (hy : 0 < y.c) : ordS x y < 0 ↔ Lt D x y := by
  rw [ord_eq (by omega) f g hx hy, lt_sgn hD]
/-- two pairs over one divisor -/
def rw4 (D c : Int) (p : Int × Int) : S4 := ⟨p.1, p.2, c, D⟩
theorem pr_gt {D c : Int} {p q : Int × Int} (hD : 0 < D) (hc : 0 < c) : 0 < sgn (p.1 - q.1) (p.2 - q.2) D ↔ Lt D (rw4 D c q) (rw4 D c p) := by
  rw [← lt_of_gt hD, ← sgn_scale (k := c) hc]
  have e1 : c * (p.1 - q.1) = (rw4 D c p).a * (rw4 D c q).c - (rw4 D c q).a * (rw4 D c p).c := by simp only [rw4]; grind
  have e2 : c * (p.2 - q.2) = (rw4 D c p).b * (rw4 D c q).c - (rw4 D c q).b * (rw4 D c p).c := by simp only [rw4]; grind
  rw [e1, e2]
theorem pr_lt {D c : Int} {p q : Int × Int} (hD : 0 < D) (hc : 0 < c) : sgn (p.1 - q.1) (p.2 - q.2) D < 0 ↔ Lt D (rw4 D c p) (rw4 D c q) := by
  rw [← lt_sgn hD, ← sgn_scale (k := c) hc]
  have e1 : c * (p.1 - q.1) = (rw4 D c p).a * (rw4 D c q).c - (rw4 D c q).a * (rw4 D c p).c := by simp only [rw4]; grind
  have e2 : c * (p.2 - q.2) = (rw4 D c p).b * (rw4 D c q).c - (rw4 D c q).b * (rw4 D c p).c := by simp only [rw4]; grind
  rw [e1, e2]
theorem lt_max {D : Int} {l p y : S4} (hD : 0 ≤ D) (hl : 0 < l.c) (hp : 0 < p.c) (hy : 0 < y.c) : Lt D (if Lt D l p then p else l) y ↔ Lt D l y ∧ Lt D p y := by
  split
  · rename_i h
    exact ⟨fun k => ⟨Lt.of_le hD hl hp hy h.le k, k⟩, fun k => k.2⟩
  · rename_i h
    have h : Le D p l := Classical.byContradiction fun z => h z
    exact ⟨fun k => ⟨k, Lt.of_le hD hp hl hy h k⟩, fun k => k.1⟩
theorem lt_min {D : Int} {h p x : S4} (hD : 0 ≤ D) (hh : 0 < h.c) (hp : 0 < p.c) (hx : 0 < x.c) : Lt D x (if Lt D p h then p else h) ↔ Lt D x h ∧ Lt D x p := by
  split
  · rename_i k
    exact ⟨fun q => ⟨Lt.to_le hD hx hp hh q k.le, q⟩, fun q => q.2⟩
  · rename_i k
    have k : Le D h p := Classical.byContradiction fun z => k z
    exact ⟨fun q => ⟨q, Lt.to_le hD hx hh hp q k⟩, fun q => q.1⟩
/-! ### a step of the point -/
theorem pt_step {D A B l : Int} {s : S4} (hD : 0 ≤ D) (f : InF D s) (c0 : 0 < s.c) : sumS (sumS (nrm A B s.c D) ⟨l, 0, 1, 0⟩) (negS s) = nrm (A + l * s.c - s.a) (B - s.b) s.c D := by
  rw [sum_nrm hD c0 (InF.int D l)]
  have e1 : A * 1 + l * s.c = A + l * s.c := by omega
  have e2 : B * 1 + 0 * s.c = B := by simp
  have e3 : s.c * 1 = s.c := by omega
  show sumS (nrm (A * 1 + l * s.c) (B * 1 + 0 * s.c) (s.c * 1) D) (negS s) = _
  rw [e1, e2, e3, sum_nrm hD c0 f.neg]
  show nrm ((A + l * s.c) * s.c + -s.a * s.c) (B * s.c + -s.b * s.c) (s.c * s.c) D = _
  have e4 : (A + l * s.c) * s.c + -s.a * s.c = s.c * (A + l * s.c - s.a) := by grind
  have e5 : B * s.c + -s.b * s.c = s.c * (B - s.b) := by grind
  rw [e4, e5, nrm_scale c0]
theorem up_one {D A B c : Int} (hD : 0 ≤ D) (c0 : 0 < c) : sumS (nrm A B c D) one4 = nrm (A + c) B c D := by
  rw [show one4 = (⟨1, 0, 1, 0⟩ : S4) from rfl, sum_nrm hD c0 (InF.int D 1)]
  show nrm (A * 1 + 1 * c) (B * 1 + 0 * c) (c * 1) D = _
  have e1 : A * 1 + 1 * c = A + c := by omega
  have e2 : B * 1 + 0 * c = B := by simp
  have e3 : c * 1 = c := by omega
  rw [e1, e2, e3]
/-- the program's state beside the law's -/
structure Both (D : Int) (s x y : S4) (t : Hb) (u : Bn) : Prop where
  pt : t.pt = nrm (u.ones * s.c - u.k * s.a) (-u.k * s.b) s.c D
  lf : InF D t.low ∧ 0 < t.low.c
  hf : InF D t.high ∧ 0 < t.high.c
  lo : ∀ z : S4, 0 < z.c → (Lt D t.low z ↔ Lt D x z ∧ Lt D (rw4 D s.c u.low) z)
  hi : ∀ z : S4, 0 < z.c → (Lt D z t.high ↔ Lt D z y ∧ Lt D z (rw4 D s.c u.high))
theorem Both.step {D : Int} {s x y : S4} {t : Hb} {u : Bn} (hD : 0 < D) (f : InF D s) (c0 : 0 < s.c) (h : Both D s x y t u) (l : Int) : Both D s x y (stepH s t l) (stepB D s u l) := by
  have ep : sumS (sumS t.pt ⟨l, 0, 1, 0⟩) (negS s) = nrm (q1 s u l) (q2 s u) s.c D := by
    rw [h.pt, pt_step (by omega) f c0]
    have e1 : u.ones * s.c - u.k * s.a + l * s.c - s.a = q1 s u l := by unfold q1; grind
    have e2 : -u.k * s.b - s.b = q2 s u := by unfold q2; grind
    rw [e1, e2]
  have ea := up_one (D := D) (A := q1 s u l) (B := q2 s u) (by omega) c0
  have pf := nrm_inF (a := q1 s u l) (b := q2 s u) (D := D) c0
  have pc : 0 < (nrm (q1 s u l) (q2 s u) s.c D).c := nrm_c c0
  have af := nrm_inF (a := q1 s u l + s.c) (b := q2 s u) (D := D) c0
  have ac : 0 < (nrm (q1 s u l + s.c) (q2 s u) s.c D).c := nrm_c c0
  have sl : (stepH s t l).low = if Lt D t.low (nrm (q1 s u l) (q2 s u) s.c D) then nrm (q1 s u l) (q2 s u) s.c D else t.low := by
    show (if 0 < ordS (sumS (sumS t.pt ⟨l, 0, 1, 0⟩) (negS s)) t.low then sumS (sumS t.pt ⟨l, 0, 1, 0⟩) (negS s) else t.low) = _
    rw [ep]
    simp only [ord_gt hD pf h.lf.1 pc h.lf.2]
  have sh : (stepH s t l).high = if Lt D (nrm (q1 s u l + s.c) (q2 s u) s.c D) t.high then nrm (q1 s u l + s.c) (q2 s u) s.c D else t.high := by
    show (if ordS (sumS (sumS (sumS t.pt ⟨l, 0, 1, 0⟩) (negS s)) one4) t.high < 0 then sumS (sumS (sumS t.pt ⟨l, 0, 1, 0⟩) (negS s)) one4 else t.high) = _
    rw [ep, ea]
    simp only [ord_lt hD af h.hf.1 ac h.hf.2]
  have ul : rw4 D s.c (stepB D s u l).low = if Lt D (rw4 D s.c u.low) (rw4 D s.c (q1 s u l, q2 s u)) then rw4 D s.c (q1 s u l, q2 s u) else rw4 D s.c u.low := by
    show rw4 D s.c (if 0 < sgn (q1 s u l - u.low.1) (q2 s u - u.low.2) D then (q1 s u l, q2 s u) else u.low) = _
    have := pr_gt (D := D) (c := s.c) (p := (q1 s u l, q2 s u)) (q := u.low) hD c0
    simp only [this]
    split <;> rfl
  have uh : rw4 D s.c (stepB D s u l).high = if Lt D (rw4 D s.c (q1 s u l + s.c, q2 s u)) (rw4 D s.c u.high) then rw4 D s.c (q1 s u l + s.c, q2 s u) else rw4 D s.c u.high := by
    show rw4 D s.c (if sgn (q1 s u l + s.c - u.high.1) (q2 s u - u.high.2) D < 0 then (q1 s u l + s.c, q2 s u) else u.high) = _
    have := pr_lt (D := D) (c := s.c) (p := (q1 s u l + s.c, q2 s u)) (q := u.high) hD c0
    simp only [this]
    split <;> rfl
  refine ⟨?_, ?_, ?_, fun z hz => ?_, fun z hz => ?_⟩
  · show sumS (sumS t.pt ⟨l, 0, 1, 0⟩) (negS s) = _
    rw [ep]; rfl
  · rw [sl]
    split
    · exact ⟨pf, pc⟩
    · exact h.lf
  · rw [sh]
    split
    · exact ⟨af, ac⟩
    · exact h.hf
  · rw [sl, ul, lt_max (by omega) h.lf.2 pc hz, lt_max (l := rw4 D s.c u.low) (p := rw4 D s.c (q1 s u l, q2 s u)) (Int.le_of_lt hD) c0 c0 hz, h.lo z hz]
    have : Lt D (nrm (q1 s u l) (q2 s u) s.c D) z ↔ Lt D (rw4 D s.c (q1 s u l, q2 s u)) z := not_congr (le_nrm' (by omega) c0)
    rw [this, and_assoc]
  · rw [sh, uh, lt_min (by omega) h.hf.2 ac hz, lt_min (h := rw4 D s.c u.high) (p := rw4 D s.c (q1 s u l + s.c, q2 s u)) (Int.le_of_lt hD) c0 c0 hz, h.hi z hz]
    have : Lt D z (nrm (q1 s u l + s.c) (q2 s u) s.c D) ↔ Lt D z (rw4 D s.c (q1 s u l + s.c, q2 s u)) := not_congr (le_nrm (by omega) c0)
    rw [this, and_assoc]
theorem Both.all {D : Int} {s x y : S4} (hD : 0 < D) (f : InF D s) (c0 : 0 < s.c) : ∀ (w : List Int) {t : Hb} {u : Bn}, Both D s x y t u → Both D s x y (w.foldl (stepH s) t) (w.foldl (stepB D s) u)
  | [], _, _, h => h
  | l :: w, _, _, h => Both.all hD f c0 w (h.step hD f c0 l)
theorem both0 {D : Int} {s x y : S4} (hD : 0 < D) (c0 : 0 < s.c) (hx : Pt D x) (hy : Pt D y) : Both D s x y ⟨x, y, zero4⟩ ⟨(0, 0), (s.c, 0), 0, 0⟩ := by
  refine ⟨?_, ⟨hx.h.v.f, hx.h.v.b.c0⟩, ⟨hy.h.v.f, hy.h.v.b.c0⟩, fun z hz => ⟨fun k => ⟨k, ?_⟩, fun k => k.1⟩, fun z hz => ⟨fun k => ⟨k, ?_⟩, fun k => k.1⟩⟩
  · have e1 : (0 : Int) * s.c - 0 * s.a = s.c * 0 := by simp
    have e2 : -(0 : Int) * s.b = s.c * 0 := by simp
    show zero4 = nrm (0 * s.c - 0 * s.a) (-0 * s.b) s.c D
    rw [e1, e2]
    have e3 : nrm (s.c * 0) (s.c * 0) (s.c * 1) D = nrm 0 0 1 D := nrm_scale c0
    rw [Int.mul_one] at e3
    rw [e3]
    exact (p01_0 D).w
  · refine Lt.of_le (by omega) (show 0 < s.c from c0) hx.h.v.b.c0 hz ?_ k
    have := hx.lo
    unfold Le at this ⊢
    have e1 : x.a * s.c - 0 * x.c = s.c * (x.a * 1 - 0 * x.c) := by grind
    have e2 : x.b * s.c - 0 * x.c = s.c * (x.b * 1 - 0 * x.c) := by grind
    show nn D (x.a * s.c - 0 * x.c) (x.b * s.c - 0 * x.c)
    rw [e1, e2]
    exact (nn_scale (by omega) c0).mpr this
  · refine Lt.to_le (by omega) hz hy.h.v.b.c0 (show 0 < s.c from c0) k ?_
    have := hy.hi
    unfold Le at this ⊢
    have e1 : s.c * y.c - y.a * s.c = s.c * (1 * y.c - y.a * 1) := by grind
    have e2 : 0 * y.c - y.b * s.c = s.c * (0 * y.c - y.b * 1) := by grind
    show nn D (s.c * y.c - y.a * s.c) (0 * y.c - y.b * s.c)
    rw [e1, e2]
    exact (nn_scale (by omega) c0).mpr this
/-- what is due -/
noncomputable def dueB (D : Int) (x y : S4) : Option (S4 × S4) → Bool
  | none => false
  | some (l, h) => decide (Lt D l y) && decide (Lt D x h)
theorem hb_due {D : Int} {s x y : S4} {w : List Int} (hD : SF D) (hs : SlV D s) (p : PrV D (x, y)) : hb s x y w = dueB D x y (bnd D s w) := by
  have d1 := hD.1
  have c0 := hs.v.b.c0
  have B := Both.all (D := D) (by omega) hs.v.f c0 w (both0 (s := s) (by omega) c0 p.x p.y)
  unfold hb bnd bnF
  simp only
  generalize w.foldl (stepH s) ⟨x, y, zero4⟩ = t at B ⊢
  generalize w.foldl (stepB D s) ⟨(0, 0), (s.c, 0), 0, 0⟩ = u at B ⊢
  have e1 : sgn (sumS t.low (negS t.high)).a (sumS t.low (negS t.high)).b (sumS t.low (negS t.high)).d < 0 ↔ Lt D t.low t.high := ord_lt (by omega) B.lf.1 B.hf.1 B.lf.2 B.hf.2
  have key : Lt D t.low t.high ↔ (Lt D x (rw4 D s.c u.high) ∧ Lt D (rw4 D s.c u.low) y) ∧ Lt D (rw4 D s.c u.low) (rw4 D s.c u.high) := by
    have hx : 0 < x.c := p.x.h.v.b.c0
    have h2 := B.hi (rw4 D s.c u.low) c0
    rw [B.lo _ B.hf.2, B.hi x hx, h2]
    constructor
    · rintro ⟨⟨_, h2⟩, h3, h4⟩
      exact ⟨⟨h2, h3⟩, h4⟩
    · rintro ⟨⟨h2, h3⟩, h4⟩
      exact ⟨⟨p.lt, h2⟩, h3, h4⟩
  have e2 : sgn (u.high.1 - u.low.1) (u.high.2 - u.low.2) D ≤ 0 ↔ ¬ Lt D (rw4 D s.c u.low) (rw4 D s.c u.high) := by
    rw [← pr_gt (D := D) (c := s.c) (p := u.high) (q := u.low) (by omega) c0]
    omega
  simp only [e1, e2]
  by_cases z : Lt D (rw4 D s.c u.low) (rw4 D s.c u.high)
  · rw [if_neg (fun w => w z)]
    unfold dueB
    simp only
    have a1 : Lt D (nrm u.low.1 u.low.2 s.c D) y ↔ Lt D (rw4 D s.c u.low) y := not_congr (le_nrm' (by omega) c0)
    have a2 : Lt D x (nrm u.high.1 u.high.2 s.c D) ↔ Lt D x (rw4 D s.c u.high) := not_congr (le_nrm (by omega) c0)
    by_cases k : Lt D t.low t.high
    · obtain ⟨⟨k1, k2⟩, _⟩ := key.mp k
      rw [decide_eq_true k, decide_eq_true (a1.mpr k2), decide_eq_true (a2.mpr k1)]; rfl
    · rw [decide_eq_false k]
      by_cases k1 : Lt D x (rw4 D s.c u.high)
      · have k2 : ¬ Lt D (rw4 D s.c u.low) y := fun k2 => k (key.mpr ⟨⟨k1, k2⟩, z⟩)
        rw [decide_eq_false (fun w => k2 (a1.mp w))]; rfl
      · rw [decide_eq_false (fun w => k1 (a2.mp w)), Bool.and_false]
  · rw [if_pos z]
    unfold dueB
    exact decide_eq_false fun k => z (key.mp k).2
/-! ### the bounds lie between 0 and 1 -/
structure In1 (D : Int) (s : S4) (t : Bn) : Prop where
  lo : nn D t.low.1 t.low.2
  hi : nn D (s.c - t.high.1) (-t.high.2)
theorem In1.step {D : Int} {s : S4} {t : Bn} (hD : 0 < D) (h : In1 D s t) (l : Int) : In1 D s (stepB D s t l) := by
  constructor
  · show nn D (if 0 < sgn (q1 s t l - t.low.1) (q2 s t - t.low.2) D then (q1 s t l, q2 s t) else t.low).1 (if 0 < sgn (q1 s t l - t.low.1) (q2 s t - t.low.2) D then (q1 s t l, q2 s t) else t.low).2
    split
    · rename_i k
      have k := (gt_sgn hD).mp k
      have k := (nn_tot (D := D) (a := q1 s t l - t.low.1) (b := q2 s t - t.low.2)).resolve_right k
      have := nn_add (by omega) k h.lo
      have e1 : q1 s t l - t.low.1 + t.low.1 = q1 s t l := by omega
      have e2 : q2 s t - t.low.2 + t.low.2 = q2 s t := by omega
      rwa [e1, e2] at this
    · exact h.lo
  · show nn D (s.c - (if sgn (q1 s t l + s.c - t.high.1) (q2 s t - t.high.2) D < 0 then (q1 s t l + s.c, q2 s t) else t.high).1) (-(if sgn (q1 s t l + s.c - t.high.1) (q2 s t - t.high.2) D < 0 then (q1 s t l + s.c, q2 s t) else t.high).2)
    split
    · rename_i k
      have k2 : ¬ (0 < sgn (q1 s t l + s.c - t.high.1) (q2 s t - t.high.2) D ∨ sgn (q1 s t l + s.c - t.high.1) (q2 s t - t.high.2) D = 0) := by omega
      rw [sgn_ge (by omega) (.inr (by omega))] at k2
      have k3 := (nn_tot (D := D) (a := q1 s t l + s.c - t.high.1) (b := q2 s t - t.high.2)).resolve_left k2
      have := nn_add (by omega) k3 h.hi
      have e1 : -(q1 s t l + s.c - t.high.1) + (s.c - t.high.1) = s.c - (q1 s t l + s.c) := by omega
      have e2 : -(q2 s t - t.high.2) + -t.high.2 = -q2 s t := by omega
      rwa [e1, e2] at this
    · exact h.hi
theorem In1.all {D : Int} {s : S4} (hD : 0 < D) : ∀ (w : List Int) {t : Bn}, In1 D s t → In1 D s (w.foldl (stepB D s) t)
  | [], _, h => h
  | l :: w, _, h => In1.all hD w (h.step hD l)
theorem BnS.all {D : Int} {s : S4} (n : Bd 51 s) : ∀ (w : List Int) {t : Bn}, Bw w → BnS t → t.k + w.length ≤ 500 → BnS (w.foldl (stepB D s) t)
  | [], _, _, h, _ => h
  | l :: w, t, hw, h, hk => BnS.all n w (fun x hx => hw x (List.mem_cons_of_mem _ hx)) (stepB_ok n h (hw l List.mem_cons_self) (by rw [List.length_cons] at hk; omega)) (by
      rw [List.length_cons] at hk
      show t.k + 1 + w.length ≤ 500
      omega)
theorem bnd_v {D : Int} {s : S4} {w : List Int} (hD : SF D) (hs : SlV D s) (hw : Bw w) (hl : w.length ≤ 500) : BndV D (bnd D s w) := by
  intro l h e
  have d1 := hD.1
  have c0 := hs.v.b.c0
  have I := In1.all (D := D) (s := s) (by omega) w (t := ⟨(0, 0), (s.c, 0), 0, 0⟩) ⟨nn_zero D, by
    show nn D (s.c - s.c) (-0)
    rw [Int.sub_self, Int.neg_zero]; exact nn_zero D⟩
  have S := BnS.all (D := D) hs.n w hw (t := ⟨(0, 0), (s.c, 0), 0, 0⟩) ⟨sm0', sm0', hs.n.c.le (by decide), sm0', ⟨Int.le_refl 0, Int.le_refl 0⟩, Int.le_refl 0⟩ (by show (0 : Int) + w.length ≤ 500; omega)
  unfold bnd bnF at e
  simp only at e
  generalize w.foldl (stepB D s) ⟨(0, 0), (s.c, 0), 0, 0⟩ = u at I S e
  split at e
  · cases e
  · rename_i z
    have z := (gt_sgn (by omega)).mp (by omega : 0 < sgn (u.high.1 - u.low.1) (u.high.2 - u.low.2) D)
    have z := (nn_tot (D := D) (a := u.high.1 - u.low.1) (b := u.high.2 - u.low.2)).resolve_right z
    cases e
    have a1 := nn_add (by omega) z I.lo
    have e1 : u.high.1 - u.low.1 + u.low.1 = u.high.1 := by omega
    have e2 : u.high.2 - u.low.2 + u.low.2 = u.high.2 := by omega
    rw [e1, e2] at a1
    have a2 := nn_add (by omega) z I.hi
    have e3 : u.high.1 - u.low.1 + (s.c - u.high.1) = s.c - u.low.1 := by omega
    have e4 : u.high.2 - u.low.2 + -u.high.2 = -u.low.2 := by omega
    rw [e3, e4] at a2
    have p1 := p01_nrm (by omega) c0 I.lo a2
    have p2 := p01_nrm (by omega) c0 a1 I.hi
    have h1 := ht_nrm hD c0 (S.l1.le (by decide)) (S.l2.le (by decide)) (hs.n.c.le (by decide))
    have h2 := ht_nrm hD c0 (S.h1.le (by decide)) (S.h2.le (by decide)) (hs.n.c.le (by decide))
    exact ⟨⟨h1, le_0.mpr p1.lo, le_1.mpr p1.hi⟩, ⟨h2, le_0.mpr p2.lo, le_1.mpr p2.hi⟩⟩
end T
end DL
namespace DL
namespace T
open PySem L2 PySem.Spec PyProof.Rows
local macro_rules
  | `(tactic| get_elem_tactic_extensible) => `(tactic| (repeat (first | with_reducible refine Go.lc_go ?_ | with_reducible refine Go.ln_go ?_ | ((with_reducible apply Go.v_sh); exact rfl) | ((with_reducible apply Go.n_sh); exact rfl) | ((with_reducible apply Go.n_ow); exact rfl) | ((with_reducible apply Go.ab_go); exact rfl) | ((with_reducible apply Go.app_go); exact rfl) | ((with_reducible apply Go.ext_go); exact rfl) | with_reducible refine Go.c_go ?_ | with_reducible refine Go.tup_go ?_ | with_reducible refine Go.nv_go ?_ | with_reducible refine Go.bin_go ?_ | with_reducible refine Go.slT_go ?_ | with_reducible refine Go.slL_go ?_ | with_reducible refine Go.on_go ?_ | with_reducible refine Go.os_go ?_ | with_reducible refine Go.neg_go ?_ | with_reducible refine Go.sub_go ?_ | with_reducible refine Go.addI_go ?_ | with_reducible refine Go.seqT_go ?_ | with_reducible refine Go.call_go ?_ | with_reducible refine Go.callK_go ?_ | with_reducible refine Go.cb_go ?_ | with_reducible refine Go.dict1_go ?_ | with_reducible refine Go.if_go ?_ | with_reducible refine Go.an_go ?_ | with_reducible refine Go.ac_go ?_ | with_reducible refine Go.mv_go ?_ | with_reducible refine Go.par_go ?_ | with_reducible refine Go.sq_go ?_ | with_reducible refine Go.set_go ?_ | with_reducible refine Go.setN_go ?_ | with_reducible refine Go.ret_go ?_ | with_reducible refine Go.asg_go ?_ | with_reducible refine Go.ifs_go ?_ | with_reducible refine Go.next_go ?_ | with_reducible refine Go.nm_go ?_ | with_reducible refine Go.cmp_go ?_ | with_reducible refine Go.tv_go ?_ | with_reducible refine Go.not_go ?_ | with_reducible refine Go.and_go ?_ | with_reducible refine Go.or_go ?_ | with_reducible refine Go.lenT_go ?_ | with_reducible refine Go.lenL_go ?_ | with_reducible refine Go.absI_go ?_ | with_reducible refine Go.intI_go ?_ | with_reducible refine Go.max2_go ?_ | with_reducible refine Go.min2_go ?_ | with_reducible refine Go.tupL_go ?_ | with_reducible refine Go.tupT_go ?_ | with_reducible refine Go.gv_go ?_ | with_reducible refine Go.ltI_go ?_ | with_reducible refine Go.leI_go ?_ | with_reducible refine Go.gtI_go ?_ | with_reducible refine Go.geI_go ?_ | with_reducible refine Go.eqI_go ?_ | with_reducible refine Go.neI_go ?_ | with_reducible refine Go.eqS_go ?_ | with_reducible refine Go.rng1_go ?_ | ((first | with_reducible apply Go.ixL_go | with_reducible apply Go.ixT_go); first | exact DL.at0 _ _ | exact DL.at1 _ _ _ | exact DL.at2 _ _ _ _ | exact DL.at3 _ _ _ _ _ | exact DL.at4 _ _ _ _ _ _) | ((with_reducible apply Go.frz_go); exact rfl) | ((with_reducible apply Go.frz_sh); exact rfl) | with_reducible refine Go.mn_go ?_ | with_reducible refine Go.andV_go ?_ | ((first | with_reducible apply Go.sqT_go | with_reducible apply Go.sqL_go); exact rfl) | with_reducible refine Go.gsC_go ?_ | with_reducible refine Go.gsN_go ?_ | with_reducible refine Go.ifT (by decide +kernel) ?_ | with_reducible refine Go.ifF (by decide +kernel) ?_ | with_reducible refine Go.cat_go ?_ | with_reducible refine Go.callO_go ?_ | ((with_reducible apply Go.retO_go); exact rfl) | with_reducible refine Go.retN_go ?_ | with_reducible refine Go.ifN_go ?_ | with_reducible refine Go.yes_go ?_ | with_reducible refine Go.isI_go ?_ | with_reducible refine Go.isB_go ?_ | with_reducible refine Go.isN_go ?_ | with_reducible refine Go.notN_go ?_ | with_reducible refine Go.lrev_go ?_ | with_reducible refine Go.bk_go ?_ | with_reducible refine Go.ct_go ?_ | with_reducible refine Go.rng2_go ?_ | with_reducible refine Go.orV_go ?_ | with_reducible refine Go.notV_go ?_ | ((with_reducible apply Go.setIx_go); exact rfl) | unfold fForS | unfold fLc | dsimp only [seqOf, List.set_cons_zero, List.set_cons_succ, setAll, wipeE])))
theorem go_height_between {D : Int} {s h o : S4} {w : List Int} {Q : DL.D → Prop} (hD : SF D) (a : Vs D s) (b : Vs D h) (c : Vs D o) (hw : Bw w) (hl : w.length ≤ 500) (hq : Q (.bool (hb s h o w))) : S_height_between [.sh s.D, .sh h.D, .sh o.D, .sh (wdD w)] Q := ⟨D, s, h, o, w, rfl, hD, a, b, c, hw, hl, hq⟩
theorem bd_one (m : Nat) (hm : 1 ≤ m) : Bd m one4 := bd_int (Sm.le (k := 1) (show (1 : Int).natAbs < 2 ^ 1 by decide) hm) hm
theorem r_height_between : ∀ ss (Q : D → Prop), S_height_between ss Q → g_height_between (endsOf Q) (initE N_height_between ss) := by
  rintro ss Q ⟨D, s, h, o, w, rfl, hD, vs, vh, vo, hw, hl, hq⟩
  have d1 := hD.1
  have c0 := vs.b.c0
  have bs := vs.b
  simp only [N_height_between, wdD, initE, List.length_cons, List.length_nil, Nat.reduceAdd, Nat.reduceSub, List.replicate, List.cons_append, List.nil_append, List.append_nil]
  unfold g_height_between
  get_elem_tactic_extensible
  refine ⟨rfl, ?_⟩
  get_elem_tactic_extensible
  refine for_of (fun ds ρ => ∃ (v : List Int) (t : Hb) (A B : Int) (x7 x8 : Sl), ds = v.map PyData.int ∧ ρ = [.sh s.D, .sh h.D, .sh o.D, .sh (.tuple (w.map PyData.int)), .sh t.low.D, .sh t.high.D, .sh t.pt.D, x7, x8] ∧ (∀ l ∈ v, l = 0 ∨ l = 1) ∧ Bd 100 t.low ∧ Bd 100 t.high ∧ t.pt = nrm A B s.c D ∧ A.natAbs + v.length * 2 ^ 65 ≤ 500 * 2 ^ 65 ∧ B.natAbs + v.length * 2 ^ 65 ≤ 500 * 2 ^ 65 ∧ v.foldl (stepH s) t = w.foldl (stepH s) ⟨h, o, zero4⟩) ?_ ?_ _ _ ⟨w, ⟨h, o, zero4⟩, s.c * 0, s.c * 0, _, _, rfl, rfl, hw, vh.b.le (by decide), vo.b.le (by decide), ?_, ?_, ?_, rfl⟩
  · rintro d ds ρ ⟨v, t, A, B, x7, x8, he, rfl, hv, b1, b2, ep, hA, hB, hf⟩ K hK
    cases v with
    | nil => cases he
    | cons l v =>
      cases he
      rw [List.length_cons] at hA hB
      have hl01 := hv l List.mem_cons_self
      have sa := bs.a
      have sb := bs.b
      have sc := bs.c
      unfold Sm at sa sb sc
      have A' : (A + l * s.c - s.a).natAbs + v.length * 2 ^ 65 ≤ 500 * 2 ^ 65 := by
        have : l * s.c = 0 ∨ l * s.c = s.c := by rcases hl01 with z | z <;> rw [z] <;> simp
        omega
      have B' : (B - s.b).natAbs + v.length * 2 ^ 65 ≤ 500 * 2 ^ 65 := by omega
      have smA : ∀ X : Int, X.natAbs + v.length * 2 ^ 65 ≤ 500 * 2 ^ 65 → Sm 90 X := fun X hX => by unfold Sm; omega
      have p1 : Bd 100 (nrm (A + l * s.c - s.a) (B - s.b) s.c D) := (nrm_bd ((smA _ A').le (by decide)) ((smA _ B').le (by decide)) (bs.c.le (by decide)) c0 (by omega) hD.sm)
      have p0 : Bd 100 (nrm A B s.c D) := nrm_bd (Sm.le (k := 90) (by unfold Sm; omega) (by decide)) (Sm.le (k := 90) (by unfold Sm; omega) (by decide)) (bs.c.le (by decide)) c0 (by omega) hD.sm
      have es := pt_step (D := D) (A := A) (B := B) (l := l) (by omega) vs.f c0
      have e1 := up_one (D := D) (A := A + l * s.c - s.a) (B := B - s.b) (by omega) c0
      have bl : Bd 100 (⟨l, 0, 1, 0⟩ : S4) := bd_int (by unfold Sm; omega) (by decide)
      get_elem_tactic_extensible
      rw [ep]
      refine go_surd_sum _ ⟨l, 0, 1, 0⟩ (p0.le (by decide)) (bl.le (by decide)) ?_
      get_elem_tactic_extensible
      refine go_surd_turned s ?_
      get_elem_tactic_extensible
      refine go_surd_sum _ (negS s) (((p0.sum bl)).le (by decide)) (bs.neg.le (by decide)) ?_
      rw [es]
      get_elem_tactic_extensible
      refine go_surd_order _ t.low (p1.le (by decide)) (b1.le (by decide)) ?_
      have up : Bd 100 (nrm (A + l * s.c - s.a + s.c) (B - s.b) s.c D) := nrm_bd (Sm.le (k := 91) ((smA _ A').add (Sm.le (k := 64) bs.c (by decide))) (by decide)) ((smA _ B').le (by decide)) (bs.c.le (by decide)) c0 (by omega) hD.sm
      have st : stepH s t l = ⟨if 0 < ordS (nrm (A + l * s.c - s.a) (B - s.b) s.c D) t.low then nrm (A + l * s.c - s.a) (B - s.b) s.c D else t.low, if ordS (nrm (A + l * s.c - s.a + s.c) (B - s.b) s.c D) t.high < 0 then nrm (A + l * s.c - s.a + s.c) (B - s.b) s.c D else t.high, nrm (A + l * s.c - s.a) (B - s.b) s.c D⟩ := by
        unfold stepH
        simp only
        rw [ep, es, e1]
        rfl
      have fin : ∀ (E' : En) (_ : ∀ ρ, K ρ → E'.nx ρ) (lo : S4), lo = (stepH s t l).low → Bd 100 lo → fSeqS (fSet 8 (fCall S_surd_sum (fAC (fV 6) (fAC (fTup (fLC (fC (.int 1)) (fLC (fC (.int 0)) (fLC (fC (.int 1)) (fLC (fC (.int 0)) fLN))))) fAN)))) (fSet 5 (fIf (fCmp gLt (fCall S_surd_order (fAC (fV 8) (fAC (fV 5) fAN))) (fC (.int 0))) (fV 8) (fV 5))) E' [.sh s.D, .sh h.D, .sh o.D, .sh (.tuple (w.map PyData.int)), .sh lo.D, .sh t.high.D, .sh (nrm (A + l * s.c - s.a) (B - s.b) s.c D).D, .sh (.int l), x8] := by
        intro E' hE lo hlo blo
        get_elem_tactic_extensible
        refine go_surd_sum _ one4 (p1.le (by decide)) (bd_one _ (by decide)) ?_
        rw [e1]
        get_elem_tactic_extensible
        refine go_surd_order _ t.high (up.le (by decide)) (b2.le (by decide)) ?_
        get_elem_tactic_extensible
        have key := fun (hi : S4) (e : hi = (stepH s t l).high) (bh : Bd 100 hi) => hE _ (hK [.sh s.D, .sh h.D, .sh o.D, .sh (.tuple (w.map PyData.int)), .sh lo.D, .sh hi.D, .sh (nrm (A + l * s.c - s.a) (B - s.b) s.c D).D, .sh (.int l), .sh (nrm (A + l * s.c - s.a + s.c) (B - s.b) s.c D).D] ⟨v, stepH s t l, A + l * s.c - s.a, B - s.b, .sh (.int l), .sh (nrm (A + l * s.c - s.a + s.c) (B - s.b) s.c D).D, rfl, by rw [hlo, e, st], fun x hx => hv x (List.mem_cons_of_mem _ hx), by rw [← hlo]; exact blo, by rw [← e]; exact bh, by rw [st], A', B', hf⟩)
        refine Go.ifd (fun h2 => ?_) (fun h2 => ?_)
        · get_elem_tactic_extensible
          refine key _ ?_ up
          rw [st]
          simp only [if_pos h2]
        · get_elem_tactic_extensible
          refine key _ ?_ b2
          rw [st]
          simp only [if_neg h2]
      get_elem_tactic_extensible
      refine Go.ifd (fun h2 => ?_) (fun h2 => ?_)
      · get_elem_tactic_extensible
        refine fin _ (fun _ h => h) _ ?_ p1
        rw [st]
        simp only [if_pos h2]
      · get_elem_tactic_extensible
        refine fin _ (fun _ h => h) _ ?_ b1
        rw [st]
        simp only [if_neg h2]
  · rintro ρ ⟨v, t, A, B, x7, x8, he, rfl, hv, b1, b2, ep, hA, hB, hf⟩
    cases v with
    | cons r rs => cases he
    | nil =>
      have hf : t = w.foldl (stepH s) ⟨h, o, zero4⟩ := hf
      unfold hb at hq
      rw [← hf] at hq
      get_elem_tactic_extensible
      refine go_surd_order _ _ (b1.le (by decide)) (b2.le (by decide)) ?_
      get_elem_tactic_extensible
      exact hq
  · have e3 : nrm (s.c * 0) (s.c * 0) (s.c * 1) D = nrm 0 0 1 D := nrm_scale c0
    rw [Int.mul_one] at e3
    rw [e3]
    exact (p01_0 D).w
  · rw [Int.mul_zero]
    show 0 + w.length * 2 ^ 65 ≤ 500 * 2 ^ 65
    omega
  · rw [Int.mul_zero]
    show 0 + w.length * 2 ^ 65 ≤ 500 * 2 ^ 65
    omega
theorem go_same {d : DL.D} {Q : DL.D → Prop} (h : Same 4 d) (hq : Q (.bool true)) : S__law_same [.sh d, .sh d] Q := ⟨d, rfl, h, hq⟩
theorem lc_same {n : Nat} {a b : Sl} : ∀ (ds : List D) (_ : ∀ e ∈ ds, Same n e) (Q : List D → Prop), Q (List.replicate ds.length (.bool true)) → lcRun (gSq 2 (gsCons (gNm 2) (gsCons (gNm 3) gsNil))) fYes (fCall (Sn__law_same n) (fAC (fV 2) (fAC (fV 3) fAN))) [a, b, .un, .un] (zipD ds ds) Q
  | [], _, Q, h => h
  | d :: ds, hs, Q, h => by
    show (gSq 2 (gsCons (gNm 2) (gsCons (gNm 3) gsNil))) (.tuple [d, d]) [a, b, .un, .un] _
    get_elem_tactic_extensible
    refine ⟨d, rfl, hs d List.mem_cons_self, ?_⟩
    exact lc_same ds (fun e he => hs e (List.mem_cons_of_mem _ he)) _ h
theorem all_true (n : Nat) {Q : D → Prop} (h : Q (.bool true)) : bAll [.list (List.replicate n (.bool true))] Q := by
  have e : blsOf (.list (List.replicate n (.bool true))) = some (List.replicate n true) := by
    have := asBls_map (List.replicate n true)
    rwa [List.map_replicate] at this
  unfold bAll
  simp only [e]
  have e2 : (List.replicate n true).all id = true := by
    rw [List.all_eq_true]
    intro x hx
    exact (List.mem_replicate.mp hx).2
  rw [e2]; exact h
theorem r__law_same : ∀ (n : Nat) ss (Q : D → Prop), Sn__law_same (n + 1) ss Q → g__law_same (Sn__law_same n) (endsOf Q) (initE N__law_same ss) := by
  rintro n ss Q ⟨d, rfl, h, hq⟩
  have hq : Q (.bool true) := hq
  simp only [N__law_same, initE, List.length_cons, List.length_nil, Nat.reduceAdd, Nat.reduceSub, List.replicate, List.cons_append, List.nil_append, List.append_nil]
  unfold g__law_same
  cases d with
  | none =>
    get_elem_tactic_extensible
    exact hq
  | bool b =>
    cases b with
    | true =>
      get_elem_tactic_extensible
      exact hq
    | false =>
      get_elem_tactic_extensible
      exact hq
  | int i =>
    get_elem_tactic_extensible
    refine Go.ifF (by simp [isNone]) ?_
    get_elem_tactic_extensible
    refine Go.ifF (by simp [isBool]) ?_
    get_elem_tactic_extensible
    refine Go.ifF (by simp [isBool]) ?_
    get_elem_tactic_extensible
    refine Go.ifF (by simp [isB, tyN]) ?_
    get_elem_tactic_extensible
    refine Go.ifT (by simp [isB, tyN]) ?_
    get_elem_tactic_extensible
    refine Go.ifT (by simp [isB, tyN]) ?_
    get_elem_tactic_extensible
    refine Go.ifT (by simp [isB, tyN]) ?_
    get_elem_tactic_extensible
    rw [decide_eq_true rfl]
    exact hq
  | str x =>
    get_elem_tactic_extensible
    refine Go.ifF (by simp [isNone]) ?_
    get_elem_tactic_extensible
    refine Go.ifF (by simp [isBool]) ?_
    get_elem_tactic_extensible
    refine Go.ifF (by simp [isBool]) ?_
    get_elem_tactic_extensible
    refine Go.ifT (by simp [isB, tyN]) ?_
    get_elem_tactic_extensible
    refine Go.ifT (by simp [isB, tyN]) ?_
    get_elem_tactic_extensible
    rw [decide_eq_true rfl]
    exact hq
  | tuple ds =>
    obtain ⟨hl, hs⟩ : ds.length ≤ 1000 ∧ ∀ e ∈ ds, Same n e := h
    get_elem_tactic_extensible
    refine Go.ifF (by simp [isNone]) ?_
    get_elem_tactic_extensible
    refine Go.ifF (by simp [isBool]) ?_
    get_elem_tactic_extensible
    refine Go.ifF (by simp [isBool]) ?_
    get_elem_tactic_extensible
    refine Go.ifF (by simp [isB, tyN]) ?_
    get_elem_tactic_extensible
    refine Go.ifF (by simp [isB, tyN]) ?_
    get_elem_tactic_extensible
    refine Go.ifF (by simp [isB, tyN]) ?_
    get_elem_tactic_extensible
    refine Go.ifF (by simp [isB, tyN]) ?_
    get_elem_tactic_extensible
    refine Go.ifF (by simp) ?_
    get_elem_tactic_extensible
    show (zipD ds ds).length ≤ most ∧ _
    refine ⟨by rw [zipD_len]; unfold most; omega, ?_⟩
    refine lc_same ds hs _ ?_
    exact all_true _ hq
  | list ds => exact h.elim
  | dict ds => exact h.elim
end T
end DL
namespace DL
namespace T
open PySem L2 PySem.Spec PyProof.Rows
local macro_rules
  | `(tactic| get_elem_tactic_extensible) => `(tactic| (repeat (first | with_reducible refine Go.lc_go ?_ | with_reducible refine Go.ln_go ?_ | ((with_reducible apply Go.v_sh); exact rfl) | ((with_reducible apply Go.n_sh); exact rfl) | ((with_reducible apply Go.n_ow); exact rfl) | ((with_reducible apply Go.ab_go); exact rfl) | ((with_reducible apply Go.app_go); exact rfl) | ((with_reducible apply Go.ext_go); exact rfl) | with_reducible refine Go.c_go ?_ | with_reducible refine Go.tup_go ?_ | with_reducible refine Go.nv_go ?_ | with_reducible refine Go.bin_go ?_ | with_reducible refine Go.slT_go ?_ | with_reducible refine Go.slL_go ?_ | with_reducible refine Go.on_go ?_ | with_reducible refine Go.os_go ?_ | with_reducible refine Go.neg_go ?_ | with_reducible refine Go.sub_go ?_ | with_reducible refine Go.addI_go ?_ | with_reducible refine Go.seqT_go ?_ | with_reducible refine Go.call_go ?_ | with_reducible refine Go.callK_go ?_ | with_reducible refine Go.cb_go ?_ | with_reducible refine Go.dict1_go ?_ | with_reducible refine Go.if_go ?_ | with_reducible refine Go.an_go ?_ | with_reducible refine Go.ac_go ?_ | with_reducible refine Go.mv_go ?_ | with_reducible refine Go.par_go ?_ | with_reducible refine Go.sq_go ?_ | with_reducible refine Go.set_go ?_ | with_reducible refine Go.setN_go ?_ | with_reducible refine Go.ret_go ?_ | with_reducible refine Go.asg_go ?_ | with_reducible refine Go.ifs_go ?_ | with_reducible refine Go.next_go ?_ | with_reducible refine Go.nm_go ?_ | with_reducible refine Go.cmp_go ?_ | with_reducible refine Go.tv_go ?_ | with_reducible refine Go.not_go ?_ | with_reducible refine Go.and_go ?_ | with_reducible refine Go.or_go ?_ | with_reducible refine Go.lenT_go ?_ | with_reducible refine Go.lenL_go ?_ | with_reducible refine Go.absI_go ?_ | with_reducible refine Go.intI_go ?_ | with_reducible refine Go.max2_go ?_ | with_reducible refine Go.min2_go ?_ | with_reducible refine Go.tupL_go ?_ | with_reducible refine Go.tupT_go ?_ | with_reducible refine Go.gv_go ?_ | with_reducible refine Go.ltI_go ?_ | with_reducible refine Go.leI_go ?_ | with_reducible refine Go.gtI_go ?_ | with_reducible refine Go.geI_go ?_ | with_reducible refine Go.eqI_go ?_ | with_reducible refine Go.neI_go ?_ | with_reducible refine Go.eqS_go ?_ | with_reducible refine Go.rng1_go ?_ | ((first | with_reducible apply Go.ixL_go | with_reducible apply Go.ixT_go); first | exact DL.at0 _ _ | exact DL.at1 _ _ _ | exact DL.at2 _ _ _ _ | exact DL.at3 _ _ _ _ _ | exact DL.at4 _ _ _ _ _ _) | ((with_reducible apply Go.frz_go); exact rfl) | ((with_reducible apply Go.frz_sh); exact rfl) | with_reducible refine Go.mn_go ?_ | with_reducible refine Go.andV_go ?_ | ((first | with_reducible apply Go.sqT_go | with_reducible apply Go.sqL_go); exact rfl) | with_reducible refine Go.gsC_go ?_ | with_reducible refine Go.gsN_go ?_ | with_reducible refine Go.ifT (by decide +kernel) ?_ | with_reducible refine Go.ifF (by decide +kernel) ?_ | with_reducible refine Go.cat_go ?_ | with_reducible refine Go.callO_go ?_ | ((with_reducible apply Go.retO_go); exact rfl) | with_reducible refine Go.retN_go ?_ | with_reducible refine Go.ifN_go ?_ | with_reducible refine Go.yes_go ?_ | with_reducible refine Go.isI_go ?_ | with_reducible refine Go.isB_go ?_ | with_reducible refine Go.isN_go ?_ | with_reducible refine Go.notN_go ?_ | with_reducible refine Go.lrev_go ?_ | with_reducible refine Go.bk_go ?_ | with_reducible refine Go.ct_go ?_ | with_reducible refine Go.rng2_go ?_ | with_reducible refine Go.orV_go ?_ | with_reducible refine Go.notV_go ?_ | ((with_reducible apply Go.setIx_go); exact rfl) | unfold fForS | unfold fLc | dsimp only [seqOf, List.set_cons_zero, List.set_cons_succ, setAll, wipeE])))
theorem pw21 : CPow 10 21 := pw (k := 21) (by decide)
theorem tp21 : (10 : Int) ^ (21 : Int).toNat = 1000000000000000000000 := by decide
theorem go_moved_row {s h : S4} {n : Int} {Q : D → Prop} (a : Bd 64 s) (b : Bd 64 h) (k : Sm 101 n) (hq : Q (mvR s h n).D) : S_moved_row [.sh s.D, .sh h.D, iS n] Q := ⟨(s, h, n), rfl, ⟨a, b, k⟩, hq⟩
theorem mv_D {D : Int} {s h : S4} (hD : 0 ≤ D) (a : InF D s) (b : InF D h) (n m : Int) : mv s h n m = nrm (n * s.a * h.c + h.a * s.c + m * (s.c * h.c)) (n * s.b * h.c + h.b * s.c) (s.c * h.c) D := by
  unfold mv
  refine nrm_root ?_
  rcases InF.mx hD a b with ⟨z1, z2, z3⟩ | z
  · exact .inl (by rw [z1, z2]; simp)
  · exact .inr z
theorem mvR_eq {D : Int} {s h : S4} (hD : 0 ≤ D) (a : Vs D s) (b : Vs D h) (n : Int) : mvR s h n = nrm ((mv s h n 0).a - ((mv s h n 0).a + gF D (mv s h n 0).b) / (mv s h n 0).c * (mv s h n 0).c) (mv s h n 0).b (mv s h n 0).c (mv s h n 0).d := by
  have c1 := a.b.c0
  have cc := Int.mul_pos a.b.c0 b.b.c0
  have e1 : mulS ⟨n, 0, 1, 0⟩ s = nrm (n * s.a) (n * s.b) s.c D := by
    rw [mul_rep hD (InF.int D n) a.f]
    show nrm (n * s.a + 0 * s.b * D) (n * s.b + 0 * s.a) (1 * s.c) D = _
    have x1 : n * s.a + 0 * s.b * D = n * s.a := by simp
    have x2 : n * s.b + 0 * s.a = n * s.b := by simp
    rw [x1, x2, Int.one_mul]
  have e2 : sumS (mulS ⟨n, 0, 1, 0⟩ s) h = mv s h n 0 := by
    rw [e1, sum_nrm hD c1 b.f, mv_D hD a.f b.f, Int.zero_mul, Int.add_zero]
  have f : InF D (mv s h n 0) := by rw [mv_D hD a.f b.f]; exact nrm_inF cc
  unfold mvR
  rw [e2]
  generalize mv s h n 0 = x at f
  rw [sum_rep hD f (InF.int D _)]
  have w : wS x = (x.a + gF D x.b) / x.c := by
    rw [wS_eq]
    rcases f with ⟨z, _⟩ | ⟨_, z⟩
    · rw [z, gF_zero, gF_zero]
    · rw [z]
  rw [w]
  show nrm (x.a * 1 + -((x.a + gF D x.b) / x.c) * x.c) (x.b * 1 + 0 * x.c) (x.c * 1) D = _
  have x1 : x.a * 1 + -((x.a + gF D x.b) / x.c) * x.c = x.a - (x.a + gF D x.b) / x.c * x.c := by grind
  have x2 : x.b * 1 + 0 * x.c = x.b := by simp
  rw [x1, x2, Int.mul_one]
  exact (inF_root f rfl).symm
theorem same_S4 (n : Nat) (x : S4) : Same (n + 2) x.D := by
  refine ⟨by simp, fun e he => ?_⟩
  simp only [List.mem_cons, List.not_mem_nil, or_false] at he
  rcases he with rfl | rfl | rfl | rfl <;> trivial
theorem same_ints (n : Nat) {w : List Int} (h : w.length ≤ 1000) : Same (n + 2) (wdD w) := by
  refine ⟨by rw [List.length_map]; exact h, fun e he => ?_⟩
  obtain ⟨i, _, rfl⟩ := List.mem_map.mp he
  trivial
theorem go_moved_right {D : Int} {s h : S4} {b : Bool} {Q : DL.D → Prop} (hD : SF D) (a : SlV D s) (c : HtN D h) (hq : Q (.bool true)) : S__law_is_moved_right [.bg, .sh (fdD D), .sh s.D, .sh h.D, .sh (.bool b)] Q := ⟨(D, s, h, b), rfl, ⟨hD, a, c⟩, hq⟩
theorem r__law_is_moved_right : ∀ ss (Q : D → Prop), S__law_is_moved_right ss Q → g__law_is_moved_right (endsOf Q) (initE N__law_is_moved_right ss) := by
  rintro ss Q ⟨⟨D, s, h, nb⟩, rfl, ⟨hD, hs, hh⟩, hq⟩
  have hD : SF D := hD
  have d1 := hD.1
  have hs : SlV D s := hs
  have hh : HtN D h := hh
  have hq : Q (.bool true) := hq
  have vs := hs.v
  have vh := hh.h.v
  simp only [N__law_is_moved_right, initE, List.length_cons, List.length_nil, Nat.reduceAdd, Nat.reduceSub, List.replicate, List.cons_append, List.nil_append, List.append_nil]
  unfold g__law_is_moved_right
  get_elem_tactic_extensible
  refine ⟨pw9, ?_⟩
  rw [tp9]
  get_elem_tactic_extensible
  refine go_draw (by decide) (by decide) fun x x0 x1 => ?_
  get_elem_tactic_extensible
  refine ⟨pw21, ?_⟩
  rw [tp21]
  get_elem_tactic_extensible
  refine Go.mulI_go (mw (k := 40) (l := 80) (by unfold Sm; omega) (by unfold Sm; decide)) ?_
  get_elem_tactic_extensible
  refine ⟨pw9, ?_⟩
  rw [tp9]
  get_elem_tactic_extensible
  refine go_draw (by decide) (by decide) fun y y0 y1 => ?_
  get_elem_tactic_extensible
  refine go_draw (by decide) (by decide) fun z z0 z1 => ?_
  get_elem_tactic_extensible
  refine ⟨pw30, ?_⟩
  rw [tp30]
  get_elem_tactic_extensible
  refine go_pick (by simp) (by simp) fun u hu => ?_
  obtain ⟨p, rfl, p0, p1⟩ : ∃ p : Int, u = .int p ∧ 0 ≤ p ∧ p ≤ 1000000000000000000000000000000 := by
    simp only [List.mem_cons, List.not_mem_nil, or_false] at hu
    rcases hu with rfl | rfl | rfl <;> exact ⟨_, rfl, by decide, by decide⟩
  clear hu
  get_elem_tactic_extensible
  refine for_of (fun ds ρ => ∃ (ns : List Int) (s6 s7 s8 s9 s10 s11 s12 : Sl), ds = ns.map PyData.int ∧ ρ = [.bg, .sh (fdD D), .sh s.D, .sh h.D, .sh (.bool nb), iS (x * 1000000000000000000000 + y), s6, s7, s8, s9, s10, s11, s12] ∧ ∀ n ∈ ns, Sm 100 n) ?_ ?_ _ _ ⟨[z, x * 1000000000000000000000 + y, p], _, _, _, _, _, _, _, rfl, rfl, ?_⟩
  · rintro d ds ρ ⟨ns, s6, s7, s8, s9, s10, s11, s12, he, rfl, hn⟩ K hK
    cases ns with
    | nil => cases he
    | cons n ns =>
      cases he
      have n100 := hn n List.mem_cons_self
      have bd := mv_sm (n := n) (m := 0) vs.b vh.b (n100.le (by decide)) sm0'
      have b203 : Sm 203 (mv s h n 0).b := by
        have s1 : Sm 203 (n * s.a * h.c + h.a * s.c + 0 * (s.c * h.c)) := by
          rw [Int.zero_mul, Int.add_zero]
          exact ((n100.mul hs.n.a).mul hh.n.c).add ((hh.n.a.mul hs.n.c).le (by decide))
        have s2 : Sm 203 (n * s.b * h.c + h.b * s.c) := ((n100.mul hs.n.b).mul hh.n.c).add ((hh.n.b.mul hs.n.c).le (by decide))
        have h1 := nrm_bd s1 s2 ((hs.n.c.mul hh.n.c).le (l := 203) (by decide)) (Int.mul_pos vs.b.c0 vh.b.c0) (by omega) hD.sm
        rw [← mv_D (by omega) vs.f vh.f] at h1
        exact h1.b
      have er := mvR_eq (D := D) (by omega) vs vh n
      get_elem_tactic_extensible
      refine go_moved vs.b vh.b (n100.le (by decide)) sm0' ?_
      generalize mv s h n 0 = v4 at bd b203 er
      simp only [D4 v4]
      get_elem_tactic_extensible
      refine go_times hD b203 ?_
      get_elem_tactic_extensible
      have gz : Sm 428 (gF D v4.b) := (gF_sm (k := 203) (D := D) (b := v4.b) (by omega) b203 hD.sm).le (by decide)
      refine Go.divI_go bd.c.log bd.c0 ?_
      get_elem_tactic_extensible
      refine Go.mulI_go (mw (k := 429) (((bd.a.le (l := 428) (by decide)).add gz).div bd.c0) bd.c) ?_
      get_elem_tactic_extensible
      refine go_shrunk bd.c0 (bd.c.le (by decide)) ?_
      rw [← er]
      have fin : ∀ (E' : En) (_ : ∀ ρ, K ρ → E'.nx ρ) (t : Sl), (fIfS (fNot (fTV (fCall S__law_same (fAC (fV 12) (fAC (fV 11) fAN))))) (fRet (fC (.bool false))) fNext) E' [.bg, .sh (fdD D), .sh s.D, .sh h.D, .sh (.bool nb), iS (x * 1000000000000000000000 + y), iS n, iS v4.a, iS v4.b, iS v4.c, iS v4.d, .sh (mvR s h n).D, .sh (mvR s h n).D] := by
        intro E' hE t
        get_elem_tactic_extensible
        refine go_same (same_S4 2 _) ?_
        get_elem_tactic_extensible
        exact hE _ (hK _ ⟨ns, _, _, _, _, _, _, _, rfl, rfl, fun m hm => hn m (List.mem_cons_of_mem _ hm)⟩)
      get_elem_tactic_extensible
      cases nb with
      | true =>
        rw [if_pos rfl]
        get_elem_tactic_extensible
        refine go_moved_row vs.b vh.b (n100.le (by decide)) ?_
        get_elem_tactic_extensible
        exact fin _ (fun _ h => h) .un
      | false =>
        rw [if_neg (by decide)]
        get_elem_tactic_extensible
        refine go_moved_row vs.b vh.b (n100.le (by decide)) ?_
        get_elem_tactic_extensible
        exact fin _ (fun _ h => h) .un
  · rintro ρ ⟨ns, s6, s7, s8, s9, s10, s11, s12, he, rfl, hn⟩
    cases ns with
    | cons r rs => cases he
    | nil =>
      get_elem_tactic_extensible
      exact hq
  · intro n hn
    simp only [List.mem_cons, List.not_mem_nil, or_false] at hn
    rcases hn with rfl | rfl | rfl <;> unfold Sm <;> omega
end T
end DL
namespace DL
namespace T
open PySem L2 PySem.Spec PyProof.Rows
local macro_rules
  | `(tactic| get_elem_tactic_extensible) => `(tactic| (repeat (first | with_reducible refine Go.lc_go ?_ | with_reducible refine Go.ln_go ?_ | ((with_reducible apply Go.v_sh); exact rfl) | ((with_reducible apply Go.n_sh); exact rfl) | ((with_reducible apply Go.n_ow); exact rfl) | ((with_reducible apply Go.ab_go); exact rfl) | ((with_reducible apply Go.app_go); exact rfl) | ((with_reducible apply Go.ext_go); exact rfl) | with_reducible refine Go.c_go ?_ | with_reducible refine Go.tup_go ?_ | with_reducible refine Go.nv_go ?_ | with_reducible refine Go.bin_go ?_ | with_reducible refine Go.slT_go ?_ | with_reducible refine Go.slL_go ?_ | with_reducible refine Go.on_go ?_ | with_reducible refine Go.os_go ?_ | with_reducible refine Go.neg_go ?_ | with_reducible refine Go.sub_go ?_ | with_reducible refine Go.addI_go ?_ | with_reducible refine Go.seqT_go ?_ | with_reducible refine Go.call_go ?_ | with_reducible refine Go.callK_go ?_ | with_reducible refine Go.cb_go ?_ | with_reducible refine Go.dict1_go ?_ | with_reducible refine Go.if_go ?_ | with_reducible refine Go.an_go ?_ | with_reducible refine Go.ac_go ?_ | with_reducible refine Go.mv_go ?_ | with_reducible refine Go.par_go ?_ | with_reducible refine Go.sq_go ?_ | with_reducible refine Go.set_go ?_ | with_reducible refine Go.setN_go ?_ | with_reducible refine Go.ret_go ?_ | with_reducible refine Go.asg_go ?_ | with_reducible refine Go.ifs_go ?_ | with_reducible refine Go.next_go ?_ | with_reducible refine Go.nm_go ?_ | with_reducible refine Go.cmp_go ?_ | with_reducible refine Go.tv_go ?_ | with_reducible refine Go.not_go ?_ | with_reducible refine Go.and_go ?_ | with_reducible refine Go.or_go ?_ | with_reducible refine Go.lenT_go ?_ | with_reducible refine Go.lenL_go ?_ | with_reducible refine Go.absI_go ?_ | with_reducible refine Go.intI_go ?_ | with_reducible refine Go.max2_go ?_ | with_reducible refine Go.min2_go ?_ | with_reducible refine Go.tupL_go ?_ | with_reducible refine Go.tupT_go ?_ | with_reducible refine Go.gv_go ?_ | with_reducible refine Go.ltI_go ?_ | with_reducible refine Go.leI_go ?_ | with_reducible refine Go.gtI_go ?_ | with_reducible refine Go.geI_go ?_ | with_reducible refine Go.eqI_go ?_ | with_reducible refine Go.neI_go ?_ | with_reducible refine Go.eqS_go ?_ | with_reducible refine Go.rng1_go ?_ | ((first | with_reducible apply Go.ixL_go | with_reducible apply Go.ixT_go); first | exact DL.at0 _ _ | exact DL.at1 _ _ _ | exact DL.at2 _ _ _ _ | exact DL.at3 _ _ _ _ _ | exact DL.at4 _ _ _ _ _ _) | ((with_reducible apply Go.frz_go); exact rfl) | ((with_reducible apply Go.frz_sh); exact rfl) | with_reducible refine Go.mn_go ?_ | with_reducible refine Go.andV_go ?_ | ((first | with_reducible apply Go.sqT_go | with_reducible apply Go.sqL_go); exact rfl) | with_reducible refine Go.gsC_go ?_ | with_reducible refine Go.gsN_go ?_ | with_reducible refine Go.ifT (by decide +kernel) ?_ | with_reducible refine Go.ifF (by decide +kernel) ?_ | with_reducible refine Go.cat_go ?_ | with_reducible refine Go.callO_go ?_ | ((with_reducible apply Go.retO_go); exact rfl) | with_reducible refine Go.retN_go ?_ | with_reducible refine Go.ifN_go ?_ | with_reducible refine Go.yes_go ?_ | with_reducible refine Go.isI_go ?_ | with_reducible refine Go.isB_go ?_ | with_reducible refine Go.isN_go ?_ | with_reducible refine Go.notN_go ?_ | with_reducible refine Go.lrev_go ?_ | with_reducible refine Go.bk_go ?_ | with_reducible refine Go.ct_go ?_ | with_reducible refine Go.rng2_go ?_ | with_reducible refine Go.orV_go ?_ | with_reducible refine Go.notV_go ?_ | ((with_reducible apply Go.setIx_go); exact rfl) | unfold fForS | unfold fLc | dsimp only [seqOf, List.set_cons_zero, List.set_cons_succ, setAll, wipeE])))
theorem cut_take (ds : List D) (k : Nat) : cutD ds none (some (k : Int)) = ds.take k := by
  unfold cutD
  rw [HT.sIx_none, HT.sIx_nat, List.drop_zero, Nat.sub_zero]
  by_cases h : k ≤ ds.length
  · rw [Nat.min_eq_left h]
  · rw [Nat.min_eq_right (by omega), List.take_of_length_le (Nat.le_refl _), List.take_of_length_le (by omega)]
theorem cut_take1 (ds : List D) : cutD ds none (some 1) = ds.take 1 := cut_take ds 1
theorem go_unlike {s h o : S4} {m : Nat} {Q : D → Prop} (a : Bd 64 s) (b : Bd 64 h) (c : Bd 64 o) (k : m ≤ 500) (hq : Q (wdD (unl s h o m))) : S_unlike_places [.sh s.D, .sh h.D, .sh o.D, iS (m : Int)] Q := ⟨(s, h, o, m), rfl, ⟨a.le (by decide), b.le (by decide), c.le (by decide), by show m ≤ 1000; omega⟩, hq⟩
theorem unl_len (s h o : S4) (m : Nat) : (unl s h o m).length ≤ m := by
  unfold unl
  rw [List.length_map]
  have := List.length_filter_le (fun i : Nat => decide (wA s h ((i : Int) + 1) - wA s h (i : Int) ≠ wA s o ((i : Int) + 1) - wA s o (i : Int))) (List.range m)
  rw [List.length_range] at this
  exact this
noncomputable def lkD (s h : S4) (m : Nat) (o : S4) : DL.D := .list [o.D, wdD (unl s h o m)]
theorem go_rows {D : Int} {s h : S4} {os : List S4} {m : Nat} {b : Bool} {Q : DL.D → Prop} (hD : SF D) (a : Vs D s) (c : Vs D h) (ho : ∀ o ∈ os, Vs D o) (hl : os.length ≤ 5) (hm : m ≤ 500) (hq : Q (.bool true)) : S__law_are_rows_right [.sh (fdD D), .sh s.D, .sh h.D, .sh (.list (os.map S4.D)), iS (m : Int), .sh (.bool b)] Q := ⟨(D, s, h, os, m, b), rfl, ⟨hD, a, c, ho, hl, hm⟩, hq⟩
theorem r__law_are_rows_right : ∀ ss (Q : D → Prop), S__law_are_rows_right ss Q → g__law_are_rows_right (endsOf Q) (initE N__law_are_rows_right ss) := by
  rintro ss Q ⟨⟨D, s, h, os, m, nb⟩, rfl, ⟨hD, vs, vh, ho, hl, hm⟩, hq⟩
  have hD : SF D := hD
  have vs : Vs D s := vs
  have vh : Vs D h := vh
  have ho : ∀ o ∈ os, Vs D o := ho
  have hl : os.length ≤ 5 := hl
  have hm : m ≤ 500 := hm
  have hq : Q (.bool true) := hq
  simp only [N__law_are_rows_right, initE, List.length_cons, List.length_nil, Nat.reduceAdd, Nat.reduceSub, List.replicate, List.cons_append, List.nil_append, List.append_nil]
  unfold g__law_are_rows_right
  get_elem_tactic_extensible
  refine go_lett hD vs vh hm ?_
  get_elem_tactic_extensible
  refine ⟨rfl, ?_⟩
  get_elem_tactic_extensible
  refine for_of (fun ds ρ => ∃ (os1 os2 : List S4) (s8 s9 s10 s11 s12 : Sl), ds = os2.map S4.D ∧ os = os1 ++ os2 ∧ ρ = [.sh (fdD D), .sh s.D, .sh h.D, .sh (.list (os.map S4.D)), iS (m : Int), .sh (.bool nb), .sh (.list ((rowL s h m).map PyData.int)), .ow (os1.map (lkD s h m)), s8, s9, s10, s11, s12]) ?_ ?_ _ _ ⟨[], os, _, _, _, _, _, rfl, rfl, rfl⟩
  · rintro d ds ρ ⟨os1, os2, s8, s9, s10, s11, s12, he, eo, rfl⟩ K hK
    cases os2 with
    | nil => cases he
    | cons o os2 =>
      cases he
      have vo := ho o (by rw [eo]; simp)
      have lo : os1.length ≤ 5 := by rw [eo, List.length_append] at hl; omega
      get_elem_tactic_extensible
      refine go_lett hD vs vo hm ?_
      get_elem_tactic_extensible
      have hlt : (m : Int) < 2 ^ 62 := by omega
      have hgt : -(2 ^ 62) ≤ (m : Int) := by omega
      refine ⟨hgt, hlt, by rw [rng_len]; unfold most; omega, ?_⟩
      rw [Int.toNat_natCast, rng_nat]
      refine lc_filter (c := fun i : Nat => decide (wA s h ((i : Int) + 1) - wA s h (i : Int) ≠ wA s o ((i : Int) + 1) - wA s o (i : Int))) (F := fun i : Nat => PyData.int (i : Int)) _ (fun i hi K J h1 h2 => ?_) _ ?_
      · have hi := List.mem_range.mp hi
        have a1 : ∀ h : S4, atI ((rowL s h m).map PyData.int) ((i : Nat) : Int) = some (.int (wA s h ((i : Int) + 1) - wA s h (i : Int))) := fun h => atI_nat (by unfold rowL; rw [List.getElem?_map, List.getElem?_map, List.getElem?_range hi]; rfl)
        get_elem_tactic_extensible
        refine Go.ixL_go (a1 h) ?_
        get_elem_tactic_extensible
        refine Go.ixL_go (a1 o) ?_
        get_elem_tactic_extensible
        refine Go.ifdn (fun e => ?_) (fun e => ?_)
        · get_elem_tactic_extensible
          exact h1 (by simpa using e)
        · exact h2 (by simpa using e)
      · have e : (List.filter (fun i : Nat => decide (wA s h ((i : Int) + 1) - wA s h (i : Int) ≠ wA s o ((i : Int) + 1) - wA s o (i : Int))) (List.range m)).map (fun i : Nat => PyData.int (i : Int)) = (unl s h o m).map PyData.int := by
          unfold unl
          rw [List.map_map]; rfl
        rw [e]
        get_elem_tactic_extensible
        refine ⟨by rw [List.length_map]; unfold most; omega, ?_⟩
        have e2 : List.map (lkD s h m) os1 ++ [.list [o.D, .tuple ((unl s h o m).map PyData.int)]] = (os1 ++ [o]).map (lkD s h m) := by rw [List.map_append]; rfl
        rw [e2]
        exact hK _ ⟨os1 ++ [o], os2, _, _, _, _, _, rfl, by rw [eo]; simp, rfl⟩
  · rintro ρ ⟨os1, os2, s8, s9, s10, s11, s12, he, eo, rfl⟩
    cases os2 with
    | cons r rs => cases he
    | nil =>
      have eo : os = os1 := by rw [eo]; simp
      subst eo
      get_elem_tactic_extensible
      refine ⟨?_, ?_⟩
      · rw [List.length_map]
        have : (cutD (os.map (lkD s h m)) none (some 1)).length ≤ 5 := by
          rw [cut_take1, List.length_take, List.length_map]
          omega
        rw [sizeLine_eq]; omega
      · rw [cut_take1, ← List.map_take, ← List.map_append]
        have ho2 : ∀ o ∈ os ++ os.take 1, Vs D o := fun o h => (List.mem_append.mp h).elim (ho o) fun z => ho o (List.mem_of_mem_take z)
        get_elem_tactic_extensible
        refine for_of (fun ds ρ => ∃ (ps : List S4) (s8 s9 s10 s11 s12 : Sl), ds = ps.map (lkD s h m) ∧ (∀ o ∈ ps, Vs D o) ∧ ρ = [.sh (fdD D), .sh s.D, .sh h.D, .sh (.list (os.map S4.D)), iS (m : Int), .sh (.bool nb), .sh (.list ((rowL s h m).map PyData.int)), .ow (os.map (lkD s h m)), s8, s9, s10, s11, s12]) ?_ ?_ _ _ ⟨_, _, _, _, _, _, rfl, ho2, rfl⟩
        · rintro d ds ρ ⟨ps, s8, s9, s10, s11, s12, he, hp, rfl⟩ K hK
          cases ps with
          | nil => cases he
          | cons o ps =>
            cases he
            have vo := hp o List.mem_cons_self
            have ul := unl_len s h o m
            simp only [lkD]
            get_elem_tactic_extensible
            have fin : ∀ (E' : En) (_ : ∀ ρ, K ρ → E'.nx ρ), (fIfS (fNot (fTV (fCall S__law_same (fAC (fV 12) (fAC (fV 11) fAN))))) (fRet (fC (.bool false))) fNext) E' [.sh (fdD D), .sh s.D, .sh h.D, .sh (.list (os.map S4.D)), iS (m : Int), .sh (.bool nb), .sh (.list ((rowL s h m).map PyData.int)), .ow (os.map (lkD s h m)), .sh o.D, s9, s10, .sh (wdD (unl s h o m)), .sh (wdD (unl s h o m))] := by
              intro E' hE
              get_elem_tactic_extensible
              refine go_same (same_ints 2 (by omega)) ?_
              get_elem_tactic_extensible
              exact hE _ (hK _ ⟨ps, _, _, _, _, _, rfl, fun o h => hp o (List.mem_cons_of_mem _ h), rfl⟩)
            cases nb with
            | true =>
              rw [if_pos rfl]
              get_elem_tactic_extensible
              refine go_unlike vs.b vh.b vo.b hm ?_
              get_elem_tactic_extensible
              exact fin _ fun _ h => h
            | false =>
              rw [if_neg (by decide)]
              get_elem_tactic_extensible
              refine go_unlike vs.b vh.b vo.b hm ?_
              get_elem_tactic_extensible
              exact fin _ fun _ h => h
        · rintro ρ ⟨ps, s8, s9, s10, s11, s12, he, hp, rfl⟩
          cases ps with
          | cons r rs => cases he
          | nil =>
            get_elem_tactic_extensible
            exact hq
theorem go_word_right {D z few : Int} {s : S4} {w : List Int} {Q : DL.D → Prop} (h : okFS (D, z)) (hs : SlV D s) (hw : Bw w) (hl : w.length ≤ 500) (f0 : 0 ≤ few) (f1 : few ≤ 20) (hq : Q (.bool true)) : S__law_is_word_right [.bg, .sh (fdD D), iS z, .sh s.D, .sh (wdD w), iS few] Q := ⟨(D, z, s, w, few), rfl, ⟨h, hs, hw, hl, f0, f1⟩, hq⟩
theorem r__law_is_word_right : ∀ ss (Q : D → Prop), S__law_is_word_right ss Q → g__law_is_word_right (endsOf Q) (initE N__law_is_word_right ss) := by
  rintro ss Q ⟨⟨D, z, s, w, few⟩, rfl, ⟨hF, hs, hw, hl, f0, f1⟩, hq⟩
  have hF : okFS (D, z) := hF
  have hD : SF D := hF.1
  have hs : SlV D s := hs
  have hw : Bw w := hw
  have hl : w.length ≤ 500 := hl
  have f0 : 0 ≤ few := f0
  have hq : Q (.bool true) := hq
  obtain ⟨few, rfl⟩ : ∃ j : Nat, few = (j : Int) := ⟨few.toNat, by omega⟩
  simp only [N__law_is_word_right, initE, List.length_cons, List.length_nil, Nat.reduceAdd, Nat.reduceSub, List.replicate, List.cons_append, List.nil_append, List.append_nil]
  unfold g__law_is_word_right
  get_elem_tactic_extensible
  refine go_bounds hD hs hw hl ?_
  get_elem_tactic_extensible
  have bv := bnd_v hD hs hw hl
  have due := fun {x y : S4} (p : PrV D (x, y)) => hb_due (w := w) hD hs p
  generalize bnd D s w = b at bv due
  refine go_points hF bv fun ps hp hpl => ?_
  get_elem_tactic_extensible
  refine go_pairs hD hp hpl fun rs hr hrl => ?_
  get_elem_tactic_extensible
  rw [cut_take, ← List.map_take]
  have hr2 : ∀ p ∈ rs.take few, PrV D p := fun p h => hr p (List.mem_of_mem_take h)
  have hrl2 : (rs.take few).length ≤ 13 := by rw [List.length_take]; omega
  generalize rs.take few = rs at hr2 hrl2
  refine ⟨?_, ?_⟩
  · rw [cut_take1, List.length_take, List.length_map]
    rw [sizeLine_eq]; omega
  rw [cut_take1, ← List.map_take, ← List.map_append]
  have hr3 : ∀ p ∈ rs ++ rs.take 1, PrV D p := fun p h => (List.mem_append.mp h).elim (hr2 p) fun z => hr2 p (List.mem_of_mem_take z)
  dsimp only
  refine for_of (fun ds ρ => ∃ (k : Nat) (ps : List (S4 × S4)) (s8 s9 s10 s11 s12 : Sl), ds = enumD k (ps.map pairD) ∧ (∀ p ∈ ps, PrV D p) ∧ ρ = [.bg, .sh (fdD D), iS z, .sh s.D, .sh (wdD w), iS (few : Int), .sh (bndD b), .sh (.list (rs.map pairD)), s8, s9, s10, s11, s12]) ?_ ?_ _ _ ⟨0, _, _, _, _, _, _, rfl, hr3, rfl⟩
  · rintro d ds ρ ⟨k, ps, s8, s9, s10, s11, s12, he, hp, rfl⟩ K hK
    cases ps with
    | nil => cases he
    | cons p ps =>
      obtain ⟨x, y⟩ := p
      cases he
      have pv := hp (x, y) List.mem_cons_self
      have du := due pv
      simp only [pairD]
      get_elem_tactic_extensible
      have fin : ∀ (E' : En) (_ : ∀ ρ, K ρ → E'.nx ρ) (_ : E'.rt = Q), fSeqS (fIfS (fCmp gEq (fN 8) (fC (.int 1))) (fSet 12 (fCallK S_height_between [3, 2, 0, 1] (fAC (fV 10) (fAC (fV 4) (fAC (fV 9) (fAC (fV 3) fAN)))))) (fSet 12 (fCall S_height_between (fAC (fV 3) (fAC (fV 9) (fAC (fV 10) (fAC (fV 4) fAN))))))) (fIfS (fNot (fTV (fCall S__law_same (fAC (fV 12) (fAC (fV 11) fAN))))) (fRet (fC (.bool false))) fNext) E' [.bg, .sh (fdD D), iS z, .sh s.D, .sh (wdD w), iS (few : Int), .sh (bndD b), .sh (.list (rs.map pairD)), iS (k : Int), .sh x.D, .sh y.D, .sh (.bool (dueB D x y b)), s12] := by
        intro E' hE _
        have last : ∀ E'' : En, (∀ ρ, K ρ → E''.nx ρ) → (fIfS (fNot (fTV (fCall S__law_same (fAC (fV 12) (fAC (fV 11) fAN))))) (fRet (fC (.bool false))) fNext) E'' [.bg, .sh (fdD D), iS z, .sh s.D, .sh (wdD w), iS (few : Int), .sh (bndD b), .sh (.list (rs.map pairD)), iS (k : Int), .sh x.D, .sh y.D, .sh (.bool (dueB D x y b)), .sh (.bool (hb s x y w))] := by
          intro E'' hE2
          get_elem_tactic_extensible
          rw [du]
          refine go_same (d := .bool (dueB D x y b)) trivial ?_
          get_elem_tactic_extensible
          exact hE2 _ (hK _ ⟨k + 1, ps, _, _, _, _, _, rfl, fun p h => hp p (List.mem_cons_of_mem _ h), rfl⟩)
        get_elem_tactic_extensible
        refine Go.ifd (fun e => ?_) (fun e => ?_)
        · get_elem_tactic_extensible
          refine go_height_between hD hs.v pv.x.h.v pv.y.h.v hw hl ?_
          get_elem_tactic_extensible
          exact last _ hE
        · get_elem_tactic_extensible
          refine go_height_between hD hs.v pv.x.h.v pv.y.h.v hw hl ?_
          get_elem_tactic_extensible
          exact last _ hE
      cases b with
      | none =>
        simp only [bndD] at fin hK ⊢
        get_elem_tactic_extensible
        exact fin _ (fun _ h => h) rfl
      | some lh =>
        obtain ⟨l, h⟩ := lh
        obtain ⟨hl1, hh1⟩ := bv l h rfl
        simp only [bndD] at fin hK ⊢
        have e1 : fdD D = .tuple [.int D, .int (RR D)] := rfl
        rw [e1] at fin hK ⊢
        get_elem_tactic_extensible
        refine Go.ifT rfl ?_
        get_elem_tactic_extensible
        refine go_is_less hD hl1.h.v.b pv.y.h.v.b ?_
        get_elem_tactic_extensible
        have dd : dueB D x y (some (l, h)) = (decide (Lt D l y) && decide (Lt D x h)) := rfl
        rw [dd] at fin
        refine Go.ifd (fun k1 => ?_) (fun k1 => ?_)
        · rw [decide_eq_true k1] at fin ⊢
          get_elem_tactic_extensible
          refine go_is_less hD pv.x.h.v.b hh1.h.v.b ?_
          get_elem_tactic_extensible
          refine Go.ifdn (fun k2 => ?_) (fun k2 => ?_)
          · rw [decide_eq_false k2] at fin
            get_elem_tactic_extensible
            exact fin _ (fun _ h => h) rfl
          · rw [decide_eq_true k2] at fin
            get_elem_tactic_extensible
            exact fin _ (fun _ h => h) rfl
        · rw [decide_eq_false k1] at fin ⊢
          get_elem_tactic_extensible
          exact fin _ (fun _ h => h) rfl
  · rintro ρ ⟨k, ps, s8, s9, s10, s11, s12, he, hp, rfl⟩
    cases ps with
    | cons r rs => cases he
    | nil =>
      get_elem_tactic_extensible
      exact hq
end T
end DL
namespace DL
namespace T
open PySem L2 PySem.Spec PyProof.Rows
local macro_rules
  | `(tactic| get_elem_tactic_extensible) => `(tactic| (repeat (first | with_reducible refine Go.lc_go ?_ | with_reducible refine Go.ln_go ?_ | ((with_reducible apply Go.v_sh); exact rfl) | ((with_reducible apply Go.n_sh); exact rfl) | ((with_reducible apply Go.n_ow); exact rfl) | ((with_reducible apply Go.ab_go); exact rfl) | ((with_reducible apply Go.app_go); exact rfl) | ((with_reducible apply Go.ext_go); exact rfl) | with_reducible refine Go.c_go ?_ | with_reducible refine Go.tup_go ?_ | with_reducible refine Go.nv_go ?_ | with_reducible refine Go.bin_go ?_ | with_reducible refine Go.slT_go ?_ | with_reducible refine Go.slL_go ?_ | with_reducible refine Go.on_go ?_ | with_reducible refine Go.os_go ?_ | with_reducible refine Go.neg_go ?_ | with_reducible refine Go.sub_go ?_ | with_reducible refine Go.addI_go ?_ | with_reducible refine Go.seqT_go ?_ | with_reducible refine Go.call_go ?_ | with_reducible refine Go.callK_go ?_ | with_reducible refine Go.cb_go ?_ | with_reducible refine Go.dict1_go ?_ | with_reducible refine Go.if_go ?_ | with_reducible refine Go.an_go ?_ | with_reducible refine Go.ac_go ?_ | with_reducible refine Go.mv_go ?_ | with_reducible refine Go.par_go ?_ | with_reducible refine Go.sq_go ?_ | with_reducible refine Go.set_go ?_ | with_reducible refine Go.setN_go ?_ | with_reducible refine Go.ret_go ?_ | with_reducible refine Go.asg_go ?_ | with_reducible refine Go.ifs_go ?_ | with_reducible refine Go.next_go ?_ | with_reducible refine Go.nm_go ?_ | with_reducible refine Go.cmp_go ?_ | with_reducible refine Go.tv_go ?_ | with_reducible refine Go.not_go ?_ | with_reducible refine Go.and_go ?_ | with_reducible refine Go.or_go ?_ | with_reducible refine Go.lenT_go ?_ | with_reducible refine Go.lenL_go ?_ | with_reducible refine Go.absI_go ?_ | with_reducible refine Go.intI_go ?_ | with_reducible refine Go.max2_go ?_ | with_reducible refine Go.min2_go ?_ | with_reducible refine Go.tupL_go ?_ | with_reducible refine Go.tupT_go ?_ | with_reducible refine Go.gv_go ?_ | with_reducible refine Go.ltI_go ?_ | with_reducible refine Go.leI_go ?_ | with_reducible refine Go.gtI_go ?_ | with_reducible refine Go.geI_go ?_ | with_reducible refine Go.eqI_go ?_ | with_reducible refine Go.neI_go ?_ | with_reducible refine Go.eqS_go ?_ | with_reducible refine Go.rng1_go ?_ | ((first | with_reducible apply Go.ixL_go | with_reducible apply Go.ixT_go); first | exact DL.at0 _ _ | exact DL.at1 _ _ _ | exact DL.at2 _ _ _ _ | exact DL.at3 _ _ _ _ _ | exact DL.at4 _ _ _ _ _ _) | ((with_reducible apply Go.frz_go); exact rfl) | ((with_reducible apply Go.frz_sh); exact rfl) | with_reducible refine Go.mn_go ?_ | with_reducible refine Go.andV_go ?_ | ((first | with_reducible apply Go.sqT_go | with_reducible apply Go.sqL_go); exact rfl) | with_reducible refine Go.gsC_go ?_ | with_reducible refine Go.gsN_go ?_ | with_reducible refine Go.ifT (by decide +kernel) ?_ | with_reducible refine Go.ifF (by decide +kernel) ?_ | with_reducible refine Go.cat_go ?_ | with_reducible refine Go.callO_go ?_ | ((with_reducible apply Go.retO_go); exact rfl) | with_reducible refine Go.retN_go ?_ | with_reducible refine Go.ifN_go ?_ | with_reducible refine Go.yes_go ?_ | with_reducible refine Go.isI_go ?_ | with_reducible refine Go.isB_go ?_ | with_reducible refine Go.isN_go ?_ | with_reducible refine Go.notN_go ?_ | with_reducible refine Go.lrev_go ?_ | with_reducible refine Go.bk_go ?_ | with_reducible refine Go.ct_go ?_ | with_reducible refine Go.rng2_go ?_ | with_reducible refine Go.orV_go ?_ | with_reducible refine Go.notV_go ?_ | ((with_reducible apply Go.setIx_go); exact rfl) | unfold fForS | unfold fLc | dsimp only [seqOf, List.set_cons_zero, List.set_cons_succ, setAll, wipeE])))
theorem S4_ni {x : S4} (b : Bd 64 x) : Ni 1 2411 x.D := by
  have i : ∀ {y : Int}, Sm 64 y → Ni 0 600 (.int y) := fun h => Ni.int (Sm.le h (by decide))
  exact (Ni.tup (.cons (i b.a) (.cons (i b.b) (.cons (i b.c) (.cons (i (b.d.le (by decide))) (NiA.nil (w := 0))))))).le (by decide) (by decide)
theorem wd_ni {w : List Int} (hw : Bw w) (hl : w.length ≤ 500) : Ni 1 310000 (wdD w) := by
  have : NiA 0 ((w.map PyData.int).length * (600 + 2)) (w.map PyData.int) := NiA.all fun d hd => by
    obtain ⟨i, hi, rfl⟩ := List.mem_map.mp hd
    exact Ni.int (by rcases hw i hi with z | z <;> rw [z] <;> decide)
  rw [List.length_map] at this
  exact (Ni.tup this).le (by decide) (by omega)
noncomputable def askD (x : S4 × List Int × Int) : DL.D := .tuple [x.1.D, wdD x.2.1, .int x.2.2]
theorem str_eq {x : Str} {Q : Bool → Prop} (q : Q true) : gEq (.str x) (.str x) Q := by
  show Q (decide (x = x))
  rw [decide_eq_true rfl]; exact q
theorem go_words_right {D z : Int} {s t : S4} {Q : DL.D → Prop} (h : okFS (D, z)) (hs : SlV D s) (ht : SlV D t) (hq : Q (.bool true)) : S__law_are_words_right [.bg, .sh (fdD D), iS z, .sh s.D, .sh t.D] Q := ⟨(D, z, s, t), rfl, ⟨h, hs, ht⟩, hq⟩
theorem r__law_are_words_right : ∀ ss (Q : D → Prop), S__law_are_words_right ss Q → g__law_are_words_right (endsOf Q) (initE N__law_are_words_right ss) := by
  rintro ss Q ⟨⟨D, z, s, t⟩, rfl, ⟨hF, hs, ht⟩, hq⟩
  have hF : okFS (D, z) := hF
  have hs : SlV D s := hs
  have ht : SlV D t := ht
  have hq : Q (.bool true) := hq
  simp only [N__law_are_words_right, initE, List.length_cons, List.length_nil, Nat.reduceAdd, Nat.reduceSub, List.replicate, List.cons_append, List.nil_append, List.append_nil]
  unfold g__law_are_words_right
  get_elem_tactic_extensible
  refine go_word hF hs fun w hw hl => ?_
  get_elem_tactic_extensible
  refine go_word hF ht fun v hv hvl => ?_
  get_elem_tactic_extensible
  rw [show (60 : Int) = ((60 : Nat) : Int) from rfl, cut_take, ← List.map_take]
  have hv : Bw (v.take 60) := fun x hx => hv x (List.mem_of_mem_take hx)
  have hvl : (v.take 60).length ≤ 60 := by rw [List.length_take]; omega
  generalize v.take 60 = v at hv hvl
  refine ⟨rfl, ?_⟩
  get_elem_tactic_extensible
  have ni : Ni 20 2000000 (.list [s.D, t.D, .tuple (w.map PyData.int), .tuple (v.map PyData.int)]) := (Ni.list (.cons (S4_ni hs.v.b) (.cons (S4_ni ht.v.b) (.cons (wd_ni hw hl) (.cons (wd_ni hv (by omega)) (NiA.nil (w := 0))))))).le (by decide) (by decide)
  have fin : ∀ few : Int, 0 ≤ few → few ≤ 20 → fSeqS (fSet 8 (fNV (fLC (fTup (fLC (fV 3) (fLC (fV 5) (fLC (fV 7) fLN)))) (fLC (fTup (fLC (fV 4) (fLC (fV 6) (fLC (fC (.int 13)) fLN)))) (fLC (fTup (fLC (fV 4) (fLC (fSlT (fN 5) fON (fOS (fC (.int 60)))) (fLC (fC (.int 4)) fLN)))) (fLC (fTup (fLC (fV 3) (fLC (fV 6) (fLC (fC (.int 4)) fLN)))) (fLC (fTup (fLC (fV 3) (fLC (fV 5) (fLC (fC (.int 3)) fLN)))) fLN))))))) (fSeqS (fSet 9 (fCB bRepr (fLC (fNV (fLC (fV 3) (fLC (fV 4) (fLC (fV 5) (fLC (fV 6) fLN))))) fLN))) (fSeqS (fForS (fSeq (fV 8)) (gSq 3 (gsCons (gNm 10) (gsCons (gNm 11) (gsCons (gNm 12) gsNil)))) (fIfS (fNot (fTV (fCall S__law_is_word_right (fAB 0 (fAC (fV 1) (fAC (fV 2) (fAC (fV 10) (fAC (fV 11) (fAC (fV 12) fAN))))))))) (fRet (fC (.bool false))) fNext)) (fRet (fBin (gv gEq) (fCB bRepr (fLC (fNV (fLC (fV 3) (fLC (fV 4) (fLC (fV 5) (fLC (fV 6) fLN))))) fLN)) (fN 9))))) (endsOf Q) [.bg, .sh (fdD D), iS z, .sh s.D, .sh t.D, .sh (.tuple (w.map PyData.int)), .sh (.tuple (v.map PyData.int)), iS few, .un, .un, .un, .un, .un] := by
    intro few f0 f1
    get_elem_tactic_extensible
    rw [show (60 : Int) = ((60 : Nat) : Int) from rfl, cut_take, ← List.map_take]
    have hw6 : Bw (w.take 60) := fun x hx => hw x (List.mem_of_mem_take hx)
    have hl6 : (w.take 60).length ≤ 500 := by rw [List.length_take]; omega
    generalize w.take 60 = w6 at hw6 hl6
    refine ni.repr (by decide) (by decide) ?_
    get_elem_tactic_extensible
    refine for_of (fun ds ρ => ∃ (as : List (S4 × List Int × Int)) (s8 s10 s11 s12 : Sl), ds = as.map askD ∧ (∀ a ∈ as, SlV D a.1 ∧ Bw a.2.1 ∧ a.2.1.length ≤ 500 ∧ 0 ≤ a.2.2 ∧ a.2.2 ≤ 20) ∧ ρ = [.bg, .sh (fdD D), iS z, .sh s.D, .sh t.D, .sh (.tuple (w.map PyData.int)), .sh (.tuple (v.map PyData.int)), iS few, s8, .sh (.str (PyData.list [s.D, t.D, .tuple (w.map PyData.int), .tuple (v.map PyData.int)]).shown), s10, s11, s12]) ?_ ?_ _ _ ⟨[(s, w, few), (t, v, 13), (t, w6, 4), (s, v, 4), (s, w, 3)], _, _, _, _, rfl, ?_, rfl⟩
    · rintro d ds ρ ⟨as, s8, s10, s11, s12, he, ha, rfl⟩ K hK
      cases as with
      | nil => cases he
      | cons a as =>
        cases he
        obtain ⟨a1, a2, a3, a4, a5⟩ := ha a List.mem_cons_self
        simp only [askD]
        get_elem_tactic_extensible
        refine go_word_right hF a1 a2 a3 a4 a5 ?_
        get_elem_tactic_extensible
        exact hK _ ⟨as, _, _, _, _, rfl, fun x hx => ha x (List.mem_cons_of_mem _ hx), rfl⟩
    · rintro ρ ⟨as, s8, s10, s11, s12, he, ha, rfl⟩
      cases as with
      | cons r rs => cases he
      | nil =>
        get_elem_tactic_extensible
        refine ni.repr (by decide) (by decide) ?_
        get_elem_tactic_extensible
        rw [decide_eq_true rfl]
        exact hq
    · intro a ha
      simp only [List.mem_cons, List.not_mem_nil, or_false] at ha
      rcases ha with rfl | rfl | rfl | rfl | rfl
      · exact ⟨hs, hw, hl, f0, f1⟩
      · exact ⟨ht, hv, by show v.length ≤ 500; omega, (show (0 : Int) ≤ 13 by decide), (show (13 : Int) ≤ 20 by decide)⟩
      · exact ⟨ht, hw6, hl6, (show (0 : Int) ≤ 4 by decide), (show (4 : Int) ≤ 20 by decide)⟩
      · exact ⟨hs, hv, by show v.length ≤ 500; omega, (show (0 : Int) ≤ 4 by decide), (show (4 : Int) ≤ 20 by decide)⟩
      · exact ⟨hs, hw, hl, (show (0 : Int) ≤ 3 by decide), (show (3 : Int) ≤ 20 by decide)⟩
  refine Go.ifd (fun e => ?_) (fun e => ?_)
  · get_elem_tactic_extensible
    exact fin 4 (by decide) (by decide)
  · get_elem_tactic_extensible
    exact fin 13 (by decide) (by decide)
end T
end DL
namespace DL
namespace T
open PySem L2 PySem.Spec PyProof.Rows
local macro_rules
  | `(tactic| get_elem_tactic_extensible) => `(tactic| (repeat (first | with_reducible refine Go.lc_go ?_ | with_reducible refine Go.ln_go ?_ | ((with_reducible apply Go.v_sh); exact rfl) | ((with_reducible apply Go.n_sh); exact rfl) | ((with_reducible apply Go.n_ow); exact rfl) | ((with_reducible apply Go.ab_go); exact rfl) | ((with_reducible apply Go.app_go); exact rfl) | ((with_reducible apply Go.ext_go); exact rfl) | with_reducible refine Go.c_go ?_ | with_reducible refine Go.tup_go ?_ | with_reducible refine Go.nv_go ?_ | with_reducible refine Go.bin_go ?_ | with_reducible refine Go.slT_go ?_ | with_reducible refine Go.slL_go ?_ | with_reducible refine Go.on_go ?_ | with_reducible refine Go.os_go ?_ | with_reducible refine Go.neg_go ?_ | with_reducible refine Go.sub_go ?_ | with_reducible refine Go.addI_go ?_ | with_reducible refine Go.seqT_go ?_ | with_reducible refine Go.call_go ?_ | with_reducible refine Go.callK_go ?_ | with_reducible refine Go.cb_go ?_ | with_reducible refine Go.dict1_go ?_ | with_reducible refine Go.if_go ?_ | with_reducible refine Go.an_go ?_ | with_reducible refine Go.ac_go ?_ | with_reducible refine Go.mv_go ?_ | with_reducible refine Go.par_go ?_ | with_reducible refine Go.sq_go ?_ | with_reducible refine Go.set_go ?_ | with_reducible refine Go.setN_go ?_ | with_reducible refine Go.ret_go ?_ | with_reducible refine Go.asg_go ?_ | with_reducible refine Go.ifs_go ?_ | with_reducible refine Go.next_go ?_ | with_reducible refine Go.nm_go ?_ | with_reducible refine Go.cmp_go ?_ | with_reducible refine Go.tv_go ?_ | with_reducible refine Go.not_go ?_ | with_reducible refine Go.and_go ?_ | with_reducible refine Go.or_go ?_ | with_reducible refine Go.lenT_go ?_ | with_reducible refine Go.lenL_go ?_ | with_reducible refine Go.absI_go ?_ | with_reducible refine Go.intI_go ?_ | with_reducible refine Go.max2_go ?_ | with_reducible refine Go.min2_go ?_ | with_reducible refine Go.tupL_go ?_ | with_reducible refine Go.tupT_go ?_ | with_reducible refine Go.gv_go ?_ | with_reducible refine Go.ltI_go ?_ | with_reducible refine Go.leI_go ?_ | with_reducible refine Go.gtI_go ?_ | with_reducible refine Go.geI_go ?_ | with_reducible refine Go.eqI_go ?_ | with_reducible refine Go.neI_go ?_ | with_reducible refine Go.eqS_go ?_ | with_reducible refine Go.rng1_go ?_ | ((first | with_reducible apply Go.ixL_go | with_reducible apply Go.ixT_go); first | exact DL.at0 _ _ | exact DL.at1 _ _ _ | exact DL.at2 _ _ _ _ | exact DL.at3 _ _ _ _ _ | exact DL.at4 _ _ _ _ _ _) | ((with_reducible apply Go.frz_go); exact rfl) | ((with_reducible apply Go.frz_sh); exact rfl) | with_reducible refine Go.mn_go ?_ | with_reducible refine Go.andV_go ?_ | ((first | with_reducible apply Go.sqT_go | with_reducible apply Go.sqL_go); exact rfl) | with_reducible refine Go.gsC_go ?_ | with_reducible refine Go.gsN_go ?_ | with_reducible refine Go.ifT (by decide +kernel) ?_ | with_reducible refine Go.ifF (by decide +kernel) ?_ | with_reducible refine Go.cat_go ?_ | with_reducible refine Go.callO_go ?_ | ((with_reducible apply Go.retO_go); exact rfl) | with_reducible refine Go.retN_go ?_ | with_reducible refine Go.ifN_go ?_ | with_reducible refine Go.yes_go ?_ | with_reducible refine Go.isI_go ?_ | with_reducible refine Go.isB_go ?_ | with_reducible refine Go.isN_go ?_ | with_reducible refine Go.notN_go ?_ | with_reducible refine Go.lrev_go ?_ | with_reducible refine Go.bk_go ?_ | with_reducible refine Go.ct_go ?_ | with_reducible refine Go.rng2_go ?_ | with_reducible refine Go.orV_go ?_ | with_reducible refine Go.notV_go ?_ | ((with_reducible apply Go.setIx_go); exact rfl) | unfold fForS | unfold fLc | dsimp only [seqOf, List.set_cons_zero, List.set_cons_succ, setAll, wipeE])))
theorem ht0 {D : Int} (hD : SF D) : HtN D ⟨0, 0, 1, 0⟩ := by
  have h := p01_0 D
  have b : Bd 51 (⟨0, 0, 1, 0⟩ : S4) := bd_int sm0' (by decide)
  exact ⟨⟨⟨InF.int D 0, b.le (by decide)⟩, h.w⟩, b⟩
theorem law_ni {D : Int} {a b c d e f : S4} (ha : Vs D a) (hb : Vs D b) (hc : Vs D c) (hd : Vs D d) (he : Vs D e) (hf : Vs D f) : Ni 20 2000000 (.list [a.D, b.D, c.D, d.D, e.D, f.D]) :=
  (Ni.list (.cons (S4_ni ha.b) (.cons (S4_ni hb.b) (.cons (S4_ni hc.b) (.cons (S4_ni hd.b) (.cons (S4_ni he.b) (.cons (S4_ni hf.b) (NiA.nil (w := 0))))))))).le (by decide) (by decide)
theorem mem1 {α : Type} {P : α → Prop} {a : α} (h : P a) : ∀ x ∈ [a], P x := fun x hx => by rw [List.mem_singleton.mp hx]; exact h
theorem mem2 {α : Type} {P : α → Prop} {a b : α} (h : P a) (k : P b) : ∀ x ∈ [a, b], P x := fun x hx => by
  simp only [List.mem_cons, List.not_mem_nil, or_false] at hx
  rcases hx with rfl | rfl <;> assumption
theorem mem3 {α : Type} {P : α → Prop} {a b c : α} (h : P a) (k : P b) (l : P c) : ∀ x ∈ [a, b, c], P x := fun x hx => by
  simp only [List.mem_cons, List.not_mem_nil, or_false] at hx
  rcases hx with rfl | rfl | rfl <;> assumption
theorem r_law : gLaw 11 g_law := by
  unfold gLaw
  simp only [List.replicate]
  unfold g_law q_law_15 q_law_14 q_law_13 q_law_12
  get_elem_tactic_extensible
  refine go_field fun D hD => ?_
  get_elem_tactic_extensible
  refine ⟨pw6, ?_⟩
  rw [tp6]
  get_elem_tactic_extensible
  refine ⟨pw12, ?_⟩
  rw [tp12]
  get_elem_tactic_extensible
  refine go_pick (by simp) (by simp) fun u hu => ?_
  obtain ⟨z, rfl, z0, z1⟩ : ∃ z : Int, u = .int z ∧ 8 ≤ z ∧ z ≤ 1000000000000 := by
    simp only [List.mem_cons, List.not_mem_nil, or_false] at hu
    rcases hu with rfl | rfl | rfl | rfl | rfl <;> exact ⟨_, rfl, by decide, by decide⟩
  clear hu
  have hF : okFS (D, z) := ⟨hD, z0, z1⟩
  get_elem_tactic_extensible
  refine ⟨rfl, ?_⟩
  get_elem_tactic_extensible
  refine go_slope hF fun s hs => ?_
  get_elem_tactic_extensible
  refine go_slope hF fun t ht => ?_
  get_elem_tactic_extensible
  refine ⟨rfl, ?_⟩
  get_elem_tactic_extensible
  refine go_height hF fun h hh => ?_
  get_elem_tactic_extensible
  refine go_height hF fun o ho => ?_
  get_elem_tactic_extensible
  refine ⟨rfl, ?_⟩
  have vs := hs.v
  have vt := ht.v
  have vh := hh.h.v
  have vo := ho.h.v
  have v0 := (ht0 hD).h.v
  get_elem_tactic_extensible
  refine go_draw (by decide) (by decide) fun x x0 x1 => ?_
  get_elem_tactic_extensible
  refine go_draw (by decide) (by decide) fun y y0 y1 => ?_
  get_elem_tactic_extensible
  have sx : Sm 101 (-x) := by unfold Sm; omega
  have sy : Sm 101 y := by unfold Sm; omega
  refine go_moved (h := ⟨0, 0, 1, 0⟩) vs.b v0.b sx sy ?_
  get_elem_tactic_extensible
  refine go_is_small (mv_c0 vs.b v0.b sx sy) ?_
  get_elem_tactic_extensible
  have fin : ∀ e : S4, HtN D e → (∀ E : En, E = (⟨fun _ => False, fun d => d = .bool true, fun _ => False, fun _ => False, fun _ => False⟩ : En) → q_law_11 E [.un, .bg, .sh (fdD D), iS z, .sh s.D, .sh t.D, .sh h.D, .sh o.D, .sh e.D, .un, .un, .un, .un]) := by
    intro e he E hE
    subst hE
    have ve := he.h.v
    unfold q_law_11 q_law_10 q_law_9
    get_elem_tactic_extensible
    refine go_near hD hs hh fun n hn => ?_
    have vn := hn.h.v
    get_elem_tactic_extensible
    refine go_draw (by decide) (by decide) fun a a0 a1 => ?_
    get_elem_tactic_extensible
    refine go_draw (by decide) (by decide) fun b b0 b1 => ?_
    get_elem_tactic_extensible
    refine go_pick (by simp) (by simp) fun u hu => ?_
    obtain ⟨m, rfl, hm⟩ : ∃ m : Nat, u = .int (m : Int) ∧ m ≤ 60 := by
      simp only [List.mem_cons, List.not_mem_nil, or_false] at hu
      rcases hu with rfl | rfl | rfl | rfl | rfl | rfl
      · exact ⟨0, rfl, by decide⟩
      · exact ⟨1, rfl, by decide⟩
      · exact ⟨2, rfl, by decide⟩
      · exact ⟨60, rfl, by decide⟩
      · exact ⟨(1 + a).toNat, by congr 1; omega, by omega⟩
      · exact ⟨(1 + b).toNat, by congr 1; omega, by omega⟩
    clear hu
    get_elem_tactic_extensible
    refine go_draw (by decide) (by decide) fun c c0 c1 => ?_
    get_elem_tactic_extensible
    have ni := law_ni vs vt vh vo ve vn
    have rest : ∀ g : Nat, g ≤ 500 → q_law_8 ⟨fun _ => False, fun d => d = .bool true, fun _ => False, fun _ => False, fun _ => False⟩ [.un, .bg, .sh (fdD D), iS z, .sh s.D, .sh t.D, .sh h.D, .sh o.D, .sh e.D, .sh n.D, iS (m : Int), iS (g : Int), .un] := by
      intro g hg
      unfold q_law_8 q_law_7 q_law_6 q_law_5 q_law_4 q_law_3 q_law_2 q_law_1 q_law_0
      get_elem_tactic_extensible
      refine ni.repr (by decide) (by decide) ?_
      get_elem_tactic_extensible
      refine go_rows (os := [o, n, e]) (m := m) hD vs vh (mem3 vo vn ve) (show 3 ≤ 5 by decide) (by omega) ?_
      get_elem_tactic_extensible
      refine go_rows (os := [o, e]) (m := 30) hD vt vh (mem2 vo ve) (show 2 ≤ 5 by decide) (by omega) ?_
      get_elem_tactic_extensible
      refine go_pick (by simp) (by simp) fun u hu => ?_
      obtain ⟨w, rfl, vw⟩ : ∃ w : S4, u = w.D ∧ Vs D w := by
        simp only [List.mem_cons, List.not_mem_nil, or_false] at hu
        rcases hu with rfl | rfl
        · exact ⟨h, rfl, vh⟩
        · exact ⟨e, rfl, ve⟩
      clear hu
      get_elem_tactic_extensible
      refine go_rows (os := [n]) (m := g) hD vs vw (mem1 vn) (show 1 ≤ 5 by decide) hg ?_
      get_elem_tactic_extensible
      refine go_moved_right hD hs hh ?_
      get_elem_tactic_extensible
      refine go_moved_right hD ht hh ?_
      get_elem_tactic_extensible
      refine go_moved_right hD hs he ?_
      get_elem_tactic_extensible
      refine go_words_right hF hs ht ?_
      get_elem_tactic_extensible
      refine ni.repr (by decide) (by decide) ?_
      get_elem_tactic_extensible
      rw [decide_eq_true rfl]
    refine Go.ifd (fun e => ?_) (fun e => ?_)
    · get_elem_tactic_extensible
      refine go_draw (by decide) (by decide) fun j j0 j1 => ?_
      get_elem_tactic_extensible
      obtain ⟨j, rfl⟩ : ∃ i : Nat, j = (i : Int) := ⟨j.toNat, by omega⟩
      have := rest (499 + j) (by omega)
      rw [Int.natCast_add] at this
      exact this
    · get_elem_tactic_extensible
      exact rest 24 (by decide)
  split
  · rename_i e
    get_elem_tactic_extensible
    exact fin _ (ht_small hD vs v0 e) _ rfl
  · get_elem_tactic_extensible
    exact fin _ (ht0 hD) _ rfl
end T
end DL
namespace DL
namespace T
open PySem L2 PySem.Spec PyProof.Rows
def top (i : Nat) : Stmt := PySem.Challenge.pw_linecuts_k43_whole_rows_apart.main.body.getD i (.Pass ⟨0, 0, 0, 0⟩)
abbrev s_common : Stmt := top 1
abbrev s_whole_root : Stmt := top 2
abbrev s_lowest : Stmt := top 4
abbrev s_surd_sum : Stmt := top 5
abbrev s_surd_times : Stmt := top 6
abbrev s_surd_turned : Stmt := top 7
abbrev s_surd_sign : Stmt := top 9
abbrev s_surd_order : Stmt := top 10
abbrev s_whole_part : Stmt := top 11
abbrev s_whole_at : Stmt := top 13
abbrev s_letters : Stmt := top 14
abbrev s_unlike_places : Stmt := top 16
abbrev s_moved_row : Stmt := top 17
abbrev s_height_between : Stmt := top 18
abbrev s__law_own_bag : Stmt := top 20
abbrev s__law_draw : Stmt := top 21
abbrev s__law_pick : Stmt := top 22
abbrev s__law_same : Stmt := top 23
abbrev s__law_whole_root : Stmt := top 24
abbrev s__law_times : Stmt := top 25
abbrev s__law_field : Stmt := top 26
abbrev s__law_shrunk : Stmt := top 27
abbrev s__law_slope : Stmt := top 28
abbrev s__law_height : Stmt := top 29
abbrev s__law_moved : Stmt := top 30
abbrev s__law_is_small : Stmt := top 31
abbrev s__law_near : Stmt := top 32
abbrev s__law_letters : Stmt := top 33
abbrev s__law_sign : Stmt := top 34
abbrev s__law_is_less : Stmt := top 35
abbrev s__law_bounds : Stmt := top 36
abbrev s__law_word : Stmt := top 37
abbrev s__law_points : Stmt := top 38
abbrev s__law_pairs : Stmt := top 39
abbrev s__law_is_word_right : Stmt := top 40
abbrev s__law_are_words_right : Stmt := top 41
abbrev s__law_is_moved_right : Stmt := top 42
abbrev s__law_are_rows_right : Stmt := top 43
abbrev s_law : Stmt := top 44
structure Bl (mg : Str → Option Value) : Prop where
  abs : mg "abs" = none
  max : mg "max" = none
  range : mg "range" = none
  tuple : mg "tuple" = none
  len : mg "len" = none
  list : mg "list" = none
  reversed : mg "reversed" = none
  isinstance : mg "isinstance" = none
  str : mg "str" = none
  int : mg "int" = none
  bool : mg "bool" = none
  zip : mg "zip" = none
  all : mg "all" = none
  enumerate : mg "enumerate" = none
  min : mg "min" = none
  repr : mg "repr" = none
theorem m_common : ∀ ss (Q Q' : D → Prop), (∀ d, Q d → Q' d) → S_common ss Q → S_common ss Q' := sp_mono
theorem l_common : ∀ ss (Q : D → Prop), S_common ss Q → ss.length = 2 := sp_len
theorem m_whole_root : ∀ ss (Q Q' : D → Prop), (∀ d, Q d → Q' d) → S_whole_root ss Q → S_whole_root ss Q' := sp_mono
theorem l_whole_root : ∀ ss (Q : D → Prop), S_whole_root ss Q → ss.length = 1 := sp_len
theorem m_surd_turned : ∀ ss (Q Q' : D → Prop), (∀ d, Q d → Q' d) → S_surd_turned ss Q → S_surd_turned ss Q' := spE_mono
theorem l_surd_turned : ∀ ss (Q : D → Prop), S_surd_turned ss Q → ss.length = 1 := spE_len fun _ => rfl
theorem m_surd_sign : ∀ ss (Q Q' : D → Prop), (∀ d, Q d → Q' d) → S_surd_sign ss Q → S_surd_sign ss Q' := spE_mono
theorem l_surd_sign : ∀ ss (Q : D → Prop), S_surd_sign ss Q → ss.length = 1 := spE_len fun _ => rfl
theorem m__law_own_bag : ∀ ss (Q Q' : D → Prop), (∀ d, Q d → Q' d) → S__law_own_bag ss Q → S__law_own_bag ss Q' := spOwn_mono
theorem l__law_own_bag : ∀ ss (Q : D → Prop), S__law_own_bag ss Q → ss.length = 1 := spOwn_len
theorem m__law_whole_root : ∀ ss (Q Q' : D → Prop), (∀ d, Q d → Q' d) → S__law_whole_root ss Q → S__law_whole_root ss Q' := spE_mono
theorem l__law_whole_root : ∀ ss (Q : D → Prop), S__law_whole_root ss Q → ss.length = 1 := spE_len fun _ => rfl
theorem m__law_times : ∀ ss (Q Q' : D → Prop), (∀ d, Q d → Q' d) → S__law_times ss Q → S__law_times ss Q' := spE_mono
theorem l__law_times : ∀ ss (Q : D → Prop), S__law_times ss Q → ss.length = 2 := spE_len fun _ => rfl
theorem m__law_shrunk : ∀ ss (Q Q' : D → Prop), (∀ d, Q d → Q' d) → S__law_shrunk ss Q → S__law_shrunk ss Q' := spE_mono
theorem l__law_shrunk : ∀ ss (Q : D → Prop), S__law_shrunk ss Q → ss.length = 4 := spE_len fun _ => rfl
theorem m__law_is_small : ∀ ss (Q Q' : D → Prop), (∀ d, Q d → Q' d) → S__law_is_small ss Q → S__law_is_small ss Q' := spE_mono
theorem l__law_is_small : ∀ ss (Q : D → Prop), S__law_is_small ss Q → ss.length = 1 := spE_len fun _ => rfl
theorem m__law_sign : ∀ ss (Q Q' : D → Prop), (∀ d, Q d → Q' d) → S__law_sign ss Q → S__law_sign ss Q' := spE_mono
theorem l__law_sign : ∀ ss (Q : D → Prop), S__law_sign ss Q → ss.length = 3 := spE_len fun _ => rfl
theorem m_lowest : ∀ ss (Q Q' : D → Prop), (∀ d, Q d → Q' d) → S_lowest ss Q → S_lowest ss Q' := spE_mono
theorem l_lowest : ∀ ss (Q : D → Prop), S_lowest ss Q → ss.length = 4 := spE_len fun _ => rfl
theorem m_whole_part : ∀ ss (Q Q' : D → Prop), (∀ d, Q d → Q' d) → S_whole_part ss Q → S_whole_part ss Q' := spE_mono
theorem l_whole_part : ∀ ss (Q : D → Prop), S_whole_part ss Q → ss.length = 1 := spE_len fun _ => rfl
theorem m__law_pick : ∀ ss (Q Q' : D → Prop), (∀ d, Q d → Q' d) → S__law_pick ss Q → S__law_pick ss Q' := spA_mono
theorem l__law_pick : ∀ ss (Q : D → Prop), S__law_pick ss Q → ss.length = 2 := spA_len fun _ => rfl
theorem m__law_slope : ∀ ss (Q Q' : D → Prop), (∀ d, Q d → Q' d) → S__law_slope ss Q → S__law_slope ss Q' := spA_mono
theorem l__law_slope : ∀ ss (Q : D → Prop), S__law_slope ss Q → ss.length = 3 := spA_len fun _ => rfl
theorem m__law_height : ∀ ss (Q Q' : D → Prop), (∀ d, Q d → Q' d) → S__law_height ss Q → S__law_height ss Q' := spA_mono
theorem l__law_height : ∀ ss (Q : D → Prop), S__law_height ss Q → ss.length = 3 := spA_len fun _ => rfl
theorem m__law_moved : ∀ ss (Q Q' : D → Prop), (∀ d, Q d → Q' d) → S__law_moved ss Q → S__law_moved ss Q' := spE_mono
theorem l__law_moved : ∀ ss (Q : D → Prop), S__law_moved ss Q → ss.length = 4 := spE_len fun _ => rfl
theorem m__law_letters : ∀ ss (Q Q' : D → Prop), (∀ d, Q d → Q' d) → S__law_letters ss Q → S__law_letters ss Q' := spE_mono
theorem l__law_letters : ∀ ss (Q : D → Prop), S__law_letters ss Q → ss.length = 4 := spE_len fun _ => rfl
theorem m__law_is_less : ∀ ss (Q Q' : D → Prop), (∀ d, Q d → Q' d) → S__law_is_less ss Q → S__law_is_less ss Q' := spE_mono
theorem l__law_is_less : ∀ ss (Q : D → Prop), S__law_is_less ss Q → ss.length = 3 := spE_len fun _ => rfl
theorem m__law_bounds : ∀ ss (Q Q' : D → Prop), (∀ d, Q d → Q' d) → S__law_bounds ss Q → S__law_bounds ss Q' := spE_mono
theorem l__law_bounds : ∀ ss (Q : D → Prop), S__law_bounds ss Q → ss.length = 3 := spE_len fun _ => rfl
theorem m_surd_sum : ∀ ss (Q Q' : D → Prop), (∀ d, Q d → Q' d) → S_surd_sum ss Q → S_surd_sum ss Q' := spE_mono
theorem l_surd_sum : ∀ ss (Q : D → Prop), S_surd_sum ss Q → ss.length = 2 := spE_len fun _ => rfl
theorem m_surd_times : ∀ ss (Q Q' : D → Prop), (∀ d, Q d → Q' d) → S_surd_times ss Q → S_surd_times ss Q' := spE_mono
theorem l_surd_times : ∀ ss (Q : D → Prop), S_surd_times ss Q → ss.length = 2 := spE_len fun _ => rfl
theorem m_whole_at : ∀ ss (Q Q' : D → Prop), (∀ d, Q d → Q' d) → S_whole_at ss Q → S_whole_at ss Q' := spE_mono
theorem l_whole_at : ∀ ss (Q : D → Prop), S_whole_at ss Q → ss.length = 3 := spE_len fun _ => rfl
theorem m__law_field : ∀ ss (Q Q' : D → Prop), (∀ d, Q d → Q' d) → S__law_field ss Q → S__law_field ss Q' := spA_mono
theorem l__law_field : ∀ ss (Q : D → Prop), S__law_field ss Q → ss.length = 1 := spA_len fun _ => rfl
theorem m__law_near : ∀ ss (Q Q' : D → Prop), (∀ d, Q d → Q' d) → S__law_near ss Q → S__law_near ss Q' := spA_mono
theorem l__law_near : ∀ ss (Q : D → Prop), S__law_near ss Q → ss.length = 3 := spA_len fun _ => rfl
theorem m__law_word : ∀ ss (Q Q' : D → Prop), (∀ d, Q d → Q' d) → S__law_word ss Q → S__law_word ss Q' := spA_mono
theorem l__law_word : ∀ ss (Q : D → Prop), S__law_word ss Q → ss.length = 4 := spA_len fun _ => rfl
theorem m__law_points : ∀ ss (Q Q' : D → Prop), (∀ d, Q d → Q' d) → S__law_points ss Q → S__law_points ss Q' := spA_mono
theorem l__law_points : ∀ ss (Q : D → Prop), S__law_points ss Q → ss.length = 4 := spA_len fun _ => rfl
theorem m__law_pairs : ∀ ss (Q Q' : D → Prop), (∀ d, Q d → Q' d) → S__law_pairs ss Q → S__law_pairs ss Q' := spA_mono
theorem l__law_pairs : ∀ ss (Q : D → Prop), S__law_pairs ss Q → ss.length = 3 := spA_len fun _ => rfl
theorem m_surd_order : ∀ ss (Q Q' : D → Prop), (∀ d, Q d → Q' d) → S_surd_order ss Q → S_surd_order ss Q' := spE_mono
theorem l_surd_order : ∀ ss (Q : D → Prop), S_surd_order ss Q → ss.length = 2 := spE_len fun _ => rfl
theorem m_letters : ∀ ss (Q Q' : D → Prop), (∀ d, Q d → Q' d) → S_letters ss Q → S_letters ss Q' := spE_mono
theorem l_letters : ∀ ss (Q : D → Prop), S_letters ss Q → ss.length = 3 := spE_len fun _ => rfl
theorem m_moved_row : ∀ ss (Q Q' : D → Prop), (∀ d, Q d → Q' d) → S_moved_row ss Q → S_moved_row ss Q' := spE_mono
theorem l_moved_row : ∀ ss (Q : D → Prop), S_moved_row ss Q → ss.length = 3 := spE_len fun _ => rfl
theorem m_unlike_places : ∀ ss (Q Q' : D → Prop), (∀ d, Q d → Q' d) → S_unlike_places ss Q → S_unlike_places ss Q' := spE_mono
theorem l_unlike_places : ∀ ss (Q : D → Prop), S_unlike_places ss Q → ss.length = 4 := spE_len fun _ => rfl
theorem m__law_is_moved_right : ∀ ss (Q Q' : D → Prop), (∀ d, Q d → Q' d) → S__law_is_moved_right ss Q → S__law_is_moved_right ss Q' := spE_mono
theorem l__law_is_moved_right : ∀ ss (Q : D → Prop), S__law_is_moved_right ss Q → ss.length = 5 := spE_len fun _ => rfl
theorem m__law_is_word_right : ∀ ss (Q Q' : D → Prop), (∀ d, Q d → Q' d) → S__law_is_word_right ss Q → S__law_is_word_right ss Q' := spE_mono
theorem l__law_is_word_right : ∀ ss (Q : D → Prop), S__law_is_word_right ss Q → ss.length = 6 := spE_len fun _ => rfl
theorem m__law_are_rows_right : ∀ ss (Q Q' : D → Prop), (∀ d, Q d → Q' d) → S__law_are_rows_right ss Q → S__law_are_rows_right ss Q' := spE_mono
theorem l__law_are_rows_right : ∀ ss (Q : D → Prop), S__law_are_rows_right ss Q → ss.length = 6 := spE_len fun _ => rfl
theorem m__law_are_words_right : ∀ ss (Q Q' : D → Prop), (∀ d, Q d → Q' d) → S__law_are_words_right ss Q → S__law_are_words_right ss Q' := spE_mono
theorem l__law_are_words_right : ∀ ss (Q : D → Prop), S__law_are_words_right ss Q → ss.length = 5 := spE_len fun _ => rfl
theorem sc_common : FnScope N_common ["one", "other"] (defScope s_common) := ⟨rfl, rfl, rfl, by decide +kernel, rfl, by decide +kernel, by decide +kernel⟩
theorem der_common {P : Program} {w : World} {K : PySem.W.Frag} {mg : Str → Option Value} {base : Heap} {f : Addr} {cdv : Value} {A : Around} {outer : List PySem.Env} {s : Shared} {c : C} (bl : Bl mg)  (hG : IsLst c) (hgd : A.guards = some []) (hr : Room 0 (A.deeper (envOfC "common" (defScope s_common) s.heap.objs.size f cdv))) : PSsd (XX P w K mg base N_common "common" s_common f cdv A outer s c.H0) c (defBody s_common) g_common := by
  have hN : (XX P w K mg base N_common "common" s_common f cdv A outer s c.H0).N.Nodup := sc_common.nd
  have hc : (XX P w K mg base N_common "common" s_common f cdv A outer s c.H0).calm = true := rfl
  have hx : ∀ e s1, ¬ (XX P w K mg base N_common "common" s_common f cdv A outer s c.H0).xe e s1 := fun _ _ z => z
  have hp : PassesOwn (model P w) (XX P w K mg base N_common "common" s_common f cdv A outer s c.H0).A (XX P w K mg base N_common "common" s_common f cdv A outer s c.H0).env (XX P w K mg base N_common "common" s_common f cdv A outer s c.H0).xe := PassesOwn.never
  have hu : (XX P w K mg base N_common "common" s_common f cdv A outer s c.H0).A.units + 64 < cLine := units_of hr
  have hu5 : (XX P w K mg base N_common "common" s_common f cdv A outer s c.H0).A.units + 65 < cLine := units65 hr
  exact (ss_cons (s_while hp (t_cmp o_gt (b_name 1) (PV.b v_int)) (ss_one (s_par 0 1 hc hN (m_v (v_name 1) (m_v (v_bin o_mod (b_name 0) (b_name 1)) m_nil))))) (ss_one (s_ret (v_name 0))))
theorem ok_common {P : Program} {w : World} {K : PySem.W.Frag} {mg : Str → Option Value} {base : Heap} {f : Addr} {fd : FuncData} (F : Fun K "common" "common" s_common f fd) (bl : Bl mg)  : FnG IsLst P w K mg base 1 f fd ["one", "other"] S_common :=
  fng_of F sc_common m_common l_common fun cdv A outer s c hG hgd hr => ⟨g_common, der_common bl  hG hgd hr, r_common⟩
theorem sc_whole_root : FnScope N_whole_root ["number"] (defScope s_whole_root) := ⟨rfl, rfl, rfl, by decide +kernel, rfl, by decide +kernel, by decide +kernel⟩
theorem der_whole_root {P : Program} {w : World} {K : PySem.W.Frag} {mg : Str → Option Value} {base : Heap} {f : Addr} {cdv : Value} {A : Around} {outer : List PySem.Env} {s : Shared} {c : C} (bl : Bl mg)  (hG : IsLst c) (hgd : A.guards = some []) (hr : Room 0 (A.deeper (envOfC "whole_root" (defScope s_whole_root) s.heap.objs.size f cdv))) : PSsd (XX P w K mg base N_whole_root "whole_root" s_whole_root f cdv A outer s c.H0) c (defBody s_whole_root) g_whole_root := by
  have hN : (XX P w K mg base N_whole_root "whole_root" s_whole_root f cdv A outer s c.H0).N.Nodup := sc_whole_root.nd
  have hc : (XX P w K mg base N_whole_root "whole_root" s_whole_root f cdv A outer s c.H0).calm = true := rfl
  have hx : ∀ e s1, ¬ (XX P w K mg base N_whole_root "whole_root" s_whole_root f cdv A outer s c.H0).xe e s1 := fun _ _ z => z
  have hp : PassesOwn (model P w) (XX P w K mg base N_whole_root "whole_root" s_whole_root f cdv A outer s c.H0).A (XX P w K mg base N_whole_root "whole_root" s_whole_root f cdv A outer s c.H0).env (XX P w K mg base N_whole_root "whole_root" s_whole_root f cdv A outer s c.H0).xe := PassesOwn.never
  have hu : (XX P w K mg base N_whole_root "whole_root" s_whole_root f cdv A outer s c.H0).A.units + 64 < cLine := units_of hr
  have hu5 : (XX P w K mg base N_whole_root "whole_root" s_whole_root f cdv A outer s c.H0).A.units + 65 < cLine := units65 hr
  exact (ss_cons (s_if (t_cmp o_lt (b_name 0) (PV.b v_int)) (ss_one (s_ret (v_name 0))) ss_nil) (ss_cons (s_set 1 hN (v_bin o_shlW (PV.b v_int) (PV.b (v_bin o_div (PV.b (v_bin o_add (PV.b (v_bits (b_name 0))) (PV.b v_int))) (PV.b v_int))))) (ss_cons (s_set 2 hN (v_bin o_div (PV.b (v_bin o_add (b_name 1) (PV.b (v_bin o_div (b_name 0) (b_name 1))))) (PV.b v_int))) (ss_cons (s_while hp (t_cmp o_lt (b_name 2) (b_name 1)) (ss_one (s_par 1 2 hc hN (m_v (v_name 2) (m_v (v_bin o_div (PV.b (v_bin o_add (b_name 2) (PV.b (v_bin o_div (b_name 0) (b_name 2))))) (PV.b v_int)) m_nil))))) (ss_one (s_ret (v_name 1)))))))
theorem ok_whole_root {P : Program} {w : World} {K : PySem.W.Frag} {mg : Str → Option Value} {base : Heap} {f : Addr} {fd : FuncData} (F : Fun K "whole_root" "whole_root" s_whole_root f fd) (bl : Bl mg)  : FnG IsLst P w K mg base 1 f fd ["number"] S_whole_root :=
  fng_of F sc_whole_root m_whole_root l_whole_root fun cdv A outer s c hG hgd hr => ⟨g_whole_root, der_whole_root bl  hG hgd hr, r_whole_root⟩
theorem sc_surd_turned : FnScope N_surd_turned ["one"] (defScope s_surd_turned) := ⟨rfl, rfl, rfl, by decide +kernel, rfl, by decide +kernel, by decide +kernel⟩
theorem der_surd_turned {P : Program} {w : World} {K : PySem.W.Frag} {mg : Str → Option Value} {base : Heap} {f : Addr} {cdv : Value} {A : Around} {outer : List PySem.Env} {s : Shared} {c : C} (bl : Bl mg)  (hG : IsLst c) (hgd : A.guards = some []) (hr : Room 0 (A.deeper (envOfC "surd_turned" (defScope s_surd_turned) s.heap.objs.size f cdv))) : PSsd (XX P w K mg base N_surd_turned "surd_turned" s_surd_turned f cdv A outer s c.H0) c (defBody s_surd_turned) g_surd_turned := by
  have hN : (XX P w K mg base N_surd_turned "surd_turned" s_surd_turned f cdv A outer s c.H0).N.Nodup := sc_surd_turned.nd
  have hc : (XX P w K mg base N_surd_turned "surd_turned" s_surd_turned f cdv A outer s c.H0).calm = true := rfl
  have hx : ∀ e s1, ¬ (XX P w K mg base N_surd_turned "surd_turned" s_surd_turned f cdv A outer s c.H0).xe e s1 := fun _ _ z => z
  have hp : PassesOwn (model P w) (XX P w K mg base N_surd_turned "surd_turned" s_surd_turned f cdv A outer s c.H0).A (XX P w K mg base N_surd_turned "surd_turned" s_surd_turned f cdv A outer s c.H0).env (XX P w K mg base N_surd_turned "surd_turned" s_surd_turned f cdv A outer s c.H0).xe := PassesOwn.never
  have hu : (XX P w K mg base N_surd_turned "surd_turned" s_surd_turned f cdv A outer s c.H0).A.units + 64 < cLine := units_of hr
  have hu5 : (XX P w K mg base N_surd_turned "surd_turned" s_surd_turned f cdv A outer s c.H0).A.units + 65 < cLine := units65 hr
  exact (ss_one (s_ret (v_tup (d_cons (v_neg (PV.b (v_ix (b_name 0) (PV.b v_int)))) (d_cons (v_neg (PV.b (v_ix (b_name 0) (PV.b v_int)))) (d_cons (v_ix (b_name 0) (PV.b v_int)) (d_cons (v_ix (b_name 0) (PV.b v_int)) d_nil)))))))
theorem ok_surd_turned {P : Program} {w : World} {K : PySem.W.Frag} {mg : Str → Option Value} {base : Heap} {f : Addr} {fd : FuncData} (F : Fun K "surd_turned" "surd_turned" s_surd_turned f fd) (bl : Bl mg)  : FnG IsLst P w K mg base 1 f fd ["one"] S_surd_turned :=
  fng_of F sc_surd_turned m_surd_turned l_surd_turned fun cdv A outer s c hG hgd hr => ⟨g_surd_turned, der_surd_turned bl  hG hgd hr, r_surd_turned⟩
theorem sc_surd_sign : FnScope N_surd_sign ["one"] (defScope s_surd_sign) := ⟨rfl, rfl, rfl, by decide +kernel, rfl, by decide +kernel, by decide +kernel⟩
theorem der_surd_sign {P : Program} {w : World} {K : PySem.W.Frag} {mg : Str → Option Value} {base : Heap} {f : Addr} {cdv : Value} {A : Around} {outer : List PySem.Env} {s : Shared} {c : C} (bl : Bl mg)  (hG : IsLst c) (hgd : A.guards = some []) (hr : Room 0 (A.deeper (envOfC "surd_sign" (defScope s_surd_sign) s.heap.objs.size f cdv))) : PSsd (XX P w K mg base N_surd_sign "surd_sign" s_surd_sign f cdv A outer s c.H0) c (defBody s_surd_sign) g_surd_sign := by
  have hN : (XX P w K mg base N_surd_sign "surd_sign" s_surd_sign f cdv A outer s c.H0).N.Nodup := sc_surd_sign.nd
  have hc : (XX P w K mg base N_surd_sign "surd_sign" s_surd_sign f cdv A outer s c.H0).calm = true := rfl
  have hx : ∀ e s1, ¬ (XX P w K mg base N_surd_sign "surd_sign" s_surd_sign f cdv A outer s c.H0).xe e s1 := fun _ _ z => z
  have hp : PassesOwn (model P w) (XX P w K mg base N_surd_sign "surd_sign" s_surd_sign f cdv A outer s c.H0).A (XX P w K mg base N_surd_sign "surd_sign" s_surd_sign f cdv A outer s c.H0).env (XX P w K mg base N_surd_sign "surd_sign" s_surd_sign f cdv A outer s c.H0).xe := PassesOwn.never
  have hu : (XX P w K mg base N_surd_sign "surd_sign" s_surd_sign f cdv A outer s c.H0).A.units + 64 < cLine := units_of hr
  have hu5 : (XX P w K mg base N_surd_sign "surd_sign" s_surd_sign f cdv A outer s c.H0).A.units + 65 < cLine := units65 hr
  exact (ss_cons (s_par3 1 2 3 hc hN (m_v (v_ix (b_name 0) (PV.b v_int)) (m_v (v_ix (b_name 0) (PV.b v_int)) (m_v (v_ix (b_name 0) (PV.b v_int)) m_nil)))) (ss_cons (s_if (PWd.t (w_and (t_cmp o_ge (b_name 1) (PV.b v_int)) (w_and1 (t_cmp o_ge (b_name 2) (PV.b v_int))))) (ss_one (s_ret (v_if (t_cmp o_gt (PV.b (v_bin o_add (b_name 1) (b_name 2))) (PV.b v_int)) v_int v_int))) ss_nil) (ss_cons (s_if (PWd.t (w_and (t_cmp o_le (b_name 1) (PV.b v_int)) (w_and1 (t_cmp o_le (b_name 2) (PV.b v_int))))) (ss_one (s_ret (v_neg (PV.b v_int)))) ss_nil) (ss_one (s_ret (v_if (t_cmp (o_eq hu) (PV.b (v_cmp o_gt (PV.b (v_bin o_mul (b_name 1) (b_name 1))) (PV.b (v_bin o_mul (PV.b (v_bin o_mul (b_name 2) (b_name 2))) (b_name 3))))) (PV.b (v_cmp o_gt (b_name 1) (PV.b v_int)))) v_int (v_neg (PV.b v_int))))))))
theorem ok_surd_sign {P : Program} {w : World} {K : PySem.W.Frag} {mg : Str → Option Value} {base : Heap} {f : Addr} {fd : FuncData} (F : Fun K "surd_sign" "surd_sign" s_surd_sign f fd) (bl : Bl mg)  : FnG IsLst P w K mg base 1 f fd ["one"] S_surd_sign :=
  fng_of F sc_surd_sign m_surd_sign l_surd_sign fun cdv A outer s c hG hgd hr => ⟨g_surd_sign, der_surd_sign bl  hG hgd hr, r_surd_sign⟩
theorem sc__law_own_bag : FnScope N__law_own_bag ["script"] (defScope s__law_own_bag) := ⟨rfl, rfl, rfl, by decide +kernel, rfl, by decide +kernel, by decide +kernel⟩
theorem der__law_own_bag {P : Program} {w : World} {K : PySem.W.Frag} {mg : Str → Option Value} {base : Heap} {f : Addr} {cdv : Value} {A : Around} {outer : List PySem.Env} {s : Shared} {c : C} (bl : Bl mg)  (hG : GOwn K c) (hgd : A.guards = some []) (hr : Room 0 (A.deeper (envOfC "_law_own_bag" (defScope s__law_own_bag) s.heap.objs.size f cdv))) : PSsd (XX P w K mg base N__law_own_bag "_law_own_bag" s__law_own_bag f cdv A outer s c.H0) c (defBody s__law_own_bag) g__law_own_bag := by
  have hN : (XX P w K mg base N__law_own_bag "_law_own_bag" s__law_own_bag f cdv A outer s c.H0).N.Nodup := sc__law_own_bag.nd
  have hc : (XX P w K mg base N__law_own_bag "_law_own_bag" s__law_own_bag f cdv A outer s c.H0).calm = true := rfl
  have hx : ∀ e s1, ¬ (XX P w K mg base N__law_own_bag "_law_own_bag" s__law_own_bag f cdv A outer s c.H0).xe e s1 := fun _ _ z => z
  have hp : PassesOwn (model P w) (XX P w K mg base N__law_own_bag "_law_own_bag" s__law_own_bag f cdv A outer s c.H0).A (XX P w K mg base N__law_own_bag "_law_own_bag" s__law_own_bag f cdv A outer s c.H0).env (XX P w K mg base N__law_own_bag "_law_own_bag" s__law_own_bag f cdv A outer s c.H0).xe := PassesOwn.never
  have hu : (XX P w K mg base N__law_own_bag "_law_own_bag" s__law_own_bag f cdv A outer s c.H0).A.units + 64 < cLine := units_of hr
  have hu5 : (XX P w K mg base N__law_own_bag "_law_own_bag" s__law_own_bag f cdv A outer s c.H0).A.units + 65 < cLine := units65 hr
  exact (ss_cons (s_lc 1 hc hN (own := [("cell", 2)]) (by first | rfl | decide +kernel) (i_seq (PN.v (n_script (l := none) (h := some 63) hG po_n (po_s (PV.b v_int))))) (fun _ _ _ _ _ => (g_nm 2 (by exact hN))) (fun _ _ _ _ _ => ts_nil) (fun _ _ _ _ _ => (v_callB c_abs bl.abs (bb_cons (b_name 2) bb_nil)))) (ss_cons (s_set 3 hN (v_bin o_add (PV.b v_int) (PV.b (v_callB c_len bl.len (bb_cons (b_name 1) bb_nil))))) (ss_cons (s_frz 1 (s_for hp hc (i_seq (v_name 1)) (g_nm 2 hN) (ss_one (s_set 3 hN (v_bin o_mod (PV.b (v_bin o_add (PV.b (v_bin o_add (PV.b (v_bin o_mul (b_name 3) (PV.b v_int))) (PV.b (v_bin o_mod (b_name 2) (PV.b v_int))))) (PV.b v_int))) (PV.b v_int)))))) (ss_one (s_ret (PN.v (n_lst (d_cons (PN.v (n_listRev hc bl.list bl.reversed (PV.b (PN.v (n_list bl.list (b_name 1)))))) (d_cons v_int (d_cons (v_name 3) d_nil))))))))))
theorem ok__law_own_bag {P : Program} {w : World} {K : PySem.W.Frag} {mg : Str → Option Value} {base : Heap} {f : Addr} {fd : FuncData} (F : Fun K "_law_own_bag" "_law_own_bag" s__law_own_bag f fd) (bl : Bl mg)  : FnG (GOwn K) P w K mg base 1 f fd ["script"] S__law_own_bag :=
  fng_of F sc__law_own_bag m__law_own_bag l__law_own_bag fun cdv A outer s c hG hgd hr => ⟨g__law_own_bag, der__law_own_bag bl  hG hgd hr, r__law_own_bag⟩
theorem sc__law_whole_root : FnScope N__law_whole_root ["n"] (defScope s__law_whole_root) := ⟨rfl, rfl, rfl, by decide +kernel, rfl, by decide +kernel, by decide +kernel⟩
theorem der__law_whole_root {P : Program} {w : World} {K : PySem.W.Frag} {mg : Str → Option Value} {base : Heap} {f : Addr} {cdv : Value} {A : Around} {outer : List PySem.Env} {s : Shared} {c : C} (bl : Bl mg)  (hG : IsLst c) (hgd : A.guards = some []) (hr : Room 0 (A.deeper (envOfC "_law_whole_root" (defScope s__law_whole_root) s.heap.objs.size f cdv))) : PSsd (XX P w K mg base N__law_whole_root "_law_whole_root" s__law_whole_root f cdv A outer s c.H0) c (defBody s__law_whole_root) g__law_whole_root := by
  have hN : (XX P w K mg base N__law_whole_root "_law_whole_root" s__law_whole_root f cdv A outer s c.H0).N.Nodup := sc__law_whole_root.nd
  have hc : (XX P w K mg base N__law_whole_root "_law_whole_root" s__law_whole_root f cdv A outer s c.H0).calm = true := rfl
  have hx : ∀ e s1, ¬ (XX P w K mg base N__law_whole_root "_law_whole_root" s__law_whole_root f cdv A outer s c.H0).xe e s1 := fun _ _ z => z
  have hp : PassesOwn (model P w) (XX P w K mg base N__law_whole_root "_law_whole_root" s__law_whole_root f cdv A outer s c.H0).A (XX P w K mg base N__law_whole_root "_law_whole_root" s__law_whole_root f cdv A outer s c.H0).env (XX P w K mg base N__law_whole_root "_law_whole_root" s__law_whole_root f cdv A outer s c.H0).xe := PassesOwn.never
  have hu : (XX P w K mg base N__law_whole_root "_law_whole_root" s__law_whole_root f cdv A outer s c.H0).A.units + 64 < cLine := units_of hr
  have hu5 : (XX P w K mg base N__law_whole_root "_law_whole_root" s__law_whole_root f cdv A outer s c.H0).A.units + 65 < cLine := units65 hr
  exact (ss_cons (s_if (t_cmp (o_eq hu) (b_name 0) (PV.b v_int)) (ss_one (s_ret v_int)) ss_nil) (ss_cons (s_set 1 hN (v_bin o_shlW (PV.b v_int) (PV.b (v_bin o_div (PV.b (v_bin o_add (PV.b (v_bits (b_name 0))) (PV.b v_int))) (PV.b v_int))))) (ss_cons (s_set 2 hN (v_bin o_div (PV.b (v_bin o_add (b_name 1) (PV.b (v_bin o_div (b_name 0) (b_name 1))))) (PV.b v_int))) (ss_cons (s_while hp (t_cmp o_lt (b_name 2) (b_name 1)) (ss_cons (s_set 1 hN (v_name 2)) (ss_one (s_set 2 hN (v_bin o_div (PV.b (v_bin o_add (b_name 1) (PV.b (v_bin o_div (b_name 0) (b_name 1))))) (PV.b v_int)))))) (ss_one (s_ret (v_name 1)))))))
theorem ok__law_whole_root {P : Program} {w : World} {K : PySem.W.Frag} {mg : Str → Option Value} {base : Heap} {f : Addr} {fd : FuncData} (F : Fun K "_law_whole_root" "_law_whole_root" s__law_whole_root f fd) (bl : Bl mg)  : FnG IsLst P w K mg base 1 f fd ["n"] S__law_whole_root :=
  fng_of F sc__law_whole_root m__law_whole_root l__law_whole_root fun cdv A outer s c hG hgd hr => ⟨g__law_whole_root, der__law_whole_root bl  hG hgd hr, r__law_whole_root⟩
theorem sc__law_times : FnScope N__law_times ["field", "b"] (defScope s__law_times) := ⟨rfl, rfl, rfl, by decide +kernel, rfl, by decide +kernel, by decide +kernel⟩
theorem der__law_times {P : Program} {w : World} {K : PySem.W.Frag} {mg : Str → Option Value} {base : Heap} {f : Addr} {cdv : Value} {A : Around} {outer : List PySem.Env} {s : Shared} {c : C} (bl : Bl mg)  (hG : IsLst c) (hgd : A.guards = some []) (hr : Room 0 (A.deeper (envOfC "_law_times" (defScope s__law_times) s.heap.objs.size f cdv))) : PSsd (XX P w K mg base N__law_times "_law_times" s__law_times f cdv A outer s c.H0) c (defBody s__law_times) g__law_times := by
  have hN : (XX P w K mg base N__law_times "_law_times" s__law_times f cdv A outer s c.H0).N.Nodup := sc__law_times.nd
  have hc : (XX P w K mg base N__law_times "_law_times" s__law_times f cdv A outer s c.H0).calm = true := rfl
  have hx : ∀ e s1, ¬ (XX P w K mg base N__law_times "_law_times" s__law_times f cdv A outer s c.H0).xe e s1 := fun _ _ z => z
  have hp : PassesOwn (model P w) (XX P w K mg base N__law_times "_law_times" s__law_times f cdv A outer s c.H0).A (XX P w K mg base N__law_times "_law_times" s__law_times f cdv A outer s c.H0).env (XX P w K mg base N__law_times "_law_times" s__law_times f cdv A outer s c.H0).xe := PassesOwn.never
  have hu : (XX P w K mg base N__law_times "_law_times" s__law_times f cdv A outer s c.H0).A.units + 64 < cLine := units_of hr
  have hu5 : (XX P w K mg base N__law_times "_law_times" s__law_times f cdv A outer s c.H0).A.units + 65 < cLine := units65 hr
  exact (ss_cons (s_if (t_cmp o_lt (b_name 1) (PV.b v_int)) (ss_one (s_ret (v_bin o_sub (PV.b (v_neg (PV.b (v_bin o_shr (PV.b (v_bin o_mul (PV.b (v_neg (b_name 1))) (PV.b (v_ix (b_name 0) (PV.b v_int))))) (PV.b v_int))))) (PV.b v_int)))) ss_nil) (ss_one (s_ret (v_bin o_shr (PV.b (v_bin o_mul (b_name 1) (PV.b (v_ix (b_name 0) (PV.b v_int))))) (PV.b v_int)))))
theorem ok__law_times {P : Program} {w : World} {K : PySem.W.Frag} {mg : Str → Option Value} {base : Heap} {f : Addr} {fd : FuncData} (F : Fun K "_law_times" "_law_times" s__law_times f fd) (bl : Bl mg)  : FnG IsLst P w K mg base 1 f fd ["field", "b"] S__law_times :=
  fng_of F sc__law_times m__law_times l__law_times fun cdv A outer s c hG hgd hr => ⟨g__law_times, der__law_times bl  hG hgd hr, r__law_times⟩
theorem sc__law_shrunk : FnScope N__law_shrunk ["a", "b", "c", "d"] (defScope s__law_shrunk) := ⟨rfl, rfl, rfl, by decide +kernel, rfl, by decide +kernel, by decide +kernel⟩
theorem der__law_shrunk {P : Program} {w : World} {K : PySem.W.Frag} {mg : Str → Option Value} {base : Heap} {f : Addr} {cdv : Value} {A : Around} {outer : List PySem.Env} {s : Shared} {c : C} (bl : Bl mg)  (hG : IsLst c) (hgd : A.guards = some []) (hr : Room 0 (A.deeper (envOfC "_law_shrunk" (defScope s__law_shrunk) s.heap.objs.size f cdv))) : PSsd (XX P w K mg base N__law_shrunk "_law_shrunk" s__law_shrunk f cdv A outer s c.H0) c (defBody s__law_shrunk) g__law_shrunk := by
  have hN : (XX P w K mg base N__law_shrunk "_law_shrunk" s__law_shrunk f cdv A outer s c.H0).N.Nodup := sc__law_shrunk.nd
  have hc : (XX P w K mg base N__law_shrunk "_law_shrunk" s__law_shrunk f cdv A outer s c.H0).calm = true := rfl
  have hx : ∀ e s1, ¬ (XX P w K mg base N__law_shrunk "_law_shrunk" s__law_shrunk f cdv A outer s c.H0).xe e s1 := fun _ _ z => z
  have hp : PassesOwn (model P w) (XX P w K mg base N__law_shrunk "_law_shrunk" s__law_shrunk f cdv A outer s c.H0).A (XX P w K mg base N__law_shrunk "_law_shrunk" s__law_shrunk f cdv A outer s c.H0).env (XX P w K mg base N__law_shrunk "_law_shrunk" s__law_shrunk f cdv A outer s c.H0).xe := PassesOwn.never
  have hu : (XX P w K mg base N__law_shrunk "_law_shrunk" s__law_shrunk f cdv A outer s c.H0).A.units + 64 < cLine := units_of hr
  have hu5 : (XX P w K mg base N__law_shrunk "_law_shrunk" s__law_shrunk f cdv A outer s c.H0).A.units + 65 < cLine := units65 hr
  exact (ss_cons (s_set 4 hN (v_name 2)) (ss_cons (s_for hp hc (i_seq (PN.v (n_lst (d_cons (v_callB c_abs bl.abs (bb_cons (b_name 0) bb_nil)) (d_cons (v_callB c_abs bl.abs (bb_cons (b_name 1) bb_nil)) d_nil))))) (g_nm 5 hN) (ss_one (s_while hp (t_cmp o_gt (b_name 5) (PV.b v_int)) (ss_one (s_par 4 5 hc hN (m_v (v_name 5) (m_v (v_bin o_mod (b_name 4) (b_name 5)) m_nil))))))) (ss_one (s_ret (v_tup (d_cons (v_bin o_div (b_name 0) (b_name 4)) (d_cons (v_bin o_div (b_name 1) (b_name 4)) (d_cons (v_bin o_div (b_name 2) (b_name 4)) (d_cons (v_if (t_cmp (o_eq hu) (b_name 1) (PV.b v_int)) v_int (v_name 3)) d_nil)))))))))
theorem ok__law_shrunk {P : Program} {w : World} {K : PySem.W.Frag} {mg : Str → Option Value} {base : Heap} {f : Addr} {fd : FuncData} (F : Fun K "_law_shrunk" "_law_shrunk" s__law_shrunk f fd) (bl : Bl mg)  : FnG IsLst P w K mg base 1 f fd ["a", "b", "c", "d"] S__law_shrunk :=
  fng_of F sc__law_shrunk m__law_shrunk l__law_shrunk fun cdv A outer s c hG hgd hr => ⟨g__law_shrunk, der__law_shrunk bl  hG hgd hr, r__law_shrunk⟩
theorem sc__law_is_small : FnScope N__law_is_small ["surd"] (defScope s__law_is_small) := ⟨rfl, rfl, rfl, by decide +kernel, rfl, by decide +kernel, by decide +kernel⟩
theorem der__law_is_small {P : Program} {w : World} {K : PySem.W.Frag} {mg : Str → Option Value} {base : Heap} {f : Addr} {cdv : Value} {A : Around} {outer : List PySem.Env} {s : Shared} {c : C} (bl : Bl mg)  (hG : IsLst c) (hgd : A.guards = some []) (hr : Room 0 (A.deeper (envOfC "_law_is_small" (defScope s__law_is_small) s.heap.objs.size f cdv))) : PSsd (XX P w K mg base N__law_is_small "_law_is_small" s__law_is_small f cdv A outer s c.H0) c (defBody s__law_is_small) g__law_is_small := by
  have hN : (XX P w K mg base N__law_is_small "_law_is_small" s__law_is_small f cdv A outer s c.H0).N.Nodup := sc__law_is_small.nd
  have hc : (XX P w K mg base N__law_is_small "_law_is_small" s__law_is_small f cdv A outer s c.H0).calm = true := rfl
  have hx : ∀ e s1, ¬ (XX P w K mg base N__law_is_small "_law_is_small" s__law_is_small f cdv A outer s c.H0).xe e s1 := fun _ _ z => z
  have hp : PassesOwn (model P w) (XX P w K mg base N__law_is_small "_law_is_small" s__law_is_small f cdv A outer s c.H0).A (XX P w K mg base N__law_is_small "_law_is_small" s__law_is_small f cdv A outer s c.H0).env (XX P w K mg base N__law_is_small "_law_is_small" s__law_is_small f cdv A outer s c.H0).xe := PassesOwn.never
  have hu : (XX P w K mg base N__law_is_small "_law_is_small" s__law_is_small f cdv A outer s c.H0).A.units + 64 < cLine := units_of hr
  have hu5 : (XX P w K mg base N__law_is_small "_law_is_small" s__law_is_small f cdv A outer s c.H0).A.units + 65 < cLine := units65 hr
  exact (ss_one (s_ret (v_cmp o_le (PV.b (v_callB (c_max3 hc) bl.max (bb_cons (PV.b (v_callB c_abs bl.abs (bb_cons (PV.b (v_ix (b_name 0) (PV.b v_int))) bb_nil))) (bb_cons (PV.b (v_callB c_abs bl.abs (bb_cons (PV.b (v_ix (b_name 0) (PV.b v_int))) bb_nil))) (bb_cons (PV.b (v_ix (b_name 0) (PV.b v_int))) bb_nil))))) (PV.b (v_bin o_pow (PV.b v_int) (PV.b v_int))))))
theorem ok__law_is_small {P : Program} {w : World} {K : PySem.W.Frag} {mg : Str → Option Value} {base : Heap} {f : Addr} {fd : FuncData} (F : Fun K "_law_is_small" "_law_is_small" s__law_is_small f fd) (bl : Bl mg)  : FnG IsLst P w K mg base 1 f fd ["surd"] S__law_is_small :=
  fng_of F sc__law_is_small m__law_is_small l__law_is_small fun cdv A outer s c hG hgd hr => ⟨g__law_is_small, der__law_is_small bl  hG hgd hr, r__law_is_small⟩
theorem sc__law_sign : FnScope N__law_sign ["a", "b", "d"] (defScope s__law_sign) := ⟨rfl, rfl, rfl, by decide +kernel, rfl, by decide +kernel, by decide +kernel⟩
theorem der__law_sign {P : Program} {w : World} {K : PySem.W.Frag} {mg : Str → Option Value} {base : Heap} {f : Addr} {cdv : Value} {A : Around} {outer : List PySem.Env} {s : Shared} {c : C} (bl : Bl mg)  (hG : IsLst c) (hgd : A.guards = some []) (hr : Room 0 (A.deeper (envOfC "_law_sign" (defScope s__law_sign) s.heap.objs.size f cdv))) : PSsd (XX P w K mg base N__law_sign "_law_sign" s__law_sign f cdv A outer s c.H0) c (defBody s__law_sign) g__law_sign := by
  have hN : (XX P w K mg base N__law_sign "_law_sign" s__law_sign f cdv A outer s c.H0).N.Nodup := sc__law_sign.nd
  have hc : (XX P w K mg base N__law_sign "_law_sign" s__law_sign f cdv A outer s c.H0).calm = true := rfl
  have hx : ∀ e s1, ¬ (XX P w K mg base N__law_sign "_law_sign" s__law_sign f cdv A outer s c.H0).xe e s1 := fun _ _ z => z
  have hp : PassesOwn (model P w) (XX P w K mg base N__law_sign "_law_sign" s__law_sign f cdv A outer s c.H0).A (XX P w K mg base N__law_sign "_law_sign" s__law_sign f cdv A outer s c.H0).env (XX P w K mg base N__law_sign "_law_sign" s__law_sign f cdv A outer s c.H0).xe := PassesOwn.never
  have hu : (XX P w K mg base N__law_sign "_law_sign" s__law_sign f cdv A outer s c.H0).A.units + 64 < cLine := units_of hr
  have hu5 : (XX P w K mg base N__law_sign "_law_sign" s__law_sign f cdv A outer s c.H0).A.units + 65 < cLine := units65 hr
  exact (ss_cons (s_if (PWd.t (w_and (t_cmp o_ge (b_name 0) (PV.b v_int)) (w_and1 (t_cmp o_ge (b_name 1) (PV.b v_int))))) (ss_one (s_ret (v_if (t_cmp o_gt (PV.b (v_bin o_add (b_name 0) (b_name 1))) (PV.b v_int)) v_int v_int))) ss_nil) (ss_cons (s_if (PWd.t (w_and (t_cmp o_le (b_name 0) (PV.b v_int)) (w_and1 (t_cmp o_le (b_name 1) (PV.b v_int))))) (ss_one (s_ret (v_neg (PV.b v_int)))) ss_nil) (ss_cons (s_if (t_cmp o_gt (b_name 0) (PV.b v_int)) (ss_one (s_ret (v_if (t_cmp o_gt (PV.b (v_bin o_mul (b_name 0) (b_name 0))) (PV.b (v_bin o_mul (PV.b (v_bin o_mul (b_name 1) (b_name 1))) (b_name 2)))) v_int (v_neg (PV.b v_int))))) ss_nil) (ss_one (s_ret (v_if (t_cmp o_gt (PV.b (v_bin o_mul (PV.b (v_bin o_mul (b_name 1) (b_name 1))) (b_name 2))) (PV.b (v_bin o_mul (b_name 0) (b_name 0)))) v_int (v_neg (PV.b v_int))))))))
theorem ok__law_sign {P : Program} {w : World} {K : PySem.W.Frag} {mg : Str → Option Value} {base : Heap} {f : Addr} {fd : FuncData} (F : Fun K "_law_sign" "_law_sign" s__law_sign f fd) (bl : Bl mg)  : FnG IsLst P w K mg base 1 f fd ["a", "b", "d"] S__law_sign :=
  fng_of F sc__law_sign m__law_sign l__law_sign fun cdv A outer s c hG hgd hr => ⟨g__law_sign, der__law_sign bl  hG hgd hr, r__law_sign⟩
theorem sc_lowest : FnScope N_lowest ["a", "b", "c", "d"] (defScope s_lowest) := ⟨rfl, rfl, rfl, by decide +kernel, rfl, by decide +kernel, by decide +kernel⟩
theorem der_lowest {P : Program} {w : World} {K : PySem.W.Frag} {mg : Str → Option Value} {base : Heap} {f : Addr} {cdv : Value} {A : Around} {outer : List PySem.Env} {s : Shared} {c : C} (bl : Bl mg) (C_common : Kn P w K mg base 1 "common" ["one", "other"] S_common) (hG : IsLst c) (hgd : A.guards = some []) (hr : Room 1 (A.deeper (envOfC "lowest" (defScope s_lowest) s.heap.objs.size f cdv))) : PSsd (XX P w K mg base N_lowest "lowest" s_lowest f cdv A outer s c.H0) c (defBody s_lowest) g_lowest := by
  have hN : (XX P w K mg base N_lowest "lowest" s_lowest f cdv A outer s c.H0).N.Nodup := sc_lowest.nd
  have hc : (XX P w K mg base N_lowest "lowest" s_lowest f cdv A outer s c.H0).calm = true := rfl
  have hx : ∀ e s1, ¬ (XX P w K mg base N_lowest "lowest" s_lowest f cdv A outer s c.H0).xe e s1 := fun _ _ z => z
  have hp : PassesOwn (model P w) (XX P w K mg base N_lowest "lowest" s_lowest f cdv A outer s c.H0).A (XX P w K mg base N_lowest "lowest" s_lowest f cdv A outer s c.H0).env (XX P w K mg base N_lowest "lowest" s_lowest f cdv A outer s c.H0).xe := PassesOwn.never
  have hu : (XX P w K mg base N_lowest "lowest" s_lowest f cdv A outer s c.H0).A.units + 64 < cLine := units_of hr
  have hu5 : (XX P w K mg base N_lowest "lowest" s_lowest f cdv A outer s c.H0).A.units + 65 < cLine := units65 hr
  exact (ss_cons (s_if (t_cmp o_lt (b_name 2) (PV.b v_int)) (ss_one (s_par3 0 1 2 hc hN (m_v (v_neg (b_name 0)) (m_v (v_neg (b_name 1)) (m_v (v_neg (b_name 2)) m_nil))))) ss_nil) (ss_cons (s_set 4 hN (v_callX C_common hG hgd hr (a_cons (v_callX C_common hG hgd hr (a_cons (v_callB c_abs bl.abs (bb_cons (b_name 0) bb_nil)) (a_cons (v_callB c_abs bl.abs (bb_cons (b_name 1) bb_nil)) a_nil))) (a_cons (v_name 2) a_nil)))) (ss_one (s_ret (v_tup (d_cons (v_bin o_div (b_name 0) (b_name 4)) (d_cons (v_bin o_div (b_name 1) (b_name 4)) (d_cons (v_bin o_div (b_name 2) (b_name 4)) (d_cons (v_if (t_cmp (o_ne hu) (b_name 1) (PV.b v_int)) (v_name 3) v_int) d_nil)))))))))
theorem ok_lowest {P : Program} {w : World} {K : PySem.W.Frag} {mg : Str → Option Value} {base : Heap} {f : Addr} {fd : FuncData} (F : Fun K "lowest" "lowest" s_lowest f fd) (bl : Bl mg) (C_common : Kn P w K mg base 1 "common" ["one", "other"] S_common) : FnG IsLst P w K mg base 2 f fd ["a", "b", "c", "d"] S_lowest :=
  fng_of F sc_lowest m_lowest l_lowest fun cdv A outer s c hG hgd hr => ⟨g_lowest, der_lowest bl C_common hG hgd hr, r_lowest⟩
theorem sc_whole_part : FnScope N_whole_part ["one"] (defScope s_whole_part) := ⟨rfl, rfl, rfl, by decide +kernel, rfl, by decide +kernel, by decide +kernel⟩
theorem der_whole_part {P : Program} {w : World} {K : PySem.W.Frag} {mg : Str → Option Value} {base : Heap} {f : Addr} {cdv : Value} {A : Around} {outer : List PySem.Env} {s : Shared} {c : C} (bl : Bl mg) (C_whole_root : Kn P w K mg base 1 "whole_root" ["number"] S_whole_root) (hG : IsLst c) (hgd : A.guards = some []) (hr : Room 1 (A.deeper (envOfC "whole_part" (defScope s_whole_part) s.heap.objs.size f cdv))) : PSsd (XX P w K mg base N_whole_part "whole_part" s_whole_part f cdv A outer s c.H0) c (defBody s_whole_part) g_whole_part := by
  have hN : (XX P w K mg base N_whole_part "whole_part" s_whole_part f cdv A outer s c.H0).N.Nodup := sc_whole_part.nd
  have hc : (XX P w K mg base N_whole_part "whole_part" s_whole_part f cdv A outer s c.H0).calm = true := rfl
  have hx : ∀ e s1, ¬ (XX P w K mg base N_whole_part "whole_part" s_whole_part f cdv A outer s c.H0).xe e s1 := fun _ _ z => z
  have hp : PassesOwn (model P w) (XX P w K mg base N_whole_part "whole_part" s_whole_part f cdv A outer s c.H0).A (XX P w K mg base N_whole_part "whole_part" s_whole_part f cdv A outer s c.H0).env (XX P w K mg base N_whole_part "whole_part" s_whole_part f cdv A outer s c.H0).xe := PassesOwn.never
  have hu : (XX P w K mg base N_whole_part "whole_part" s_whole_part f cdv A outer s c.H0).A.units + 64 < cLine := units_of hr
  have hu5 : (XX P w K mg base N_whole_part "whole_part" s_whole_part f cdv A outer s c.H0).A.units + 65 < cLine := units65 hr
  exact (ss_cons (s_asg (v_name 0) (g_sq hc (gs_cons (g_nm 1 hN) (gs_cons (g_nm 2 hN) (gs_cons (g_nm 3 hN) (gs_cons (g_nm 4 hN) gs_nil)))))) (ss_cons (s_set 5 hN (v_callX C_whole_root hG hgd hr (a_cons (v_bin o_mul (PV.b (v_bin o_mul (b_name 2) (b_name 2))) (b_name 4)) a_nil))) (ss_one (s_ret (v_if (t_cmp o_ge (b_name 2) (PV.b v_int)) (v_bin o_div (PV.b (v_bin o_add (b_name 1) (b_name 5))) (b_name 3)) (v_bin o_div (PV.b (v_bin o_sub (PV.b (v_bin o_sub (b_name 1) (b_name 5))) (PV.b v_int))) (b_name 3)))))))
theorem ok_whole_part {P : Program} {w : World} {K : PySem.W.Frag} {mg : Str → Option Value} {base : Heap} {f : Addr} {fd : FuncData} (F : Fun K "whole_part" "whole_part" s_whole_part f fd) (bl : Bl mg) (C_whole_root : Kn P w K mg base 1 "whole_root" ["number"] S_whole_root) : FnG IsLst P w K mg base 2 f fd ["one"] S_whole_part :=
  fng_of F sc_whole_part m_whole_part l_whole_part fun cdv A outer s c hG hgd hr => ⟨g_whole_part, der_whole_part bl C_whole_root hG hgd hr, r_whole_part⟩
theorem sc__law_pick : FnScope N__law_pick ["bag", "some"] (defScope s__law_pick) := ⟨rfl, rfl, rfl, by decide +kernel, rfl, by decide +kernel, by decide +kernel⟩
theorem der__law_pick {P : Program} {w : World} {K : PySem.W.Frag} {mg : Str → Option Value} {base : Heap} {f : Addr} {cdv : Value} {A : Around} {outer : List PySem.Env} {s : Shared} {c : C} (bl : Bl mg) (C__law_draw : Kn P w K mg base 1 "_law_draw" ["bag", "below"] S__law_draw) (hG : IsLst c) (hgd : A.guards = some []) (hr : Room 1 (A.deeper (envOfC "_law_pick" (defScope s__law_pick) s.heap.objs.size f cdv))) : PSsd (XX P w K mg base N__law_pick "_law_pick" s__law_pick f cdv A outer s c.H0) c (defBody s__law_pick) g__law_pick := by
  have hN : (XX P w K mg base N__law_pick "_law_pick" s__law_pick f cdv A outer s c.H0).N.Nodup := sc__law_pick.nd
  have hc : (XX P w K mg base N__law_pick "_law_pick" s__law_pick f cdv A outer s c.H0).calm = true := rfl
  have hx : ∀ e s1, ¬ (XX P w K mg base N__law_pick "_law_pick" s__law_pick f cdv A outer s c.H0).xe e s1 := fun _ _ z => z
  have hp : PassesOwn (model P w) (XX P w K mg base N__law_pick "_law_pick" s__law_pick f cdv A outer s c.H0).A (XX P w K mg base N__law_pick "_law_pick" s__law_pick f cdv A outer s c.H0).env (XX P w K mg base N__law_pick "_law_pick" s__law_pick f cdv A outer s c.H0).xe := PassesOwn.never
  have hu : (XX P w K mg base N__law_pick "_law_pick" s__law_pick f cdv A outer s c.H0).A.units + 64 < cLine := units_of hr
  have hu5 : (XX P w K mg base N__law_pick "_law_pick" s__law_pick f cdv A outer s c.H0).A.units + 65 < cLine := units65 hr
  exact (ss_one (s_ret (v_ix (b_name 1) (PV.b (v_callX C__law_draw hG hgd hr (a_bag 0 (a_cons (v_callB c_len bl.len (bb_cons (b_name 1) bb_nil)) a_nil)))))))
theorem ok__law_pick {P : Program} {w : World} {K : PySem.W.Frag} {mg : Str → Option Value} {base : Heap} {f : Addr} {fd : FuncData} (F : Fun K "_law_pick" "_law_pick" s__law_pick f fd) (bl : Bl mg) (C__law_draw : Kn P w K mg base 1 "_law_draw" ["bag", "below"] S__law_draw) : FnG IsLst P w K mg base 2 f fd ["bag", "some"] S__law_pick :=
  fng_of F sc__law_pick m__law_pick l__law_pick fun cdv A outer s c hG hgd hr => ⟨g__law_pick, der__law_pick bl C__law_draw hG hgd hr, r__law_pick⟩
theorem sc__law_slope : FnScope N__law_slope ["bag", "field", "size"] (defScope s__law_slope) := ⟨rfl, rfl, rfl, by decide +kernel, rfl, by decide +kernel, by decide +kernel⟩
theorem der__law_slope {P : Program} {w : World} {K : PySem.W.Frag} {mg : Str → Option Value} {base : Heap} {f : Addr} {cdv : Value} {A : Around} {outer : List PySem.Env} {s : Shared} {c : C} (bl : Bl mg) (C__law_draw : Kn P w K mg base 1 "_law_draw" ["bag", "below"] S__law_draw) (C__law_shrunk : Kn P w K mg base 1 "_law_shrunk" ["a", "b", "c", "d"] S__law_shrunk) (C__law_times : Kn P w K mg base 1 "_law_times" ["field", "b"] S__law_times) (hG : IsLst c) (hgd : A.guards = some []) (hr : Room 1 (A.deeper (envOfC "_law_slope" (defScope s__law_slope) s.heap.objs.size f cdv))) : PSsd (XX P w K mg base N__law_slope "_law_slope" s__law_slope f cdv A outer s c.H0) c (defBody s__law_slope) g__law_slope := by
  have hN : (XX P w K mg base N__law_slope "_law_slope" s__law_slope f cdv A outer s c.H0).N.Nodup := sc__law_slope.nd
  have hc : (XX P w K mg base N__law_slope "_law_slope" s__law_slope f cdv A outer s c.H0).calm = true := rfl
  have hx : ∀ e s1, ¬ (XX P w K mg base N__law_slope "_law_slope" s__law_slope f cdv A outer s c.H0).xe e s1 := fun _ _ z => z
  have hp : PassesOwn (model P w) (XX P w K mg base N__law_slope "_law_slope" s__law_slope f cdv A outer s c.H0).A (XX P w K mg base N__law_slope "_law_slope" s__law_slope f cdv A outer s c.H0).env (XX P w K mg base N__law_slope "_law_slope" s__law_slope f cdv A outer s c.H0).xe := PassesOwn.never
  have hu : (XX P w K mg base N__law_slope "_law_slope" s__law_slope f cdv A outer s c.H0).A.units + 64 < cLine := units_of hr
  have hu5 : (XX P w K mg base N__law_slope "_law_slope" s__law_slope f cdv A outer s c.H0).A.units + 65 < cLine := units65 hr
  exact (ss_cons (s_set 3 hN (v_bin o_div (b_name 2) (PV.b v_int))) (ss_cons (s_if (t_cmp (o_eq hu) (PV.b (v_callX C__law_draw hG hgd hr (a_bag 0 (a_cons v_int a_nil)))) (PV.b v_int)) (ss_cons (s_set 4 hN (v_bin o_add (PV.b v_int) (PV.b (v_callX C__law_draw hG hgd hr (a_bag 0 (a_cons (v_bin o_sub (b_name 2) (PV.b v_int)) a_nil)))))) (ss_one (s_ret (v_callX C__law_shrunk hG hgd hr (a_cons (v_bin o_add (PV.b v_int) (PV.b (v_callX C__law_draw hG hgd hr (a_bag 0 (a_cons (v_bin o_sub (b_name 4) (PV.b v_int)) a_nil))))) (a_cons v_int (a_cons (v_name 4) (a_cons v_int a_nil)))))))) ss_nil) (ss_cons (s_set 4 hN (v_bin o_add (PV.b v_int) (PV.b (v_callX C__law_draw hG hgd hr (a_bag 0 (a_cons (v_name 3) a_nil)))))) (ss_cons (s_set 5 hN (v_bin o_add (PV.b v_int) (PV.b (v_callX C__law_draw hG hgd hr (a_bag 0 (a_cons (v_callB (c_max2 hc) bl.max (bb_cons (PV.b (v_bin o_div (b_name 3) (PV.b (v_bin o_add (PV.b (v_callX C__law_times hG hgd hr (a_cons (v_name 1) (a_cons v_int a_nil)))) (PV.b v_int))))) (bb_cons (PV.b v_int) bb_nil))) a_nil)))))) (ss_cons (s_set 5 hN (v_if (t_cmp (o_eq hu) (PV.b (v_callX C__law_draw hG hgd hr (a_bag 0 (a_cons v_int a_nil)))) (PV.b v_int)) (v_name 5) (v_neg (b_name 5)))) (ss_one (s_ret (v_callX C__law_shrunk hG hgd hr (a_cons (v_bin o_sub (PV.b (v_callX C__law_draw hG hgd hr (a_bag 0 (a_cons (v_name 4) a_nil)))) (PV.b (v_callX C__law_times hG hgd hr (a_cons (v_name 1) (a_cons (v_name 5) a_nil))))) (a_cons (v_name 5) (a_cons (v_name 4) (a_cons (v_ix (b_name 1) (PV.b v_int)) a_nil))))))))))))
theorem ok__law_slope {P : Program} {w : World} {K : PySem.W.Frag} {mg : Str → Option Value} {base : Heap} {f : Addr} {fd : FuncData} (F : Fun K "_law_slope" "_law_slope" s__law_slope f fd) (bl : Bl mg) (C__law_draw : Kn P w K mg base 1 "_law_draw" ["bag", "below"] S__law_draw) (C__law_shrunk : Kn P w K mg base 1 "_law_shrunk" ["a", "b", "c", "d"] S__law_shrunk) (C__law_times : Kn P w K mg base 1 "_law_times" ["field", "b"] S__law_times) : FnG IsLst P w K mg base 2 f fd ["bag", "field", "size"] S__law_slope :=
  fng_of F sc__law_slope m__law_slope l__law_slope fun cdv A outer s c hG hgd hr => ⟨g__law_slope, der__law_slope bl C__law_draw C__law_shrunk C__law_times hG hgd hr, r__law_slope⟩
theorem sc__law_height : FnScope N__law_height ["bag", "field", "size"] (defScope s__law_height) := ⟨rfl, rfl, rfl, by decide +kernel, rfl, by decide +kernel, by decide +kernel⟩
theorem der__law_height {P : Program} {w : World} {K : PySem.W.Frag} {mg : Str → Option Value} {base : Heap} {f : Addr} {cdv : Value} {A : Around} {outer : List PySem.Env} {s : Shared} {c : C} (bl : Bl mg) (C__law_draw : Kn P w K mg base 1 "_law_draw" ["bag", "below"] S__law_draw) (C__law_shrunk : Kn P w K mg base 1 "_law_shrunk" ["a", "b", "c", "d"] S__law_shrunk) (hG : IsLst c) (hgd : A.guards = some []) (hr : Room 1 (A.deeper (envOfC "_law_height" (defScope s__law_height) s.heap.objs.size f cdv))) : PSsd (XX P w K mg base N__law_height "_law_height" s__law_height f cdv A outer s c.H0) c (defBody s__law_height) g__law_height := by
  have hN : (XX P w K mg base N__law_height "_law_height" s__law_height f cdv A outer s c.H0).N.Nodup := sc__law_height.nd
  have hc : (XX P w K mg base N__law_height "_law_height" s__law_height f cdv A outer s c.H0).calm = true := rfl
  have hx : ∀ e s1, ¬ (XX P w K mg base N__law_height "_law_height" s__law_height f cdv A outer s c.H0).xe e s1 := fun _ _ z => z
  have hp : PassesOwn (model P w) (XX P w K mg base N__law_height "_law_height" s__law_height f cdv A outer s c.H0).A (XX P w K mg base N__law_height "_law_height" s__law_height f cdv A outer s c.H0).env (XX P w K mg base N__law_height "_law_height" s__law_height f cdv A outer s c.H0).xe := PassesOwn.never
  have hu : (XX P w K mg base N__law_height "_law_height" s__law_height f cdv A outer s c.H0).A.units + 64 < cLine := units_of hr
  have hu5 : (XX P w K mg base N__law_height "_law_height" s__law_height f cdv A outer s c.H0).A.units + 65 < cLine := units65 hr
  exact (ss_cons (s_set 3 hN (v_bin o_sub (PV.b (v_callX C__law_draw hG hgd hr (a_bag 0 (a_cons (v_bin o_add (PV.b (v_bin o_mul (PV.b v_int) (b_name 2))) (PV.b v_int)) a_nil)))) (b_name 2))) (ss_cons (s_set 4 hN (v_if (t_cmp (o_eq hu) (PV.b (v_callX C__law_draw hG hgd hr (a_bag 0 (a_cons v_int a_nil)))) (PV.b v_int)) v_int (v_bin o_sub (PV.b (v_callX C__law_draw hG hgd hr (a_bag 0 (a_cons (v_bin o_add (PV.b (v_bin o_mul (PV.b v_int) (b_name 2))) (PV.b v_int)) a_nil)))) (b_name 2)))) (ss_one (s_ret (v_callX C__law_shrunk hG hgd hr (a_cons (v_name 3) (a_cons (v_name 4) (a_cons (v_bin o_add (PV.b v_int) (PV.b (v_callX C__law_draw hG hgd hr (a_bag 0 (a_cons (v_name 2) a_nil))))) (a_cons (v_ix (b_name 1) (PV.b v_int)) a_nil)))))))))
theorem ok__law_height {P : Program} {w : World} {K : PySem.W.Frag} {mg : Str → Option Value} {base : Heap} {f : Addr} {fd : FuncData} (F : Fun K "_law_height" "_law_height" s__law_height f fd) (bl : Bl mg) (C__law_draw : Kn P w K mg base 1 "_law_draw" ["bag", "below"] S__law_draw) (C__law_shrunk : Kn P w K mg base 1 "_law_shrunk" ["a", "b", "c", "d"] S__law_shrunk) : FnG IsLst P w K mg base 2 f fd ["bag", "field", "size"] S__law_height :=
  fng_of F sc__law_height m__law_height l__law_height fun cdv A outer s c hG hgd hr => ⟨g__law_height, der__law_height bl C__law_draw C__law_shrunk hG hgd hr, r__law_height⟩
theorem sc__law_moved : FnScope N__law_moved ["slope", "height", "n", "more"] (defScope s__law_moved) := ⟨rfl, rfl, rfl, by decide +kernel, rfl, by decide +kernel, by decide +kernel⟩
theorem der__law_moved {P : Program} {w : World} {K : PySem.W.Frag} {mg : Str → Option Value} {base : Heap} {f : Addr} {cdv : Value} {A : Around} {outer : List PySem.Env} {s : Shared} {c : C} (bl : Bl mg) (C__law_shrunk : Kn P w K mg base 1 "_law_shrunk" ["a", "b", "c", "d"] S__law_shrunk) (hG : IsLst c) (hgd : A.guards = some []) (hr : Room 1 (A.deeper (envOfC "_law_moved" (defScope s__law_moved) s.heap.objs.size f cdv))) : PSsd (XX P w K mg base N__law_moved "_law_moved" s__law_moved f cdv A outer s c.H0) c (defBody s__law_moved) g__law_moved := by
  have hN : (XX P w K mg base N__law_moved "_law_moved" s__law_moved f cdv A outer s c.H0).N.Nodup := sc__law_moved.nd
  have hc : (XX P w K mg base N__law_moved "_law_moved" s__law_moved f cdv A outer s c.H0).calm = true := rfl
  have hx : ∀ e s1, ¬ (XX P w K mg base N__law_moved "_law_moved" s__law_moved f cdv A outer s c.H0).xe e s1 := fun _ _ z => z
  have hp : PassesOwn (model P w) (XX P w K mg base N__law_moved "_law_moved" s__law_moved f cdv A outer s c.H0).A (XX P w K mg base N__law_moved "_law_moved" s__law_moved f cdv A outer s c.H0).env (XX P w K mg base N__law_moved "_law_moved" s__law_moved f cdv A outer s c.H0).xe := PassesOwn.never
  have hu : (XX P w K mg base N__law_moved "_law_moved" s__law_moved f cdv A outer s c.H0).A.units + 64 < cLine := units_of hr
  have hu5 : (XX P w K mg base N__law_moved "_law_moved" s__law_moved f cdv A outer s c.H0).A.units + 65 < cLine := units65 hr
  exact (ss_cons (s_set 4 hN (v_bin o_mul (PV.b (v_ix (b_name 0) (PV.b v_int))) (PV.b (v_ix (b_name 1) (PV.b v_int))))) (ss_cons (s_set 5 hN (v_bin o_add (PV.b (v_bin o_add (PV.b (v_bin o_mul (PV.b (v_bin o_mul (b_name 2) (PV.b (v_ix (b_name 0) (PV.b v_int))))) (PV.b (v_ix (b_name 1) (PV.b v_int))))) (PV.b (v_bin o_mul (PV.b (v_ix (b_name 1) (PV.b v_int))) (PV.b (v_ix (b_name 0) (PV.b v_int))))))) (PV.b (v_bin o_mul (b_name 3) (b_name 4))))) (ss_one (s_ret (v_callX C__law_shrunk hG hgd hr (a_cons (v_name 5) (a_cons (v_bin o_add (PV.b (v_bin o_mul (PV.b (v_bin o_mul (b_name 2) (PV.b (v_ix (b_name 0) (PV.b v_int))))) (PV.b (v_ix (b_name 1) (PV.b v_int))))) (PV.b (v_bin o_mul (PV.b (v_ix (b_name 1) (PV.b v_int))) (PV.b (v_ix (b_name 0) (PV.b v_int)))))) (a_cons (v_name 4) (a_cons (v_callB (c_max2 hc) bl.max (bb_cons (PV.b (v_ix (b_name 0) (PV.b v_int))) (bb_cons (PV.b (v_ix (b_name 1) (PV.b v_int))) bb_nil))) a_nil)))))))))
theorem ok__law_moved {P : Program} {w : World} {K : PySem.W.Frag} {mg : Str → Option Value} {base : Heap} {f : Addr} {fd : FuncData} (F : Fun K "_law_moved" "_law_moved" s__law_moved f fd) (bl : Bl mg) (C__law_shrunk : Kn P w K mg base 1 "_law_shrunk" ["a", "b", "c", "d"] S__law_shrunk) : FnG IsLst P w K mg base 2 f fd ["slope", "height", "n", "more"] S__law_moved :=
  fng_of F sc__law_moved m__law_moved l__law_moved fun cdv A outer s c hG hgd hr => ⟨g__law_moved, der__law_moved bl C__law_shrunk hG hgd hr, r__law_moved⟩
theorem sc__law_letters : FnScope N__law_letters ["field", "slope", "height", "many"] (defScope s__law_letters) := ⟨rfl, rfl, rfl, by decide +kernel, rfl, by decide +kernel, by decide +kernel⟩
theorem der__law_letters {P : Program} {w : World} {K : PySem.W.Frag} {mg : Str → Option Value} {base : Heap} {f : Addr} {cdv : Value} {A : Around} {outer : List PySem.Env} {s : Shared} {c : C} (bl : Bl mg) (C__law_times : Kn P w K mg base 1 "_law_times" ["field", "b"] S__law_times) (hG : IsLst c) (hgd : A.guards = some []) (hr : Room 1 (A.deeper (envOfC "_law_letters" (defScope s__law_letters) s.heap.objs.size f cdv))) : PSsd (XX P w K mg base N__law_letters "_law_letters" s__law_letters f cdv A outer s c.H0) c (defBody s__law_letters) g__law_letters := by
  have hN : (XX P w K mg base N__law_letters "_law_letters" s__law_letters f cdv A outer s c.H0).N.Nodup := sc__law_letters.nd
  have hc : (XX P w K mg base N__law_letters "_law_letters" s__law_letters f cdv A outer s c.H0).calm = true := rfl
  have hx : ∀ e s1, ¬ (XX P w K mg base N__law_letters "_law_letters" s__law_letters f cdv A outer s c.H0).xe e s1 := fun _ _ z => z
  have hp : PassesOwn (model P w) (XX P w K mg base N__law_letters "_law_letters" s__law_letters f cdv A outer s c.H0).A (XX P w K mg base N__law_letters "_law_letters" s__law_letters f cdv A outer s c.H0).env (XX P w K mg base N__law_letters "_law_letters" s__law_letters f cdv A outer s c.H0).xe := PassesOwn.never
  have hu : (XX P w K mg base N__law_letters "_law_letters" s__law_letters f cdv A outer s c.H0).A.units + 64 < cLine := units_of hr
  have hu5 : (XX P w K mg base N__law_letters "_law_letters" s__law_letters f cdv A outer s c.H0).A.units + 65 < cLine := units65 hr
  exact (ss_cons (s_par3 4 5 6 hc hN (m_v (v_bin o_mul (PV.b (v_ix (b_name 1) (PV.b v_int))) (PV.b (v_ix (b_name 2) (PV.b v_int)))) (m_v (v_bin o_mul (PV.b (v_ix (b_name 2) (PV.b v_int))) (PV.b (v_ix (b_name 1) (PV.b v_int)))) (m_v (v_bin o_mul (PV.b (v_ix (b_name 2) (PV.b v_int))) (PV.b (v_ix (b_name 1) (PV.b v_int)))) m_nil)))) (ss_cons (s_par 7 8 hc hN (m_v (v_bin o_mul (PV.b (v_ix (b_name 1) (PV.b v_int))) (PV.b (v_ix (b_name 2) (PV.b v_int)))) (m_v (v_bin o_mul (PV.b (v_ix (b_name 1) (PV.b v_int))) (PV.b (v_ix (b_name 2) (PV.b v_int)))) m_nil))) (ss_cons (s_par 9 10 hc hN (m_n (n_lst d_nil) (m_v (v_bin o_div (PV.b (v_bin o_add (b_name 5) (PV.b (v_callX C__law_times hG hgd hr (a_cons (v_name 0) (a_cons (v_name 6) a_nil)))))) (b_name 4)) m_nil))) (ss_cons (s_for hp hc (i_rng1 bl.range (b_name 3)) (g_nm 11 hN) (ss_cons (s_par 5 6 hc hN (m_v (v_bin o_add (b_name 5) (b_name 7)) (m_v (v_bin o_add (b_name 6) (b_name 8)) m_nil))) (ss_cons (s_set 12 hN (v_bin o_div (PV.b (v_bin o_add (b_name 5) (PV.b (v_callX C__law_times hG hgd hr (a_cons (v_name 0) (a_cons (v_name 6) a_nil)))))) (b_name 4))) (ss_cons (s_app 9 (v_bin o_sub (b_name 12) (b_name 10))) (ss_one (s_set 10 hN (v_name 12))))))) (ss_one (s_retO 9))))))
theorem ok__law_letters {P : Program} {w : World} {K : PySem.W.Frag} {mg : Str → Option Value} {base : Heap} {f : Addr} {fd : FuncData} (F : Fun K "_law_letters" "_law_letters" s__law_letters f fd) (bl : Bl mg) (C__law_times : Kn P w K mg base 1 "_law_times" ["field", "b"] S__law_times) : FnO IsLst P w K mg base 2 f fd ["field", "slope", "height", "many"] S__law_letters :=
  fno_of F sc__law_letters m__law_letters l__law_letters fun cdv A outer s c hG hgd hr => ⟨g__law_letters, der__law_letters bl C__law_times hG hgd hr, r__law_letters⟩
theorem sc__law_is_less : FnScope N__law_is_less ["one", "other", "d"] (defScope s__law_is_less) := ⟨rfl, rfl, rfl, by decide +kernel, rfl, by decide +kernel, by decide +kernel⟩
theorem der__law_is_less {P : Program} {w : World} {K : PySem.W.Frag} {mg : Str → Option Value} {base : Heap} {f : Addr} {cdv : Value} {A : Around} {outer : List PySem.Env} {s : Shared} {c : C} (bl : Bl mg) (C__law_sign : Kn P w K mg base 1 "_law_sign" ["a", "b", "d"] S__law_sign) (hG : IsLst c) (hgd : A.guards = some []) (hr : Room 1 (A.deeper (envOfC "_law_is_less" (defScope s__law_is_less) s.heap.objs.size f cdv))) : PSsd (XX P w K mg base N__law_is_less "_law_is_less" s__law_is_less f cdv A outer s c.H0) c (defBody s__law_is_less) g__law_is_less := by
  have hN : (XX P w K mg base N__law_is_less "_law_is_less" s__law_is_less f cdv A outer s c.H0).N.Nodup := sc__law_is_less.nd
  have hc : (XX P w K mg base N__law_is_less "_law_is_less" s__law_is_less f cdv A outer s c.H0).calm = true := rfl
  have hx : ∀ e s1, ¬ (XX P w K mg base N__law_is_less "_law_is_less" s__law_is_less f cdv A outer s c.H0).xe e s1 := fun _ _ z => z
  have hp : PassesOwn (model P w) (XX P w K mg base N__law_is_less "_law_is_less" s__law_is_less f cdv A outer s c.H0).A (XX P w K mg base N__law_is_less "_law_is_less" s__law_is_less f cdv A outer s c.H0).env (XX P w K mg base N__law_is_less "_law_is_less" s__law_is_less f cdv A outer s c.H0).xe := PassesOwn.never
  have hu : (XX P w K mg base N__law_is_less "_law_is_less" s__law_is_less f cdv A outer s c.H0).A.units + 64 < cLine := units_of hr
  have hu5 : (XX P w K mg base N__law_is_less "_law_is_less" s__law_is_less f cdv A outer s c.H0).A.units + 65 < cLine := units65 hr
  exact (ss_cons (s_set 3 hN (v_bin o_sub (PV.b (v_bin o_mul (PV.b (v_ix (b_name 0) (PV.b v_int))) (PV.b (v_ix (b_name 1) (PV.b v_int))))) (PV.b (v_bin o_mul (PV.b (v_ix (b_name 1) (PV.b v_int))) (PV.b (v_ix (b_name 0) (PV.b v_int))))))) (ss_one (s_ret (v_cmp o_lt (PV.b (v_callX C__law_sign hG hgd hr (a_cons (v_name 3) (a_cons (v_bin o_sub (PV.b (v_bin o_mul (PV.b (v_ix (b_name 0) (PV.b v_int))) (PV.b (v_ix (b_name 1) (PV.b v_int))))) (PV.b (v_bin o_mul (PV.b (v_ix (b_name 1) (PV.b v_int))) (PV.b (v_ix (b_name 0) (PV.b v_int)))))) (a_cons (v_name 2) a_nil))))) (PV.b v_int)))))
theorem ok__law_is_less {P : Program} {w : World} {K : PySem.W.Frag} {mg : Str → Option Value} {base : Heap} {f : Addr} {fd : FuncData} (F : Fun K "_law_is_less" "_law_is_less" s__law_is_less f fd) (bl : Bl mg) (C__law_sign : Kn P w K mg base 1 "_law_sign" ["a", "b", "d"] S__law_sign) : FnG IsLst P w K mg base 2 f fd ["one", "other", "d"] S__law_is_less :=
  fng_of F sc__law_is_less m__law_is_less l__law_is_less fun cdv A outer s c hG hgd hr => ⟨g__law_is_less, der__law_is_less bl C__law_sign hG hgd hr, r__law_is_less⟩
theorem sc__law_bounds : FnScope N__law_bounds ["field", "slope", "word"] (defScope s__law_bounds) := ⟨rfl, rfl, rfl, by decide +kernel, rfl, by decide +kernel, by decide +kernel⟩
theorem der__law_bounds {P : Program} {w : World} {K : PySem.W.Frag} {mg : Str → Option Value} {base : Heap} {f : Addr} {cdv : Value} {A : Around} {outer : List PySem.Env} {s : Shared} {c : C} (bl : Bl mg) (C__law_sign : Kn P w K mg base 1 "_law_sign" ["a", "b", "d"] S__law_sign) (C__law_shrunk : Kn P w K mg base 1 "_law_shrunk" ["a", "b", "c", "d"] S__law_shrunk) (hG : IsLst c) (hgd : A.guards = some []) (hr : Room 1 (A.deeper (envOfC "_law_bounds" (defScope s__law_bounds) s.heap.objs.size f cdv))) : PSsd (XX P w K mg base N__law_bounds "_law_bounds" s__law_bounds f cdv A outer s c.H0) c (defBody s__law_bounds) g__law_bounds := by
  have hN : (XX P w K mg base N__law_bounds "_law_bounds" s__law_bounds f cdv A outer s c.H0).N.Nodup := sc__law_bounds.nd
  have hc : (XX P w K mg base N__law_bounds "_law_bounds" s__law_bounds f cdv A outer s c.H0).calm = true := rfl
  have hx : ∀ e s1, ¬ (XX P w K mg base N__law_bounds "_law_bounds" s__law_bounds f cdv A outer s c.H0).xe e s1 := fun _ _ z => z
  have hp : PassesOwn (model P w) (XX P w K mg base N__law_bounds "_law_bounds" s__law_bounds f cdv A outer s c.H0).A (XX P w K mg base N__law_bounds "_law_bounds" s__law_bounds f cdv A outer s c.H0).env (XX P w K mg base N__law_bounds "_law_bounds" s__law_bounds f cdv A outer s c.H0).xe := PassesOwn.never
  have hu : (XX P w K mg base N__law_bounds "_law_bounds" s__law_bounds f cdv A outer s c.H0).A.units + 64 < cLine := units_of hr
  have hu5 : (XX P w K mg base N__law_bounds "_law_bounds" s__law_bounds f cdv A outer s c.H0).A.units + 65 < cLine := units65 hr
  exact (ss_cons (s_asg (v_tup (d_cons (v_ix (b_name 1) (PV.b v_int)) (d_cons (v_ix (b_name 1) (PV.b v_int)) (d_cons (v_ix (b_name 1) (PV.b v_int)) (d_cons (v_ix (b_name 0) (PV.b v_int)) d_nil))))) (g_sq hc (gs_cons (g_nm 3 hN) (gs_cons (g_nm 4 hN) (gs_cons (g_nm 5 hN) (gs_cons (g_nm 6 hN) gs_nil)))))) (ss_cons (s_par3 7 8 9 hc hN (m_v (v_tup (d_cons v_int (d_cons v_int d_nil))) (m_v (v_tup (d_cons (v_name 5) (d_cons v_int d_nil))) (m_v v_int m_nil)))) (ss_cons (s_for hp hc (i_enumT bl.enumerate (v_name 2)) (g_sq hc (gs_cons (g_nm 10 hN) (gs_cons (g_nm 11 hN) gs_nil))) (ss_cons (s_set 9 hN (v_bin o_add (b_name 9) (b_name 11))) (ss_cons (s_set 12 hN (v_tup (d_cons (v_bin o_sub (PV.b (v_bin o_mul (b_name 9) (b_name 5))) (PV.b (v_bin o_mul (PV.b (v_bin o_add (b_name 10) (PV.b v_int))) (b_name 3)))) (d_cons (v_bin o_mul (PV.b (v_neg (PV.b (v_bin o_add (b_name 10) (PV.b v_int))))) (b_name 4)) d_nil)))) (ss_cons (s_if (t_cmp o_gt (PV.b (v_callX C__law_sign hG hgd hr (a_cons (v_bin o_sub (PV.b (v_ix (b_name 12) (PV.b v_int))) (PV.b (v_ix (b_name 7) (PV.b v_int)))) (a_cons (v_bin o_sub (PV.b (v_ix (b_name 12) (PV.b v_int))) (PV.b (v_ix (b_name 7) (PV.b v_int)))) (a_cons (v_name 6) a_nil))))) (PV.b v_int)) (ss_one (s_set 7 hN (v_name 12))) ss_nil) (ss_one (s_if (t_cmp o_lt (PV.b (v_callX C__law_sign hG hgd hr (a_cons (v_bin o_sub (PV.b (v_bin o_add (PV.b (v_ix (b_name 12) (PV.b v_int))) (b_name 5))) (PV.b (v_ix (b_name 8) (PV.b v_int)))) (a_cons (v_bin o_sub (PV.b (v_ix (b_name 12) (PV.b v_int))) (PV.b (v_ix (b_name 8) (PV.b v_int)))) (a_cons (v_name 6) a_nil))))) (PV.b v_int)) (ss_one (s_set 8 hN (v_tup (d_cons (v_bin o_add (PV.b (v_ix (b_name 12) (PV.b v_int))) (b_name 5)) (d_cons (v_ix (b_name 12) (PV.b v_int)) d_nil))))) ss_nil)))))) (ss_cons (s_if (t_cmp o_le (PV.b (v_callX C__law_sign hG hgd hr (a_cons (v_bin o_sub (PV.b (v_ix (b_name 8) (PV.b v_int))) (PV.b (v_ix (b_name 7) (PV.b v_int)))) (a_cons (v_bin o_sub (PV.b (v_ix (b_name 8) (PV.b v_int))) (PV.b (v_ix (b_name 7) (PV.b v_int)))) (a_cons (v_name 6) a_nil))))) (PV.b v_int)) (ss_one (s_ret v_non)) ss_nil) (ss_one (s_ret (PN.v (n_lst (d_cons (v_callX C__law_shrunk hG hgd hr (a_cons (v_ix (b_name 7) (PV.b v_int)) (a_cons (v_ix (b_name 7) (PV.b v_int)) (a_cons (v_name 5) (a_cons (v_name 6) a_nil))))) (d_cons (v_callX C__law_shrunk hG hgd hr (a_cons (v_ix (b_name 8) (PV.b v_int)) (a_cons (v_ix (b_name 8) (PV.b v_int)) (a_cons (v_name 5) (a_cons (v_name 6) a_nil))))) d_nil))))))))))
theorem ok__law_bounds {P : Program} {w : World} {K : PySem.W.Frag} {mg : Str → Option Value} {base : Heap} {f : Addr} {fd : FuncData} (F : Fun K "_law_bounds" "_law_bounds" s__law_bounds f fd) (bl : Bl mg) (C__law_sign : Kn P w K mg base 1 "_law_sign" ["a", "b", "d"] S__law_sign) (C__law_shrunk : Kn P w K mg base 1 "_law_shrunk" ["a", "b", "c", "d"] S__law_shrunk) : FnG IsLst P w K mg base 2 f fd ["field", "slope", "word"] S__law_bounds :=
  fng_of F sc__law_bounds m__law_bounds l__law_bounds fun cdv A outer s c hG hgd hr => ⟨g__law_bounds, der__law_bounds bl C__law_sign C__law_shrunk hG hgd hr, r__law_bounds⟩
theorem sc_surd_sum : FnScope N_surd_sum ["one", "other"] (defScope s_surd_sum) := ⟨rfl, rfl, rfl, by decide +kernel, rfl, by decide +kernel, by decide +kernel⟩
theorem der_surd_sum {P : Program} {w : World} {K : PySem.W.Frag} {mg : Str → Option Value} {base : Heap} {f : Addr} {cdv : Value} {A : Around} {outer : List PySem.Env} {s : Shared} {c : C} (bl : Bl mg) (C_lowest : Kn P w K mg base 2 "lowest" ["a", "b", "c", "d"] S_lowest) (hG : IsLst c) (hgd : A.guards = some []) (hr : Room 2 (A.deeper (envOfC "surd_sum" (defScope s_surd_sum) s.heap.objs.size f cdv))) : PSsd (XX P w K mg base N_surd_sum "surd_sum" s_surd_sum f cdv A outer s c.H0) c (defBody s_surd_sum) g_surd_sum := by
  have hN : (XX P w K mg base N_surd_sum "surd_sum" s_surd_sum f cdv A outer s c.H0).N.Nodup := sc_surd_sum.nd
  have hc : (XX P w K mg base N_surd_sum "surd_sum" s_surd_sum f cdv A outer s c.H0).calm = true := rfl
  have hx : ∀ e s1, ¬ (XX P w K mg base N_surd_sum "surd_sum" s_surd_sum f cdv A outer s c.H0).xe e s1 := fun _ _ z => z
  have hp : PassesOwn (model P w) (XX P w K mg base N_surd_sum "surd_sum" s_surd_sum f cdv A outer s c.H0).A (XX P w K mg base N_surd_sum "surd_sum" s_surd_sum f cdv A outer s c.H0).env (XX P w K mg base N_surd_sum "surd_sum" s_surd_sum f cdv A outer s c.H0).xe := PassesOwn.never
  have hu : (XX P w K mg base N_surd_sum "surd_sum" s_surd_sum f cdv A outer s c.H0).A.units + 64 < cLine := units_of hr
  have hu5 : (XX P w K mg base N_surd_sum "surd_sum" s_surd_sum f cdv A outer s c.H0).A.units + 65 < cLine := units65 hr
  exact (ss_cons (s_set 2 hN (v_bin o_add (PV.b (v_bin o_mul (PV.b (v_ix (b_name 0) (PV.b v_int))) (PV.b (v_ix (b_name 1) (PV.b v_int))))) (PV.b (v_bin o_mul (PV.b (v_ix (b_name 1) (PV.b v_int))) (PV.b (v_ix (b_name 0) (PV.b v_int))))))) (ss_one (s_ret (v_callX C_lowest hG hgd hr (a_cons (v_name 2) (a_cons (v_bin o_add (PV.b (v_bin o_mul (PV.b (v_ix (b_name 0) (PV.b v_int))) (PV.b (v_ix (b_name 1) (PV.b v_int))))) (PV.b (v_bin o_mul (PV.b (v_ix (b_name 1) (PV.b v_int))) (PV.b (v_ix (b_name 0) (PV.b v_int)))))) (a_cons (v_bin o_mul (PV.b (v_ix (b_name 0) (PV.b v_int))) (PV.b (v_ix (b_name 1) (PV.b v_int)))) (a_cons (v_callB (c_max2 hc) bl.max (bb_cons (PV.b (v_ix (b_name 0) (PV.b v_int))) (bb_cons (PV.b (v_ix (b_name 1) (PV.b v_int))) bb_nil))) a_nil))))))))
theorem ok_surd_sum {P : Program} {w : World} {K : PySem.W.Frag} {mg : Str → Option Value} {base : Heap} {f : Addr} {fd : FuncData} (F : Fun K "surd_sum" "surd_sum" s_surd_sum f fd) (bl : Bl mg) (C_lowest : Kn P w K mg base 2 "lowest" ["a", "b", "c", "d"] S_lowest) : FnG IsLst P w K mg base 3 f fd ["one", "other"] S_surd_sum :=
  fng_of F sc_surd_sum m_surd_sum l_surd_sum fun cdv A outer s c hG hgd hr => ⟨g_surd_sum, der_surd_sum bl C_lowest hG hgd hr, r_surd_sum⟩
theorem sc_surd_times : FnScope N_surd_times ["one", "other"] (defScope s_surd_times) := ⟨rfl, rfl, rfl, by decide +kernel, rfl, by decide +kernel, by decide +kernel⟩
theorem der_surd_times {P : Program} {w : World} {K : PySem.W.Frag} {mg : Str → Option Value} {base : Heap} {f : Addr} {cdv : Value} {A : Around} {outer : List PySem.Env} {s : Shared} {c : C} (bl : Bl mg) (C_lowest : Kn P w K mg base 2 "lowest" ["a", "b", "c", "d"] S_lowest) (hG : IsLst c) (hgd : A.guards = some []) (hr : Room 2 (A.deeper (envOfC "surd_times" (defScope s_surd_times) s.heap.objs.size f cdv))) : PSsd (XX P w K mg base N_surd_times "surd_times" s_surd_times f cdv A outer s c.H0) c (defBody s_surd_times) g_surd_times := by
  have hN : (XX P w K mg base N_surd_times "surd_times" s_surd_times f cdv A outer s c.H0).N.Nodup := sc_surd_times.nd
  have hc : (XX P w K mg base N_surd_times "surd_times" s_surd_times f cdv A outer s c.H0).calm = true := rfl
  have hx : ∀ e s1, ¬ (XX P w K mg base N_surd_times "surd_times" s_surd_times f cdv A outer s c.H0).xe e s1 := fun _ _ z => z
  have hp : PassesOwn (model P w) (XX P w K mg base N_surd_times "surd_times" s_surd_times f cdv A outer s c.H0).A (XX P w K mg base N_surd_times "surd_times" s_surd_times f cdv A outer s c.H0).env (XX P w K mg base N_surd_times "surd_times" s_surd_times f cdv A outer s c.H0).xe := PassesOwn.never
  have hu : (XX P w K mg base N_surd_times "surd_times" s_surd_times f cdv A outer s c.H0).A.units + 64 < cLine := units_of hr
  have hu5 : (XX P w K mg base N_surd_times "surd_times" s_surd_times f cdv A outer s c.H0).A.units + 65 < cLine := units65 hr
  exact (ss_cons (s_set 2 hN (v_callB (c_max2 hc) bl.max (bb_cons (PV.b (v_ix (b_name 0) (PV.b v_int))) (bb_cons (PV.b (v_ix (b_name 1) (PV.b v_int))) bb_nil)))) (ss_cons (s_set 3 hN (v_bin o_add (PV.b (v_bin o_mul (PV.b (v_ix (b_name 0) (PV.b v_int))) (PV.b (v_ix (b_name 1) (PV.b v_int))))) (PV.b (v_bin o_mul (PV.b (v_bin o_mul (PV.b (v_ix (b_name 0) (PV.b v_int))) (PV.b (v_ix (b_name 1) (PV.b v_int))))) (b_name 2))))) (ss_one (s_ret (v_callX C_lowest hG hgd hr (a_cons (v_name 3) (a_cons (v_bin o_add (PV.b (v_bin o_mul (PV.b (v_ix (b_name 0) (PV.b v_int))) (PV.b (v_ix (b_name 1) (PV.b v_int))))) (PV.b (v_bin o_mul (PV.b (v_ix (b_name 0) (PV.b v_int))) (PV.b (v_ix (b_name 1) (PV.b v_int)))))) (a_cons (v_bin o_mul (PV.b (v_ix (b_name 0) (PV.b v_int))) (PV.b (v_ix (b_name 1) (PV.b v_int)))) (a_cons (v_name 2) a_nil)))))))))
theorem ok_surd_times {P : Program} {w : World} {K : PySem.W.Frag} {mg : Str → Option Value} {base : Heap} {f : Addr} {fd : FuncData} (F : Fun K "surd_times" "surd_times" s_surd_times f fd) (bl : Bl mg) (C_lowest : Kn P w K mg base 2 "lowest" ["a", "b", "c", "d"] S_lowest) : FnG IsLst P w K mg base 3 f fd ["one", "other"] S_surd_times :=
  fng_of F sc_surd_times m_surd_times l_surd_times fun cdv A outer s c hG hgd hr => ⟨g_surd_times, der_surd_times bl C_lowest hG hgd hr, r_surd_times⟩
theorem sc_whole_at : FnScope N_whole_at ["slope", "height", "n"] (defScope s_whole_at) := ⟨rfl, rfl, rfl, by decide +kernel, rfl, by decide +kernel, by decide +kernel⟩
theorem der_whole_at {P : Program} {w : World} {K : PySem.W.Frag} {mg : Str → Option Value} {base : Heap} {f : Addr} {cdv : Value} {A : Around} {outer : List PySem.Env} {s : Shared} {c : C} (bl : Bl mg) (C_whole_part : Kn P w K mg base 2 "whole_part" ["one"] S_whole_part) (hG : IsLst c) (hgd : A.guards = some []) (hr : Room 2 (A.deeper (envOfC "whole_at" (defScope s_whole_at) s.heap.objs.size f cdv))) : PSsd (XX P w K mg base N_whole_at "whole_at" s_whole_at f cdv A outer s c.H0) c (defBody s_whole_at) g_whole_at := by
  have hN : (XX P w K mg base N_whole_at "whole_at" s_whole_at f cdv A outer s c.H0).N.Nodup := sc_whole_at.nd
  have hc : (XX P w K mg base N_whole_at "whole_at" s_whole_at f cdv A outer s c.H0).calm = true := rfl
  have hx : ∀ e s1, ¬ (XX P w K mg base N_whole_at "whole_at" s_whole_at f cdv A outer s c.H0).xe e s1 := fun _ _ z => z
  have hp : PassesOwn (model P w) (XX P w K mg base N_whole_at "whole_at" s_whole_at f cdv A outer s c.H0).A (XX P w K mg base N_whole_at "whole_at" s_whole_at f cdv A outer s c.H0).env (XX P w K mg base N_whole_at "whole_at" s_whole_at f cdv A outer s c.H0).xe := PassesOwn.never
  have hu : (XX P w K mg base N_whole_at "whole_at" s_whole_at f cdv A outer s c.H0).A.units + 64 < cLine := units_of hr
  have hu5 : (XX P w K mg base N_whole_at "whole_at" s_whole_at f cdv A outer s c.H0).A.units + 65 < cLine := units65 hr
  exact (ss_cons (s_set 3 hN (v_bin o_add (PV.b (v_bin o_mul (PV.b (v_bin o_mul (b_name 2) (PV.b (v_ix (b_name 0) (PV.b v_int))))) (PV.b (v_ix (b_name 1) (PV.b v_int))))) (PV.b (v_bin o_mul (PV.b (v_ix (b_name 1) (PV.b v_int))) (PV.b (v_ix (b_name 0) (PV.b v_int))))))) (ss_cons (s_set 4 hN (v_bin o_add (PV.b (v_bin o_mul (PV.b (v_bin o_mul (b_name 2) (PV.b (v_ix (b_name 0) (PV.b v_int))))) (PV.b (v_ix (b_name 1) (PV.b v_int))))) (PV.b (v_bin o_mul (PV.b (v_ix (b_name 1) (PV.b v_int))) (PV.b (v_ix (b_name 0) (PV.b v_int))))))) (ss_one (s_ret (v_callX C_whole_part hG hgd hr (a_cons (v_tup (d_cons (v_name 3) (d_cons (v_name 4) (d_cons (v_bin o_mul (PV.b (v_ix (b_name 0) (PV.b v_int))) (PV.b (v_ix (b_name 1) (PV.b v_int)))) (d_cons (v_callB (c_max2 hc) bl.max (bb_cons (PV.b (v_ix (b_name 0) (PV.b v_int))) (bb_cons (PV.b (v_ix (b_name 1) (PV.b v_int))) bb_nil))) d_nil))))) a_nil))))))
theorem ok_whole_at {P : Program} {w : World} {K : PySem.W.Frag} {mg : Str → Option Value} {base : Heap} {f : Addr} {fd : FuncData} (F : Fun K "whole_at" "whole_at" s_whole_at f fd) (bl : Bl mg) (C_whole_part : Kn P w K mg base 2 "whole_part" ["one"] S_whole_part) : FnG IsLst P w K mg base 3 f fd ["slope", "height", "n"] S_whole_at :=
  fng_of F sc_whole_at m_whole_at l_whole_at fun cdv A outer s c hG hgd hr => ⟨g_whole_at, der_whole_at bl C_whole_part hG hgd hr, r_whole_at⟩
theorem sc__law_field : FnScope N__law_field ["bag"] (defScope s__law_field) := ⟨rfl, rfl, rfl, by decide +kernel, rfl, by decide +kernel, by decide +kernel⟩
theorem der__law_field {P : Program} {w : World} {K : PySem.W.Frag} {mg : Str → Option Value} {base : Heap} {f : Addr} {cdv : Value} {A : Around} {outer : List PySem.Env} {s : Shared} {c : C} (bl : Bl mg) (C__law_draw : Kn P w K mg base 2 "_law_draw" ["bag", "below"] S__law_draw) (C__law_pick : Kn P w K mg base 2 "_law_pick" ["bag", "some"] S__law_pick) (C__law_whole_root : Kn P w K mg base 2 "_law_whole_root" ["n"] S__law_whole_root) (hG : IsLst c) (hgd : A.guards = some []) (hr : Room 2 (A.deeper (envOfC "_law_field" (defScope s__law_field) s.heap.objs.size f cdv))) : PSsd (XX P w K mg base N__law_field "_law_field" s__law_field f cdv A outer s c.H0) c (defBody s__law_field) g__law_field := by
  have hN : (XX P w K mg base N__law_field "_law_field" s__law_field f cdv A outer s c.H0).N.Nodup := sc__law_field.nd
  have hc : (XX P w K mg base N__law_field "_law_field" s__law_field f cdv A outer s c.H0).calm = true := rfl
  have hx : ∀ e s1, ¬ (XX P w K mg base N__law_field "_law_field" s__law_field f cdv A outer s c.H0).xe e s1 := fun _ _ z => z
  have hp : PassesOwn (model P w) (XX P w K mg base N__law_field "_law_field" s__law_field f cdv A outer s c.H0).A (XX P w K mg base N__law_field "_law_field" s__law_field f cdv A outer s c.H0).env (XX P w K mg base N__law_field "_law_field" s__law_field f cdv A outer s c.H0).xe := PassesOwn.never
  have hu : (XX P w K mg base N__law_field "_law_field" s__law_field f cdv A outer s c.H0).A.units + 64 < cLine := units_of hr
  have hu5 : (XX P w K mg base N__law_field "_law_field" s__law_field f cdv A outer s c.H0).A.units + 65 < cLine := units65 hr
  exact (ss_cons (s_set 1 hN (v_bin o_add (PV.b v_int) (PV.b (v_callX C__law_draw hG hgd hr (a_bag 0 (a_cons (v_callX C__law_pick hG hgd hr (a_bag 0 (a_cons (PN.v (n_lst (d_cons v_int (d_cons v_int (d_cons v_int (d_cons v_int (d_cons v_int d_nil))))))) a_nil))) a_nil)))))) (ss_cons (s_for hp hc (i_rng2 bl.range (PV.b v_int) (PV.b v_int)) (g_nm 2 hN) (ss_cons (s_if (t_cmp o_gt (PV.b (v_bin o_mul (b_name 2) (b_name 2))) (b_name 1)) (ss_one s_break) ss_nil) (ss_one (s_while hp (t_cmp (o_eq hu) (PV.b (v_bin o_mod (b_name 1) (PV.b (v_bin o_mul (b_name 2) (b_name 2))))) (PV.b v_int)) (ss_one (s_set 1 hN (v_bin o_div (b_name 1) (PV.b (v_bin o_mul (b_name 2) (b_name 2)))))))))) (ss_cons (s_if (t_cmp (o_eq hu) (b_name 1) (PV.b v_int)) (ss_one (s_set 1 hN v_int)) ss_nil) (ss_one (s_ret (v_tup (d_cons (v_name 1) (d_cons (v_callX C__law_whole_root hG hgd hr (a_cons (v_bin o_shlW (b_name 1) (PV.b v_int)) a_nil)) d_nil))))))))
theorem ok__law_field {P : Program} {w : World} {K : PySem.W.Frag} {mg : Str → Option Value} {base : Heap} {f : Addr} {fd : FuncData} (F : Fun K "_law_field" "_law_field" s__law_field f fd) (bl : Bl mg) (C__law_draw : Kn P w K mg base 2 "_law_draw" ["bag", "below"] S__law_draw) (C__law_pick : Kn P w K mg base 2 "_law_pick" ["bag", "some"] S__law_pick) (C__law_whole_root : Kn P w K mg base 2 "_law_whole_root" ["n"] S__law_whole_root) : FnG IsLst P w K mg base 3 f fd ["bag"] S__law_field :=
  fng_of F sc__law_field m__law_field l__law_field fun cdv A outer s c hG hgd hr => ⟨g__law_field, der__law_field bl C__law_draw C__law_pick C__law_whole_root hG hgd hr, r__law_field⟩
theorem sc__law_near : FnScope N__law_near ["bag", "slope", "height"] (defScope s__law_near) := ⟨rfl, rfl, rfl, by decide +kernel, rfl, by decide +kernel, by decide +kernel⟩
theorem der__law_near {P : Program} {w : World} {K : PySem.W.Frag} {mg : Str → Option Value} {base : Heap} {f : Addr} {cdv : Value} {A : Around} {outer : List PySem.Env} {s : Shared} {c : C} (bl : Bl mg) (C__law_pick : Kn P w K mg base 2 "_law_pick" ["bag", "some"] S__law_pick) (C__law_draw : Kn P w K mg base 2 "_law_draw" ["bag", "below"] S__law_draw) (C__law_moved : Kn P w K mg base 2 "_law_moved" ["slope", "height", "n", "more"] S__law_moved) (C__law_is_small : Kn P w K mg base 2 "_law_is_small" ["surd"] S__law_is_small) (hG : IsLst c) (hgd : A.guards = some []) (hr : Room 2 (A.deeper (envOfC "_law_near" (defScope s__law_near) s.heap.objs.size f cdv))) : PSsd (XX P w K mg base N__law_near "_law_near" s__law_near f cdv A outer s c.H0) c (defBody s__law_near) g__law_near := by
  have hN : (XX P w K mg base N__law_near "_law_near" s__law_near f cdv A outer s c.H0).N.Nodup := sc__law_near.nd
  have hc : (XX P w K mg base N__law_near "_law_near" s__law_near f cdv A outer s c.H0).calm = true := rfl
  have hx : ∀ e s1, ¬ (XX P w K mg base N__law_near "_law_near" s__law_near f cdv A outer s c.H0).xe e s1 := fun _ _ z => z
  have hp : PassesOwn (model P w) (XX P w K mg base N__law_near "_law_near" s__law_near f cdv A outer s c.H0).A (XX P w K mg base N__law_near "_law_near" s__law_near f cdv A outer s c.H0).env (XX P w K mg base N__law_near "_law_near" s__law_near f cdv A outer s c.H0).xe := PassesOwn.never
  have hu : (XX P w K mg base N__law_near "_law_near" s__law_near f cdv A outer s c.H0).A.units + 64 < cLine := units_of hr
  have hu5 : (XX P w K mg base N__law_near "_law_near" s__law_near f cdv A outer s c.H0).A.units + 65 < cLine := units65 hr
  exact (ss_cons (s_set 3 hN (v_callX C__law_pick hG hgd hr (a_bag 0 (a_cons (PN.v (n_lst (d_cons v_int (d_cons v_int (d_cons v_int (d_cons (v_callX C__law_draw hG hgd hr (a_bag 0 (a_cons v_int a_nil))) d_nil)))))) a_nil)))) (ss_cons (s_set 4 hN (v_callX C__law_moved hG hgd hr (a_cons (v_name 1) (a_cons (v_name 2) (a_cons (v_if (t_cmp (o_eq hu) (PV.b (v_callX C__law_draw hG hgd hr (a_bag 0 (a_cons v_int a_nil)))) (PV.b v_int)) (v_name 3) (v_neg (b_name 3))) (a_cons (v_bin o_sub (PV.b (v_callX C__law_draw hG hgd hr (a_bag 0 (a_cons v_int a_nil)))) (PV.b v_int)) a_nil)))))) (ss_one (s_ret (v_if (t_val (PV.b (v_callX C__law_is_small hG hgd hr (a_cons (v_name 4) a_nil)))) (v_name 4) (v_name 2))))))
theorem ok__law_near {P : Program} {w : World} {K : PySem.W.Frag} {mg : Str → Option Value} {base : Heap} {f : Addr} {fd : FuncData} (F : Fun K "_law_near" "_law_near" s__law_near f fd) (bl : Bl mg) (C__law_pick : Kn P w K mg base 2 "_law_pick" ["bag", "some"] S__law_pick) (C__law_draw : Kn P w K mg base 2 "_law_draw" ["bag", "below"] S__law_draw) (C__law_moved : Kn P w K mg base 2 "_law_moved" ["slope", "height", "n", "more"] S__law_moved) (C__law_is_small : Kn P w K mg base 2 "_law_is_small" ["surd"] S__law_is_small) : FnG IsLst P w K mg base 3 f fd ["bag", "slope", "height"] S__law_near :=
  fng_of F sc__law_near m__law_near l__law_near fun cdv A outer s c hG hgd hr => ⟨g__law_near, der__law_near bl C__law_pick C__law_draw C__law_moved C__law_is_small hG hgd hr, r__law_near⟩
theorem sc__law_word : FnScope N__law_word ["bag", "field", "size", "slope"] (defScope s__law_word) := ⟨rfl, rfl, rfl, by decide +kernel, rfl, by decide +kernel, by decide +kernel⟩
theorem der__law_word {P : Program} {w : World} {K : PySem.W.Frag} {mg : Str → Option Value} {base : Heap} {f : Addr} {cdv : Value} {A : Around} {outer : List PySem.Env} {s : Shared} {c : C} (bl : Bl mg) (C__law_draw : Kn P w K mg base 2 "_law_draw" ["bag", "below"] S__law_draw) (C__law_pick : Kn P w K mg base 2 "_law_pick" ["bag", "some"] S__law_pick) (C__law_slope : Kn P w K mg base 2 "_law_slope" ["bag", "field", "size"] S__law_slope) (C__law_letters : KnO P w K mg base 2 "_law_letters" ["field", "slope", "height", "many"] S__law_letters) (C__law_height : Kn P w K mg base 2 "_law_height" ["bag", "field", "size"] S__law_height) (hG : IsLst c) (hgd : A.guards = some []) (hr : Room 2 (A.deeper (envOfC "_law_word" (defScope s__law_word) s.heap.objs.size f cdv))) : PSsd (XX P w K mg base N__law_word "_law_word" s__law_word f cdv A outer s c.H0) c (defBody s__law_word) g__law_word := by
  have hN : (XX P w K mg base N__law_word "_law_word" s__law_word f cdv A outer s c.H0).N.Nodup := sc__law_word.nd
  have hc : (XX P w K mg base N__law_word "_law_word" s__law_word f cdv A outer s c.H0).calm = true := rfl
  have hx : ∀ e s1, ¬ (XX P w K mg base N__law_word "_law_word" s__law_word f cdv A outer s c.H0).xe e s1 := fun _ _ z => z
  have hp : PassesOwn (model P w) (XX P w K mg base N__law_word "_law_word" s__law_word f cdv A outer s c.H0).A (XX P w K mg base N__law_word "_law_word" s__law_word f cdv A outer s c.H0).env (XX P w K mg base N__law_word "_law_word" s__law_word f cdv A outer s c.H0).xe := PassesOwn.never
  have hu : (XX P w K mg base N__law_word "_law_word" s__law_word f cdv A outer s c.H0).A.units + 64 < cLine := units_of hr
  have hu5 : (XX P w K mg base N__law_word "_law_word" s__law_word f cdv A outer s c.H0).A.units + 65 < cLine := units65 hr
  exact (ss_cons (s_par 4 5 hc hN (m_v (v_bin o_add (PV.b v_int) (PV.b (v_callX C__law_draw hG hgd hr (a_bag 0 (a_cons v_int a_nil))))) (m_v (v_callX C__law_draw hG hgd hr (a_bag 0 (a_cons v_int a_nil))) m_nil))) (ss_cons (s_if (t_cmp (o_eq hu) (PV.b (v_callX C__law_draw hG hgd hr (a_bag 0 (a_cons v_int a_nil)))) (PV.b v_int)) (ss_one (s_set 4 hN (v_callX C__law_pick hG hgd hr (a_bag 0 (a_cons (PN.v (n_lst (d_cons v_int (d_cons v_int (d_cons (v_bin o_add (PV.b v_int) (PV.b (v_callX C__law_draw hG hgd hr (a_bag 0 (a_cons v_int a_nil))))) d_nil))))) a_nil))))) ss_nil) (ss_cons (s_if (t_cmp (o_eq hu) (b_name 5) (PV.b v_int)) (ss_one (s_ret (PN.v (n_lc hc hN (own := [("turn", 6)]) (by first | rfl | decide +kernel) (i_rng1 bl.range (PV.b (v_callB (c_min2 hc) bl.min (bb_cons (b_name 4) (bb_cons (PV.b v_int) bb_nil))))) (fun _ _ _ _ _ => (g_nm 6 (by exact hN))) (fun _ _ _ _ _ => ts_nil) (fun _ _ _ _ _ => (v_callX C__law_draw hG (by exact hgd) (by exact hr) (a_bag 0 (a_cons v_int a_nil)))))))) ss_nil) (ss_cons (s_set 7 hN (v_if (t_cmp (o_eq hu) (b_name 5) (PV.b v_int)) (v_callX C__law_slope hG hgd hr (a_bag 0 (a_cons (v_name 1) (a_cons (v_name 2) a_nil)))) (v_name 3))) (ss_cons (s_setN 8 hN (n_callX C__law_letters hG hgd hr (a_cons (v_name 1) (a_cons (v_name 7) (a_cons (v_callX C__law_height hG hgd hr (a_bag 0 (a_cons (v_name 1) (a_cons (v_name 2) a_nil)))) (a_cons (v_name 4) a_nil)))))) (ss_cons (s_if (t_cmp (o_eq hu) (b_name 5) (PV.b v_int)) (ss_cons (s_set 9 hN (v_callX C__law_pick hG hgd hr (a_bag 0 (a_cons (PN.v (n_lst (d_cons v_int (d_cons (v_bin o_sub (b_name 4) (PV.b v_int)) (d_cons (v_callX C__law_draw hG hgd hr (a_bag 0 (a_cons (v_name 4) a_nil))) d_nil))))) a_nil)))) (ss_one (s_setIx 8 (v_bin o_sub (PV.b v_int) (PV.b (v_ix (b_name 8) (b_name 9)))) (b_name 9)))) ss_nil) (ss_one (s_frz 8 (s_ret (v_name 8))))))))))
theorem ok__law_word {P : Program} {w : World} {K : PySem.W.Frag} {mg : Str → Option Value} {base : Heap} {f : Addr} {fd : FuncData} (F : Fun K "_law_word" "_law_word" s__law_word f fd) (bl : Bl mg) (C__law_draw : Kn P w K mg base 2 "_law_draw" ["bag", "below"] S__law_draw) (C__law_pick : Kn P w K mg base 2 "_law_pick" ["bag", "some"] S__law_pick) (C__law_slope : Kn P w K mg base 2 "_law_slope" ["bag", "field", "size"] S__law_slope) (C__law_letters : KnO P w K mg base 2 "_law_letters" ["field", "slope", "height", "many"] S__law_letters) (C__law_height : Kn P w K mg base 2 "_law_height" ["bag", "field", "size"] S__law_height) : FnG IsLst P w K mg base 3 f fd ["bag", "field", "size", "slope"] S__law_word :=
  fng_of F sc__law_word m__law_word l__law_word fun cdv A outer s c hG hgd hr => ⟨g__law_word, der__law_word bl C__law_draw C__law_pick C__law_slope C__law_letters C__law_height hG hgd hr, r__law_word⟩
theorem sc__law_points : FnScope N__law_points ["bag", "field", "size", "bounds"] (defScope s__law_points) := ⟨rfl, rfl, rfl, by decide +kernel, rfl, by decide +kernel, by decide +kernel⟩
theorem der__law_points {P : Program} {w : World} {K : PySem.W.Frag} {mg : Str → Option Value} {base : Heap} {f : Addr} {cdv : Value} {A : Around} {outer : List PySem.Env} {s : Shared} {c : C} (bl : Bl mg) (C__law_shrunk : Kn P w K mg base 2 "_law_shrunk" ["a", "b", "c", "d"] S__law_shrunk) (C__law_slope : Kn P w K mg base 2 "_law_slope" ["bag", "field", "size"] S__law_slope) (C__law_is_small : Kn P w K mg base 2 "_law_is_small" ["surd"] S__law_is_small) (hG : IsLst c) (hgd : A.guards = some []) (hr : Room 2 (A.deeper (envOfC "_law_points" (defScope s__law_points) s.heap.objs.size f cdv))) : PSsd (XX P w K mg base N__law_points "_law_points" s__law_points f cdv A outer s c.H0) c (defBody s__law_points) g__law_points := by
  have hN : (XX P w K mg base N__law_points "_law_points" s__law_points f cdv A outer s c.H0).N.Nodup := sc__law_points.nd
  have hc : (XX P w K mg base N__law_points "_law_points" s__law_points f cdv A outer s c.H0).calm = true := rfl
  have hx : ∀ e s1, ¬ (XX P w K mg base N__law_points "_law_points" s__law_points f cdv A outer s c.H0).xe e s1 := fun _ _ z => z
  have hp : PassesOwn (model P w) (XX P w K mg base N__law_points "_law_points" s__law_points f cdv A outer s c.H0).A (XX P w K mg base N__law_points "_law_points" s__law_points f cdv A outer s c.H0).env (XX P w K mg base N__law_points "_law_points" s__law_points f cdv A outer s c.H0).xe := PassesOwn.never
  have hu : (XX P w K mg base N__law_points "_law_points" s__law_points f cdv A outer s c.H0).A.units + 64 < cLine := units_of hr
  have hu5 : (XX P w K mg base N__law_points "_law_points" s__law_points f cdv A outer s c.H0).A.units + 65 < cLine := units65 hr
  exact (ss_cons (s_setN 4 hN (n_lst (d_cons (v_tup (d_cons v_int (d_cons v_int (d_cons v_int (d_cons v_int d_nil))))) (d_cons (v_tup (d_cons v_int (d_cons v_int (d_cons v_int (d_cons v_int d_nil))))) d_nil)))) (ss_cons (s_if (t_cmp o_notN (b_name 3) (PV.b v_non)) (ss_cons (s_asg (v_name 3) (g_sq hc (gs_cons (g_nm 5 hN) (gs_cons (g_nm 6 hN) gs_nil)))) (ss_cons (s_set 7 hN (v_bin o_mul (PV.b (v_ix (b_name 5) (PV.b v_int))) (PV.b (v_ix (b_name 6) (PV.b v_int))))) (ss_cons (s_par 8 9 hc hN (m_v (v_bin o_add (PV.b (v_bin o_mul (PV.b (v_ix (b_name 5) (PV.b v_int))) (PV.b (v_ix (b_name 6) (PV.b v_int))))) (PV.b (v_bin o_mul (PV.b (v_ix (b_name 6) (PV.b v_int))) (PV.b (v_ix (b_name 5) (PV.b v_int)))))) (m_v (v_bin o_add (PV.b (v_bin o_mul (PV.b (v_ix (b_name 5) (PV.b v_int))) (PV.b (v_ix (b_name 6) (PV.b v_int))))) (PV.b (v_bin o_mul (PV.b (v_ix (b_name 6) (PV.b v_int))) (PV.b (v_ix (b_name 5) (PV.b v_int)))))) m_nil))) (ss_cons (s_setN 4 hN (n_cat (b_name 4) (PV.b (PN.v (n_lst (d_cons (v_name 5) (d_cons (v_name 6) (d_cons (v_callX C__law_shrunk hG hgd hr (a_cons (v_name 8) (a_cons (v_name 9) (a_cons (v_bin o_mul (PV.b v_int) (b_name 7)) (a_cons (v_ix (b_name 1) (PV.b v_int)) a_nil))))) d_nil)))))))) (ss_cons (s_app 4 (v_callX C__law_shrunk hG hgd hr (a_cons (v_ix (b_name 5) (PV.b v_int)) (a_cons (v_ix (b_name 5) (PV.b v_int)) (a_cons (v_bin o_mul (PV.b v_int) (PV.b (v_ix (b_name 5) (PV.b v_int)))) (a_cons (v_ix (b_name 5) (PV.b v_int)) a_nil)))))) (ss_one (s_app 4 (v_callX C__law_shrunk hG hgd hr (a_cons (v_bin o_add (PV.b (v_ix (b_name 6) (PV.b v_int))) (PV.b (v_ix (b_name 6) (PV.b v_int)))) (a_cons (v_ix (b_name 6) (PV.b v_int)) (a_cons (v_bin o_mul (PV.b v_int) (PV.b (v_ix (b_name 6) (PV.b v_int)))) (a_cons (v_ix (b_name 6) (PV.b v_int)) a_nil)))))))))))) ss_nil) (ss_cons (s_for hp hc (i_rng1 bl.range (PV.b v_int)) (g_nm 10 hN) (ss_one (s_app 4 (v_callX C__law_slope hG hgd hr (a_bag 0 (a_cons (v_name 1) (a_cons (v_name 2) a_nil))))))) (ss_one (s_frz 4 (s_ret (PN.v (n_lc hc hN (own := [("point", 11)]) (by first | rfl | decide +kernel) (i_seq (v_name 4)) (fun _ _ _ _ _ => (g_nm 11 (by exact hN))) (fun _ _ _ _ _ => (ts_one (t_val (PV.b (v_callX C__law_is_small hG (by exact hgd) (by exact hr) (a_cons (v_name 11) a_nil)))))) (fun _ _ _ _ _ => (v_name 11))))))))))
theorem ok__law_points {P : Program} {w : World} {K : PySem.W.Frag} {mg : Str → Option Value} {base : Heap} {f : Addr} {fd : FuncData} (F : Fun K "_law_points" "_law_points" s__law_points f fd) (bl : Bl mg) (C__law_shrunk : Kn P w K mg base 2 "_law_shrunk" ["a", "b", "c", "d"] S__law_shrunk) (C__law_slope : Kn P w K mg base 2 "_law_slope" ["bag", "field", "size"] S__law_slope) (C__law_is_small : Kn P w K mg base 2 "_law_is_small" ["surd"] S__law_is_small) : FnG IsLst P w K mg base 3 f fd ["bag", "field", "size", "bounds"] S__law_points :=
  fng_of F sc__law_points m__law_points l__law_points fun cdv A outer s c hG hgd hr => ⟨g__law_points, der__law_points bl C__law_shrunk C__law_slope C__law_is_small hG hgd hr, r__law_points⟩
theorem sc__law_pairs : FnScope N__law_pairs ["points", "bag", "field"] (defScope s__law_pairs) := ⟨rfl, rfl, rfl, by decide +kernel, rfl, by decide +kernel, by decide +kernel⟩
theorem der__law_pairs {P : Program} {w : World} {K : PySem.W.Frag} {mg : Str → Option Value} {base : Heap} {f : Addr} {cdv : Value} {A : Around} {outer : List PySem.Env} {s : Shared} {c : C} (bl : Bl mg) (C__law_draw : Kn P w K mg base 2 "_law_draw" ["bag", "below"] S__law_draw) (C__law_is_less : Kn P w K mg base 2 "_law_is_less" ["one", "other", "d"] S__law_is_less) (hG : IsLst c) (hgd : A.guards = some []) (hr : Room 2 (A.deeper (envOfC "_law_pairs" (defScope s__law_pairs) s.heap.objs.size f cdv))) : PSsd (XX P w K mg base N__law_pairs "_law_pairs" s__law_pairs f cdv A outer s c.H0) c (defBody s__law_pairs) g__law_pairs := by
  have hN : (XX P w K mg base N__law_pairs "_law_pairs" s__law_pairs f cdv A outer s c.H0).N.Nodup := sc__law_pairs.nd
  have hc : (XX P w K mg base N__law_pairs "_law_pairs" s__law_pairs f cdv A outer s c.H0).calm = true := rfl
  have hx : ∀ e s1, ¬ (XX P w K mg base N__law_pairs "_law_pairs" s__law_pairs f cdv A outer s c.H0).xe e s1 := fun _ _ z => z
  have hp : PassesOwn (model P w) (XX P w K mg base N__law_pairs "_law_pairs" s__law_pairs f cdv A outer s c.H0).A (XX P w K mg base N__law_pairs "_law_pairs" s__law_pairs f cdv A outer s c.H0).env (XX P w K mg base N__law_pairs "_law_pairs" s__law_pairs f cdv A outer s c.H0).xe := PassesOwn.never
  have hu : (XX P w K mg base N__law_pairs "_law_pairs" s__law_pairs f cdv A outer s c.H0).A.units + 64 < cLine := units_of hr
  have hu5 : (XX P w K mg base N__law_pairs "_law_pairs" s__law_pairs f cdv A outer s c.H0).A.units + 65 < cLine := units65 hr
  exact (ss_cons (s_setN 3 hN (n_lst (d_cons (v_tup (d_cons v_int (d_cons v_int d_nil))) (d_cons (v_tup (d_cons v_int (d_cons v_int d_nil))) (d_cons (v_tup (d_cons v_int (d_cons v_int d_nil))) (d_cons (v_tup (d_cons v_int (d_cons v_int d_nil))) (d_cons (v_tup (d_cons v_int (d_cons v_int d_nil))) (d_cons (v_tup (d_cons v_int (d_cons v_int d_nil))) (d_cons (v_tup (d_cons v_int (d_cons v_int d_nil))) (d_cons (v_tup (d_cons v_int (d_cons v_int d_nil))) (d_cons (v_tup (d_cons v_int (d_cons v_int d_nil))) d_nil))))))))))) (ss_cons (s_for hp hc (i_rng1 bl.range (PV.b v_int)) (g_nm 4 hN) (ss_one (s_app 3 (v_tup (d_cons (v_callX C__law_draw hG hgd hr (a_bag 1 (a_cons v_int a_nil))) (d_cons (v_callX C__law_draw hG hgd hr (a_bag 1 (a_cons v_int a_nil))) d_nil)))))) (ss_cons (s_setN 5 hN (n_lst d_nil)) (ss_cons (s_frz 3 (s_for hp hc (i_seq (v_name 3)) (g_sq hc (gs_cons (g_nm 6 hN) (gs_cons (g_nm 7 hN) gs_nil))) (ss_one (s_if (PWd.t (w_and (t_cmp o_lt (b_name 6) (PV.b (v_callB c_len bl.len (bb_cons (b_name 0) bb_nil)))) (w_and1 (t_cmp o_lt (b_name 7) (PV.b (v_callB c_len bl.len (bb_cons (b_name 0) bb_nil))))))) (ss_cons (s_par 8 9 hc hN (m_v (v_ix (b_name 0) (b_name 6)) (m_v (v_ix (b_name 0) (b_name 7)) m_nil))) (ss_one (s_if (t_val (PV.b (v_callX C__law_is_less hG hgd hr (a_cons (v_name 8) (a_cons (v_name 9) (a_cons (v_ix (b_name 2) (PV.b v_int)) a_nil)))))) (ss_one (s_app 5 (v_tup (d_cons (v_name 8) (d_cons (v_name 9) d_nil))))) (ss_one (s_if (t_val (PV.b (v_callX C__law_is_less hG hgd hr (a_cons (v_name 9) (a_cons (v_name 8) (a_cons (v_ix (b_name 2) (PV.b v_int)) a_nil)))))) (ss_one (s_app 5 (v_tup (d_cons (v_name 9) (d_cons (v_name 8) d_nil))))) ss_nil))))) ss_nil)))) (ss_one (s_frz 5 (s_ret (v_name 5))))))))
theorem ok__law_pairs {P : Program} {w : World} {K : PySem.W.Frag} {mg : Str → Option Value} {base : Heap} {f : Addr} {fd : FuncData} (F : Fun K "_law_pairs" "_law_pairs" s__law_pairs f fd) (bl : Bl mg) (C__law_draw : Kn P w K mg base 2 "_law_draw" ["bag", "below"] S__law_draw) (C__law_is_less : Kn P w K mg base 2 "_law_is_less" ["one", "other", "d"] S__law_is_less) : FnG IsLst P w K mg base 3 f fd ["points", "bag", "field"] S__law_pairs :=
  fng_of F sc__law_pairs m__law_pairs l__law_pairs fun cdv A outer s c hG hgd hr => ⟨g__law_pairs, der__law_pairs bl C__law_draw C__law_is_less hG hgd hr, r__law_pairs⟩
theorem sc_surd_order : FnScope N_surd_order ["one", "other"] (defScope s_surd_order) := ⟨rfl, rfl, rfl, by decide +kernel, rfl, by decide +kernel, by decide +kernel⟩
theorem der_surd_order {P : Program} {w : World} {K : PySem.W.Frag} {mg : Str → Option Value} {base : Heap} {f : Addr} {cdv : Value} {A : Around} {outer : List PySem.Env} {s : Shared} {c : C} (bl : Bl mg) (C_surd_sign : Kn P w K mg base 3 "surd_sign" ["one"] S_surd_sign) (C_surd_sum : Kn P w K mg base 3 "surd_sum" ["one", "other"] S_surd_sum) (C_surd_turned : Kn P w K mg base 3 "surd_turned" ["one"] S_surd_turned) (hG : IsLst c) (hgd : A.guards = some []) (hr : Room 3 (A.deeper (envOfC "surd_order" (defScope s_surd_order) s.heap.objs.size f cdv))) : PSsd (XX P w K mg base N_surd_order "surd_order" s_surd_order f cdv A outer s c.H0) c (defBody s_surd_order) g_surd_order := by
  have hN : (XX P w K mg base N_surd_order "surd_order" s_surd_order f cdv A outer s c.H0).N.Nodup := sc_surd_order.nd
  have hc : (XX P w K mg base N_surd_order "surd_order" s_surd_order f cdv A outer s c.H0).calm = true := rfl
  have hx : ∀ e s1, ¬ (XX P w K mg base N_surd_order "surd_order" s_surd_order f cdv A outer s c.H0).xe e s1 := fun _ _ z => z
  have hp : PassesOwn (model P w) (XX P w K mg base N_surd_order "surd_order" s_surd_order f cdv A outer s c.H0).A (XX P w K mg base N_surd_order "surd_order" s_surd_order f cdv A outer s c.H0).env (XX P w K mg base N_surd_order "surd_order" s_surd_order f cdv A outer s c.H0).xe := PassesOwn.never
  have hu : (XX P w K mg base N_surd_order "surd_order" s_surd_order f cdv A outer s c.H0).A.units + 64 < cLine := units_of hr
  have hu5 : (XX P w K mg base N_surd_order "surd_order" s_surd_order f cdv A outer s c.H0).A.units + 65 < cLine := units65 hr
  exact (ss_one (s_ret (v_callX C_surd_sign hG hgd hr (a_cons (v_callX C_surd_sum hG hgd hr (a_cons (v_name 0) (a_cons (v_callX C_surd_turned hG hgd hr (a_cons (v_name 1) a_nil)) a_nil))) a_nil))))
theorem ok_surd_order {P : Program} {w : World} {K : PySem.W.Frag} {mg : Str → Option Value} {base : Heap} {f : Addr} {fd : FuncData} (F : Fun K "surd_order" "surd_order" s_surd_order f fd) (bl : Bl mg) (C_surd_sign : Kn P w K mg base 3 "surd_sign" ["one"] S_surd_sign) (C_surd_sum : Kn P w K mg base 3 "surd_sum" ["one", "other"] S_surd_sum) (C_surd_turned : Kn P w K mg base 3 "surd_turned" ["one"] S_surd_turned) : FnG IsLst P w K mg base 4 f fd ["one", "other"] S_surd_order :=
  fng_of F sc_surd_order m_surd_order l_surd_order fun cdv A outer s c hG hgd hr => ⟨g_surd_order, der_surd_order bl C_surd_sign C_surd_sum C_surd_turned hG hgd hr, r_surd_order⟩
theorem sc_letters : FnScope N_letters ["slope", "height", "many"] (defScope s_letters) := ⟨rfl, rfl, rfl, by decide +kernel, rfl, by decide +kernel, by decide +kernel⟩
theorem der_letters {P : Program} {w : World} {K : PySem.W.Frag} {mg : Str → Option Value} {base : Heap} {f : Addr} {cdv : Value} {A : Around} {outer : List PySem.Env} {s : Shared} {c : C} (bl : Bl mg) (C_whole_at : Kn P w K mg base 3 "whole_at" ["slope", "height", "n"] S_whole_at) (hG : IsLst c) (hgd : A.guards = some []) (hr : Room 3 (A.deeper (envOfC "letters" (defScope s_letters) s.heap.objs.size f cdv))) : PSsd (XX P w K mg base N_letters "letters" s_letters f cdv A outer s c.H0) c (defBody s_letters) g_letters := by
  have hN : (XX P w K mg base N_letters "letters" s_letters f cdv A outer s c.H0).N.Nodup := sc_letters.nd
  have hc : (XX P w K mg base N_letters "letters" s_letters f cdv A outer s c.H0).calm = true := rfl
  have hx : ∀ e s1, ¬ (XX P w K mg base N_letters "letters" s_letters f cdv A outer s c.H0).xe e s1 := fun _ _ z => z
  have hp : PassesOwn (model P w) (XX P w K mg base N_letters "letters" s_letters f cdv A outer s c.H0).A (XX P w K mg base N_letters "letters" s_letters f cdv A outer s c.H0).env (XX P w K mg base N_letters "letters" s_letters f cdv A outer s c.H0).xe := PassesOwn.never
  have hu : (XX P w K mg base N_letters "letters" s_letters f cdv A outer s c.H0).A.units + 64 < cLine := units_of hr
  have hu5 : (XX P w K mg base N_letters "letters" s_letters f cdv A outer s c.H0).A.units + 65 < cLine := units65 hr
  exact (ss_cons (s_setN 3 hN (n_lc hc hN (own := [("n", 4)]) (by first | rfl | decide +kernel) (i_rng1 bl.range (PV.b (v_bin o_add (b_name 2) (PV.b v_int)))) (fun _ _ _ _ _ => (g_nm 4 (by exact hN))) (fun _ _ _ _ _ => ts_nil) (fun _ _ _ _ _ => (v_callX C_whole_at hG (by exact hgd) (by exact hr) (a_cons (v_name 0) (a_cons (v_name 1) (a_cons (v_name 4) a_nil))))))) (ss_one (s_ret (v_callT c_tuple bl.tuple (bb_cons (PV.b (PN.v (n_lc hc hN (own := [("n", 4)]) (by first | rfl | decide +kernel) (i_rng1 bl.range (b_name 2)) (fun _ _ _ _ _ => (g_nm 4 (by exact hN))) (fun _ _ _ _ _ => ts_nil) (fun _ _ _ _ _ => (v_bin o_sub (PV.b (v_ix (b_name 3) (PV.b (v_bin o_add (b_name 4) (PV.b v_int))))) (PV.b (v_ix (b_name 3) (b_name 4)))))))) bb_nil)))))
theorem ok_letters {P : Program} {w : World} {K : PySem.W.Frag} {mg : Str → Option Value} {base : Heap} {f : Addr} {fd : FuncData} (F : Fun K "letters" "letters" s_letters f fd) (bl : Bl mg) (C_whole_at : Kn P w K mg base 3 "whole_at" ["slope", "height", "n"] S_whole_at) : FnG IsLst P w K mg base 4 f fd ["slope", "height", "many"] S_letters :=
  fng_of F sc_letters m_letters l_letters fun cdv A outer s c hG hgd hr => ⟨g_letters, der_letters bl C_whole_at hG hgd hr, r_letters⟩
theorem sc_moved_row : FnScope N_moved_row ["slope", "height", "n"] (defScope s_moved_row) := ⟨rfl, rfl, rfl, by decide +kernel, rfl, by decide +kernel, by decide +kernel⟩
theorem der_moved_row {P : Program} {w : World} {K : PySem.W.Frag} {mg : Str → Option Value} {base : Heap} {f : Addr} {cdv : Value} {A : Around} {outer : List PySem.Env} {s : Shared} {c : C} (bl : Bl mg) (C_surd_sum : Kn P w K mg base 3 "surd_sum" ["one", "other"] S_surd_sum) (C_surd_times : Kn P w K mg base 3 "surd_times" ["one", "other"] S_surd_times) (C_whole_part : Kn P w K mg base 3 "whole_part" ["one"] S_whole_part) (hG : IsLst c) (hgd : A.guards = some []) (hr : Room 3 (A.deeper (envOfC "moved_row" (defScope s_moved_row) s.heap.objs.size f cdv))) : PSsd (XX P w K mg base N_moved_row "moved_row" s_moved_row f cdv A outer s c.H0) c (defBody s_moved_row) g_moved_row := by
  have hN : (XX P w K mg base N_moved_row "moved_row" s_moved_row f cdv A outer s c.H0).N.Nodup := sc_moved_row.nd
  have hc : (XX P w K mg base N_moved_row "moved_row" s_moved_row f cdv A outer s c.H0).calm = true := rfl
  have hx : ∀ e s1, ¬ (XX P w K mg base N_moved_row "moved_row" s_moved_row f cdv A outer s c.H0).xe e s1 := fun _ _ z => z
  have hp : PassesOwn (model P w) (XX P w K mg base N_moved_row "moved_row" s_moved_row f cdv A outer s c.H0).A (XX P w K mg base N_moved_row "moved_row" s_moved_row f cdv A outer s c.H0).env (XX P w K mg base N_moved_row "moved_row" s_moved_row f cdv A outer s c.H0).xe := PassesOwn.never
  have hu : (XX P w K mg base N_moved_row "moved_row" s_moved_row f cdv A outer s c.H0).A.units + 64 < cLine := units_of hr
  have hu5 : (XX P w K mg base N_moved_row "moved_row" s_moved_row f cdv A outer s c.H0).A.units + 65 < cLine := units65 hr
  exact (ss_cons (s_set 3 hN (v_callX C_surd_sum hG hgd hr (a_cons (v_callX C_surd_times hG hgd hr (a_cons (v_tup (d_cons (v_name 2) (d_cons v_int (d_cons v_int (d_cons v_int d_nil))))) (a_cons (v_name 0) a_nil))) (a_cons (v_name 1) a_nil)))) (ss_one (s_ret (v_callX C_surd_sum hG hgd hr (a_cons (v_name 3) (a_cons (v_tup (d_cons (v_neg (PV.b (v_callX C_whole_part hG hgd hr (a_cons (v_name 3) a_nil)))) (d_cons v_int (d_cons v_int (d_cons v_int d_nil))))) a_nil))))))
theorem ok_moved_row {P : Program} {w : World} {K : PySem.W.Frag} {mg : Str → Option Value} {base : Heap} {f : Addr} {fd : FuncData} (F : Fun K "moved_row" "moved_row" s_moved_row f fd) (bl : Bl mg) (C_surd_sum : Kn P w K mg base 3 "surd_sum" ["one", "other"] S_surd_sum) (C_surd_times : Kn P w K mg base 3 "surd_times" ["one", "other"] S_surd_times) (C_whole_part : Kn P w K mg base 3 "whole_part" ["one"] S_whole_part) : FnG IsLst P w K mg base 4 f fd ["slope", "height", "n"] S_moved_row :=
  fng_of F sc_moved_row m_moved_row l_moved_row fun cdv A outer s c hG hgd hr => ⟨g_moved_row, der_moved_row bl C_surd_sum C_surd_times C_whole_part hG hgd hr, r_moved_row⟩
theorem sc__law_same : FnScope N__law_same ["told", "due"] (defScope s__law_same) := ⟨rfl, rfl, rfl, by decide +kernel, rfl, by decide +kernel, by decide +kernel⟩
theorem der__law_same {P : Program} {w : World} {K : PySem.W.Frag} {mg : Str → Option Value} {base : Heap} {f : Addr} {cdv : Value} {A : Around} {outer : List PySem.Env} {s : Shared} {c : C} (bl : Bl mg) {kk : Nat} {Sr : Spec} (C_rec : Kn P w K mg base kk "_law_same" ["told", "due"] Sr) (hG : IsLst c) (hgd : A.guards = some []) (hr : Room kk (A.deeper (envOfC "_law_same" (defScope s__law_same) s.heap.objs.size f cdv))) : PSsd (XX P w K mg base N__law_same "_law_same" s__law_same f cdv A outer s c.H0) c (defBody s__law_same) (g__law_same Sr) := by
  have hN : (XX P w K mg base N__law_same "_law_same" s__law_same f cdv A outer s c.H0).N.Nodup := sc__law_same.nd
  have hc : (XX P w K mg base N__law_same "_law_same" s__law_same f cdv A outer s c.H0).calm = true := rfl
  have hx : ∀ e s1, ¬ (XX P w K mg base N__law_same "_law_same" s__law_same f cdv A outer s c.H0).xe e s1 := fun _ _ z => z
  have hp : PassesOwn (model P w) (XX P w K mg base N__law_same "_law_same" s__law_same f cdv A outer s c.H0).A (XX P w K mg base N__law_same "_law_same" s__law_same f cdv A outer s c.H0).env (XX P w K mg base N__law_same "_law_same" s__law_same f cdv A outer s c.H0).xe := PassesOwn.never
  have hu : (XX P w K mg base N__law_same "_law_same" s__law_same f cdv A outer s c.H0).A.units + 64 < cLine := units_of hr
  have hu5 : (XX P w K mg base N__law_same "_law_same" s__law_same f cdv A outer s c.H0).A.units + 65 < cLine := units65 hr
  exact (ss_cons (s_if (t_cmp o_isN (b_name 1) (PV.b v_non)) (ss_one (s_ret (v_cmp o_isN (b_name 0) (PV.b v_non)))) ss_nil) (ss_cons (s_if (t_cmp o_isB (b_name 1) (PV.b v_bl)) (ss_one (s_ret (v_cmp o_isB (b_name 0) (PV.b v_bl)))) ss_nil) (ss_cons (s_if (t_cmp o_isB (b_name 1) (PV.b v_bl)) (ss_one (s_ret (v_cmp o_isB (b_name 0) (PV.b v_bl)))) ss_nil) (ss_cons (s_if (t_val (PV.b (v_isi kit_str bl.isinstance bl.str (b_name 1)))) (ss_one (s_ret (v_and (PV.b (v_isi kit_str bl.isinstance bl.str (b_name 0))) (v_one (v_cmp (o_eq hu) (b_name 0) (b_name 1)))))) ss_nil) (ss_cons (s_if (t_val (PV.b (v_isi kit_int bl.isinstance bl.int (b_name 1)))) (ss_one (s_ret (v_and (PV.b (v_isi kit_int bl.isinstance bl.int (b_name 0))) (v_and (PV.b (v_not (PV.b (v_isi kit_bool bl.isinstance bl.bool (b_name 0))))) (v_one (v_cmp (o_eq hu) (b_name 0) (b_name 1))))))) ss_nil) (ss_cons (s_if (PWd.t (w_or (t_not (t_val (PV.b (v_isi kit_tuple bl.isinstance bl.tuple (b_name 0))))) (w_or (t_not (t_val (PV.b (v_isi kit_tuple bl.isinstance bl.tuple (b_name 1))))) (w_or1 (t_cmp (o_ne hu) (PV.b (v_callB c_len bl.len (bb_cons (b_name 0) bb_nil))) (PV.b (v_callB c_len bl.len (bb_cons (b_name 1) bb_nil)))))))) (ss_one (s_ret v_bl)) ss_nil) (ss_one (s_ret (v_callB (c_all hc) bl.all (bb_cons (PV.b (PN.v (n_lc hc hN (own := [("one", 2), ("other", 3)]) (by first | rfl | decide +kernel) (i_zip bl.zip (v_name 0) (v_name 1)) (fun _ _ _ _ _ => (g_sq (by exact hc) (gs_cons (g_nm 2 (by exact hN)) (gs_cons (g_nm 3 (by exact hN)) gs_nil)))) (fun _ _ _ _ _ => ts_nil) (fun _ _ _ _ _ => (v_callX C_rec hG (by exact hgd) (by exact hr) (a_cons (v_name 2) (a_cons (v_name 3) a_nil))))))) bb_nil))))))))))
theorem ok__law_same {P : Program} {w : World} {K : PySem.W.Frag} {mg : Str → Option Value} {base : Heap} {f : Addr} {fd : FuncData} (F : Fun K "_law_same" "_law_same" s__law_same f fd) (bl : Bl mg) (hm : mg "_law_same" = some (.ref f)) (hk : PySem.W.keepIn K (.ref f) = true) (hb : Binds K fd ["told", "due"] [])  : ∀ n : Nat, FnG IsLst P w K mg base (0 + n) f fd ["told", "due"] (Sn__law_same n)
  | 0 => fng_zero z0__law_same
  | n + 1 => fng_of F sc__law_same (mn__law_same (n + 1)) (ln__law_same (n + 1)) fun cdv A outer s c hG hgd hr => ⟨g__law_same (Sn__law_same n), der__law_same bl (Kn.mk (ok__law_same F bl hm hk hb  n) hm hk hb)  hG hgd hr, r__law_same n⟩
theorem sc_unlike_places : FnScope N_unlike_places ["slope", "height", "other", "many"] (defScope s_unlike_places) := ⟨rfl, rfl, rfl, by decide +kernel, rfl, by decide +kernel, by decide +kernel⟩
theorem der_unlike_places {P : Program} {w : World} {K : PySem.W.Frag} {mg : Str → Option Value} {base : Heap} {f : Addr} {cdv : Value} {A : Around} {outer : List PySem.Env} {s : Shared} {c : C} (bl : Bl mg) (C_letters : Kn P w K mg base 4 "letters" ["slope", "height", "many"] S_letters) (hG : IsLst c) (hgd : A.guards = some []) (hr : Room 4 (A.deeper (envOfC "unlike_places" (defScope s_unlike_places) s.heap.objs.size f cdv))) : PSsd (XX P w K mg base N_unlike_places "unlike_places" s_unlike_places f cdv A outer s c.H0) c (defBody s_unlike_places) g_unlike_places := by
  have hN : (XX P w K mg base N_unlike_places "unlike_places" s_unlike_places f cdv A outer s c.H0).N.Nodup := sc_unlike_places.nd
  have hc : (XX P w K mg base N_unlike_places "unlike_places" s_unlike_places f cdv A outer s c.H0).calm = true := rfl
  have hx : ∀ e s1, ¬ (XX P w K mg base N_unlike_places "unlike_places" s_unlike_places f cdv A outer s c.H0).xe e s1 := fun _ _ z => z
  have hp : PassesOwn (model P w) (XX P w K mg base N_unlike_places "unlike_places" s_unlike_places f cdv A outer s c.H0).A (XX P w K mg base N_unlike_places "unlike_places" s_unlike_places f cdv A outer s c.H0).env (XX P w K mg base N_unlike_places "unlike_places" s_unlike_places f cdv A outer s c.H0).xe := PassesOwn.never
  have hu : (XX P w K mg base N_unlike_places "unlike_places" s_unlike_places f cdv A outer s c.H0).A.units + 64 < cLine := units_of hr
  have hu5 : (XX P w K mg base N_unlike_places "unlike_places" s_unlike_places f cdv A outer s c.H0).A.units + 65 < cLine := units65 hr
  exact (ss_cons (s_parG 4 5 hc hN (m_v (v_callX C_letters hG hgd hr (a_cons (v_name 0) (a_cons (v_name 1) (a_cons (v_name 3) a_nil)))) (m_v (v_callX C_letters hG hgd hr (a_cons (v_name 0) (a_cons (v_name 2) (a_cons (v_name 3) a_nil)))) m_nil))) (ss_one (s_ret (v_callT c_tuple bl.tuple (bb_cons (PV.b (PN.v (n_lc hc hN (own := [("place", 6)]) (by first | rfl | decide +kernel) (i_rng1 bl.range (b_name 3)) (fun _ _ _ _ _ => (g_nm 6 (by exact hN))) (fun _ _ _ _ _ => (ts_one (t_cmp (o_ne (by exact (by exact hu))) (PV.b (v_ix (b_name 4) (b_name 6))) (PV.b (v_ix (b_name 5) (b_name 6)))))) (fun _ _ _ _ _ => (v_name 6))))) bb_nil)))))
theorem ok_unlike_places {P : Program} {w : World} {K : PySem.W.Frag} {mg : Str → Option Value} {base : Heap} {f : Addr} {fd : FuncData} (F : Fun K "unlike_places" "unlike_places" s_unlike_places f fd) (bl : Bl mg) (C_letters : Kn P w K mg base 4 "letters" ["slope", "height", "many"] S_letters) : FnG IsLst P w K mg base 5 f fd ["slope", "height", "other", "many"] S_unlike_places :=
  fng_of F sc_unlike_places m_unlike_places l_unlike_places fun cdv A outer s c hG hgd hr => ⟨g_unlike_places, der_unlike_places bl C_letters hG hgd hr, r_unlike_places⟩
theorem sc_height_between : FnScope N_height_between ["slope", "height", "other", "word"] (defScope s_height_between) := ⟨rfl, rfl, rfl, by decide +kernel, rfl, by decide +kernel, by decide +kernel⟩
theorem der_height_between {P : Program} {w : World} {K : PySem.W.Frag} {mg : Str → Option Value} {base : Heap} {f : Addr} {cdv : Value} {A : Around} {outer : List PySem.Env} {s : Shared} {c : C} (bl : Bl mg) (C_surd_sum : Kn P w K mg base 4 "surd_sum" ["one", "other"] S_surd_sum) (C_surd_turned : Kn P w K mg base 4 "surd_turned" ["one"] S_surd_turned) (C_surd_order : Kn P w K mg base 4 "surd_order" ["one", "other"] S_surd_order) (hG : IsLst c) (hgd : A.guards = some []) (hr : Room 4 (A.deeper (envOfC "height_between" (defScope s_height_between) s.heap.objs.size f cdv))) : PSsd (XX P w K mg base N_height_between "height_between" s_height_between f cdv A outer s c.H0) c (defBody s_height_between) g_height_between := by
  have hN : (XX P w K mg base N_height_between "height_between" s_height_between f cdv A outer s c.H0).N.Nodup := sc_height_between.nd
  have hc : (XX P w K mg base N_height_between "height_between" s_height_between f cdv A outer s c.H0).calm = true := rfl
  have hx : ∀ e s1, ¬ (XX P w K mg base N_height_between "height_between" s_height_between f cdv A outer s c.H0).xe e s1 := fun _ _ z => z
  have hp : PassesOwn (model P w) (XX P w K mg base N_height_between "height_between" s_height_between f cdv A outer s c.H0).A (XX P w K mg base N_height_between "height_between" s_height_between f cdv A outer s c.H0).env (XX P w K mg base N_height_between "height_between" s_height_between f cdv A outer s c.H0).xe := PassesOwn.never
  have hu : (XX P w K mg base N_height_between "height_between" s_height_between f cdv A outer s c.H0).A.units + 64 < cLine := units_of hr
  have hu5 : (XX P w K mg base N_height_between "height_between" s_height_between f cdv A outer s c.H0).A.units + 65 < cLine := units65 hr
  exact (ss_cons (s_par3 4 5 6 hc hN (m_v (v_name 1) (m_v (v_name 2) (m_v (v_tup (d_cons v_int (d_cons v_int (d_cons v_int (d_cons v_int d_nil))))) m_nil)))) (ss_cons (s_for hp hc (i_seq (v_name 3)) (g_nm 7 hN) (ss_cons (s_set 6 hN (v_callX C_surd_sum hG hgd hr (a_cons (v_callX C_surd_sum hG hgd hr (a_cons (v_name 6) (a_cons (v_tup (d_cons (v_name 7) (d_cons v_int (d_cons v_int (d_cons v_int d_nil))))) a_nil))) (a_cons (v_callX C_surd_turned hG hgd hr (a_cons (v_name 0) a_nil)) a_nil)))) (ss_cons (s_set 4 hN (v_if (t_cmp o_gt (PV.b (v_callX C_surd_order hG hgd hr (a_cons (v_name 6) (a_cons (v_name 4) a_nil)))) (PV.b v_int)) (v_name 6) (v_name 4))) (ss_cons (s_set 8 hN (v_callX C_surd_sum hG hgd hr (a_cons (v_name 6) (a_cons (v_tup (d_cons v_int (d_cons v_int (d_cons v_int (d_cons v_int d_nil))))) a_nil)))) (ss_one (s_set 5 hN (v_if (t_cmp o_lt (PV.b (v_callX C_surd_order hG hgd hr (a_cons (v_name 8) (a_cons (v_name 5) a_nil)))) (PV.b v_int)) (v_name 8) (v_name 5)))))))) (ss_one (s_ret (v_cmp o_lt (PV.b (v_callX C_surd_order hG hgd hr (a_cons (v_name 4) (a_cons (v_name 5) a_nil)))) (PV.b v_int))))))
theorem ok_height_between {P : Program} {w : World} {K : PySem.W.Frag} {mg : Str → Option Value} {base : Heap} {f : Addr} {fd : FuncData} (F : Fun K "height_between" "height_between" s_height_between f fd) (bl : Bl mg) (C_surd_sum : Kn P w K mg base 4 "surd_sum" ["one", "other"] S_surd_sum) (C_surd_turned : Kn P w K mg base 4 "surd_turned" ["one"] S_surd_turned) (C_surd_order : Kn P w K mg base 4 "surd_order" ["one", "other"] S_surd_order) : FnG IsLst P w K mg base 5 f fd ["slope", "height", "other", "word"] S_height_between :=
  fng_of F sc_height_between m_height_between l_height_between fun cdv A outer s c hG hgd hr => ⟨g_height_between, der_height_between bl C_surd_sum C_surd_turned C_surd_order hG hgd hr, r_height_between⟩
theorem sc__law_is_moved_right : FnScope N__law_is_moved_right ["bag", "field", "slope", "height", "is_named"] (defScope s__law_is_moved_right) := ⟨rfl, rfl, rfl, by decide +kernel, rfl, by decide +kernel, by decide +kernel⟩
theorem der__law_is_moved_right {P : Program} {w : World} {K : PySem.W.Frag} {mg : Str → Option Value} {base : Heap} {f : Addr} {cdv : Value} {A : Around} {outer : List PySem.Env} {s : Shared} {c : C} (bl : Bl mg) (C__law_draw : Kn P w K mg base 4 "_law_draw" ["bag", "below"] S__law_draw) (C__law_pick : Kn P w K mg base 4 "_law_pick" ["bag", "some"] S__law_pick) (C__law_moved : Kn P w K mg base 4 "_law_moved" ["slope", "height", "n", "more"] S__law_moved) (C__law_shrunk : Kn P w K mg base 4 "_law_shrunk" ["a", "b", "c", "d"] S__law_shrunk) (C__law_times : Kn P w K mg base 4 "_law_times" ["field", "b"] S__law_times) (C_moved_row : Kn P w K mg base 4 "moved_row" ["slope", "height", "n"] S_moved_row) (C__law_same : Kn P w K mg base 4 "_law_same" ["told", "due"] S__law_same) (K_moved_row_n_slope_height : KnK P w K mg base 4 "moved_row" ["slope", "height", "n"] ["n", "slope", "height"] [1, 2, 0] S_moved_row) (hG : IsLst c) (hgd : A.guards = some []) (hr : Room 4 (A.deeper (envOfC "_law_is_moved_right" (defScope s__law_is_moved_right) s.heap.objs.size f cdv))) : PSsd (XX P w K mg base N__law_is_moved_right "_law_is_moved_right" s__law_is_moved_right f cdv A outer s c.H0) c (defBody s__law_is_moved_right) g__law_is_moved_right := by
  have hN : (XX P w K mg base N__law_is_moved_right "_law_is_moved_right" s__law_is_moved_right f cdv A outer s c.H0).N.Nodup := sc__law_is_moved_right.nd
  have hc : (XX P w K mg base N__law_is_moved_right "_law_is_moved_right" s__law_is_moved_right f cdv A outer s c.H0).calm = true := rfl
  have hx : ∀ e s1, ¬ (XX P w K mg base N__law_is_moved_right "_law_is_moved_right" s__law_is_moved_right f cdv A outer s c.H0).xe e s1 := fun _ _ z => z
  have hp : PassesOwn (model P w) (XX P w K mg base N__law_is_moved_right "_law_is_moved_right" s__law_is_moved_right f cdv A outer s c.H0).A (XX P w K mg base N__law_is_moved_right "_law_is_moved_right" s__law_is_moved_right f cdv A outer s c.H0).env (XX P w K mg base N__law_is_moved_right "_law_is_moved_right" s__law_is_moved_right f cdv A outer s c.H0).xe := PassesOwn.never
  have hu : (XX P w K mg base N__law_is_moved_right "_law_is_moved_right" s__law_is_moved_right f cdv A outer s c.H0).A.units + 64 < cLine := units_of hr
  have hu5 : (XX P w K mg base N__law_is_moved_right "_law_is_moved_right" s__law_is_moved_right f cdv A outer s c.H0).A.units + 65 < cLine := units65 hr
  exact (ss_cons (s_set 5 hN (v_bin o_add (PV.b (v_bin o_mul (PV.b (v_callX C__law_draw hG hgd hr (a_bag 0 (a_cons (v_bin o_pow (PV.b v_int) (PV.b v_int)) a_nil)))) (PV.b (v_bin o_pow (PV.b v_int) (PV.b v_int))))) (PV.b (v_callX C__law_draw hG hgd hr (a_bag 0 (a_cons (v_bin o_pow (PV.b v_int) (PV.b v_int)) a_nil)))))) (ss_cons (s_for hp hc (i_seq (PN.v (n_lst (d_cons (v_callX C__law_draw hG hgd hr (a_bag 0 (a_cons v_int a_nil))) (d_cons (v_name 5) (d_cons (v_callX C__law_pick hG hgd hr (a_bag 0 (a_cons (PN.v (n_lst (d_cons v_int (d_cons v_int (d_cons (v_bin o_pow (PV.b v_int) (PV.b v_int)) d_nil))))) a_nil))) d_nil)))))) (g_nm 6 hN) (ss_cons (s_asg (v_callX C__law_moved hG hgd hr (a_cons (v_name 2) (a_cons (v_name 3) (a_cons (v_name 6) (a_cons v_int a_nil))))) (g_sq hc (gs_cons (g_nm 7 hN) (gs_cons (g_nm 8 hN) (gs_cons (g_nm 9 hN) (gs_cons (g_nm 10 hN) gs_nil)))))) (ss_cons (s_set 11 hN (v_callX C__law_shrunk hG hgd hr (a_cons (v_bin o_sub (b_name 7) (PV.b (v_bin o_mul (PV.b (v_bin o_div (PV.b (v_bin o_add (b_name 7) (PV.b (v_callX C__law_times hG hgd hr (a_cons (v_name 1) (a_cons (v_name 8) a_nil)))))) (b_name 9))) (b_name 9)))) (a_cons (v_name 8) (a_cons (v_name 9) (a_cons (v_name 10) a_nil)))))) (ss_cons (s_if (t_val (b_name 4)) (ss_one (s_set 12 hN (v_callKX K_moved_row_n_slope_height hG hgd hr (k_cons (v_name 6) (k_cons (v_name 2) (k_cons (v_name 3) k_nil)))))) (ss_one (s_set 12 hN (v_callX C_moved_row hG hgd hr (a_cons (v_name 2) (a_cons (v_name 3) (a_cons (v_name 6) a_nil))))))) (ss_one (s_if (t_not (t_val (PV.b (v_callX C__law_same hG hgd hr (a_cons (v_name 12) (a_cons (v_name 11) a_nil)))))) (ss_one (s_ret v_bl)) ss_nil)))))) (ss_one (s_ret v_bl))))
theorem ok__law_is_moved_right {P : Program} {w : World} {K : PySem.W.Frag} {mg : Str → Option Value} {base : Heap} {f : Addr} {fd : FuncData} (F : Fun K "_law_is_moved_right" "_law_is_moved_right" s__law_is_moved_right f fd) (bl : Bl mg) (C__law_draw : Kn P w K mg base 4 "_law_draw" ["bag", "below"] S__law_draw) (C__law_pick : Kn P w K mg base 4 "_law_pick" ["bag", "some"] S__law_pick) (C__law_moved : Kn P w K mg base 4 "_law_moved" ["slope", "height", "n", "more"] S__law_moved) (C__law_shrunk : Kn P w K mg base 4 "_law_shrunk" ["a", "b", "c", "d"] S__law_shrunk) (C__law_times : Kn P w K mg base 4 "_law_times" ["field", "b"] S__law_times) (C_moved_row : Kn P w K mg base 4 "moved_row" ["slope", "height", "n"] S_moved_row) (C__law_same : Kn P w K mg base 4 "_law_same" ["told", "due"] S__law_same) (K_moved_row_n_slope_height : KnK P w K mg base 4 "moved_row" ["slope", "height", "n"] ["n", "slope", "height"] [1, 2, 0] S_moved_row) : FnG IsLst P w K mg base 5 f fd ["bag", "field", "slope", "height", "is_named"] S__law_is_moved_right :=
  fng_of F sc__law_is_moved_right m__law_is_moved_right l__law_is_moved_right fun cdv A outer s c hG hgd hr => ⟨g__law_is_moved_right, der__law_is_moved_right bl C__law_draw C__law_pick C__law_moved C__law_shrunk C__law_times C_moved_row C__law_same K_moved_row_n_slope_height hG hgd hr, r__law_is_moved_right⟩
theorem sc__law_is_word_right : FnScope N__law_is_word_right ["bag", "field", "size", "slope", "word", "few"] (defScope s__law_is_word_right) := ⟨rfl, rfl, rfl, by decide +kernel, rfl, by decide +kernel, by decide +kernel⟩
theorem der__law_is_word_right {P : Program} {w : World} {K : PySem.W.Frag} {mg : Str → Option Value} {base : Heap} {f : Addr} {cdv : Value} {A : Around} {outer : List PySem.Env} {s : Shared} {c : C} (bl : Bl mg) (C__law_bounds : Kn P w K mg base 5 "_law_bounds" ["field", "slope", "word"] S__law_bounds) (C__law_pairs : Kn P w K mg base 5 "_law_pairs" ["points", "bag", "field"] S__law_pairs) (C__law_points : Kn P w K mg base 5 "_law_points" ["bag", "field", "size", "bounds"] S__law_points) (C__law_is_less : Kn P w K mg base 5 "_law_is_less" ["one", "other", "d"] S__law_is_less) (C_height_between : Kn P w K mg base 5 "height_between" ["slope", "height", "other", "word"] S_height_between) (C__law_same : Kn P w K mg base 5 "_law_same" ["told", "due"] S__law_same) (K_height_between_other_word_height_slope : KnK P w K mg base 5 "height_between" ["slope", "height", "other", "word"] ["other", "word", "height", "slope"] [3, 2, 0, 1] S_height_between) (hG : IsLst c) (hgd : A.guards = some []) (hr : Room 5 (A.deeper (envOfC "_law_is_word_right" (defScope s__law_is_word_right) s.heap.objs.size f cdv))) : PSsd (XX P w K mg base N__law_is_word_right "_law_is_word_right" s__law_is_word_right f cdv A outer s c.H0) c (defBody s__law_is_word_right) g__law_is_word_right := by
  have hN : (XX P w K mg base N__law_is_word_right "_law_is_word_right" s__law_is_word_right f cdv A outer s c.H0).N.Nodup := sc__law_is_word_right.nd
  have hc : (XX P w K mg base N__law_is_word_right "_law_is_word_right" s__law_is_word_right f cdv A outer s c.H0).calm = true := rfl
  have hx : ∀ e s1, ¬ (XX P w K mg base N__law_is_word_right "_law_is_word_right" s__law_is_word_right f cdv A outer s c.H0).xe e s1 := fun _ _ z => z
  have hp : PassesOwn (model P w) (XX P w K mg base N__law_is_word_right "_law_is_word_right" s__law_is_word_right f cdv A outer s c.H0).A (XX P w K mg base N__law_is_word_right "_law_is_word_right" s__law_is_word_right f cdv A outer s c.H0).env (XX P w K mg base N__law_is_word_right "_law_is_word_right" s__law_is_word_right f cdv A outer s c.H0).xe := PassesOwn.never
  have hu : (XX P w K mg base N__law_is_word_right "_law_is_word_right" s__law_is_word_right f cdv A outer s c.H0).A.units + 64 < cLine := units_of hr
  have hu5 : (XX P w K mg base N__law_is_word_right "_law_is_word_right" s__law_is_word_right f cdv A outer s c.H0).A.units + 65 < cLine := units65 hr
  exact (ss_cons (s_set 6 hN (v_callX C__law_bounds hG hgd hr (a_cons (v_name 1) (a_cons (v_name 3) (a_cons (v_name 4) a_nil))))) (ss_cons (s_set 7 hN (PN.v (n_slL (PV.b (v_callX C__law_pairs hG hgd hr (a_cons (v_callX C__law_points hG hgd hr (a_bag 0 (a_cons (v_name 1) (a_cons (v_name 2) (a_cons (v_name 6) a_nil))))) (a_bag 0 (a_cons (v_name 1) a_nil))))) po_n (po_s (b_name 5))))) (ss_cons (s_for hp hc (i_enum bl.enumerate (v_bin o_add (b_name 7) (PV.b (PN.v (n_slL (b_name 7) po_n (po_s (PV.b v_int))))))) (g_sq hc (gs_cons (g_nm 8 hN) (gs_cons (g_sq hc (gs_cons (g_nm 9 hN) (gs_cons (g_nm 10 hN) gs_nil))) gs_nil))) (ss_cons (s_set 11 hN (v_and (PV.b (v_cmp o_notN (b_name 6) (PV.b v_non))) (v_one (v_callX C__law_is_less hG hgd hr (a_cons (v_ix (b_name 6) (PV.b v_int)) (a_cons (v_name 10) (a_cons (v_ix (b_name 1) (PV.b v_int)) a_nil))))))) (ss_cons (s_if (PWd.t (w_and (t_val (b_name 11)) (w_and1 (t_not (t_val (PV.b (v_callX C__law_is_less hG hgd hr (a_cons (v_name 9) (a_cons (v_ix (b_name 6) (PV.b v_int)) (a_cons (v_ix (b_name 1) (PV.b v_int)) a_nil)))))))))) (ss_one (s_set 11 hN v_bl)) ss_nil) (ss_cons (s_if (t_cmp (o_eq hu) (b_name 8) (PV.b v_int)) (ss_one (s_set 12 hN (v_callKX K_height_between_other_word_height_slope hG hgd hr (k_cons (v_name 10) (k_cons (v_name 4) (k_cons (v_name 9) (k_cons (v_name 3) k_nil))))))) (ss_one (s_set 12 hN (v_callX C_height_between hG hgd hr (a_cons (v_name 3) (a_cons (v_name 9) (a_cons (v_name 10) (a_cons (v_name 4) a_nil)))))))) (ss_one (s_if (t_not (t_val (PV.b (v_callX C__law_same hG hgd hr (a_cons (v_name 12) (a_cons (v_name 11) a_nil)))))) (ss_one (s_ret v_bl)) ss_nil)))))) (ss_one (s_ret v_bl)))))
theorem ok__law_is_word_right {P : Program} {w : World} {K : PySem.W.Frag} {mg : Str → Option Value} {base : Heap} {f : Addr} {fd : FuncData} (F : Fun K "_law_is_word_right" "_law_is_word_right" s__law_is_word_right f fd) (bl : Bl mg) (C__law_bounds : Kn P w K mg base 5 "_law_bounds" ["field", "slope", "word"] S__law_bounds) (C__law_pairs : Kn P w K mg base 5 "_law_pairs" ["points", "bag", "field"] S__law_pairs) (C__law_points : Kn P w K mg base 5 "_law_points" ["bag", "field", "size", "bounds"] S__law_points) (C__law_is_less : Kn P w K mg base 5 "_law_is_less" ["one", "other", "d"] S__law_is_less) (C_height_between : Kn P w K mg base 5 "height_between" ["slope", "height", "other", "word"] S_height_between) (C__law_same : Kn P w K mg base 5 "_law_same" ["told", "due"] S__law_same) (K_height_between_other_word_height_slope : KnK P w K mg base 5 "height_between" ["slope", "height", "other", "word"] ["other", "word", "height", "slope"] [3, 2, 0, 1] S_height_between) : FnG IsLst P w K mg base 6 f fd ["bag", "field", "size", "slope", "word", "few"] S__law_is_word_right :=
  fng_of F sc__law_is_word_right m__law_is_word_right l__law_is_word_right fun cdv A outer s c hG hgd hr => ⟨g__law_is_word_right, der__law_is_word_right bl C__law_bounds C__law_pairs C__law_points C__law_is_less C_height_between C__law_same K_height_between_other_word_height_slope hG hgd hr, r__law_is_word_right⟩
theorem sc__law_are_rows_right : FnScope N__law_are_rows_right ["field", "slope", "height", "others", "many", "is_named"] (defScope s__law_are_rows_right) := ⟨rfl, rfl, rfl, by decide +kernel, rfl, by decide +kernel, by decide +kernel⟩
theorem der__law_are_rows_right {P : Program} {w : World} {K : PySem.W.Frag} {mg : Str → Option Value} {base : Heap} {f : Addr} {cdv : Value} {A : Around} {outer : List PySem.Env} {s : Shared} {c : C} (bl : Bl mg) (C__law_letters : KnO P w K mg base 5 "_law_letters" ["field", "slope", "height", "many"] S__law_letters) (C_unlike_places : Kn P w K mg base 5 "unlike_places" ["slope", "height", "other", "many"] S_unlike_places) (C__law_same : Kn P w K mg base 5 "_law_same" ["told", "due"] S__law_same) (K_unlike_places_many_other_height_slope : KnK P w K mg base 5 "unlike_places" ["slope", "height", "other", "many"] ["many", "other", "height", "slope"] [3, 2, 1, 0] S_unlike_places) (hG : IsLst c) (hgd : A.guards = some []) (hr : Room 5 (A.deeper (envOfC "_law_are_rows_right" (defScope s__law_are_rows_right) s.heap.objs.size f cdv))) : PSsd (XX P w K mg base N__law_are_rows_right "_law_are_rows_right" s__law_are_rows_right f cdv A outer s c.H0) c (defBody s__law_are_rows_right) g__law_are_rows_right := by
  have hN : (XX P w K mg base N__law_are_rows_right "_law_are_rows_right" s__law_are_rows_right f cdv A outer s c.H0).N.Nodup := sc__law_are_rows_right.nd
  have hc : (XX P w K mg base N__law_are_rows_right "_law_are_rows_right" s__law_are_rows_right f cdv A outer s c.H0).calm = true := rfl
  have hx : ∀ e s1, ¬ (XX P w K mg base N__law_are_rows_right "_law_are_rows_right" s__law_are_rows_right f cdv A outer s c.H0).xe e s1 := fun _ _ z => z
  have hp : PassesOwn (model P w) (XX P w K mg base N__law_are_rows_right "_law_are_rows_right" s__law_are_rows_right f cdv A outer s c.H0).A (XX P w K mg base N__law_are_rows_right "_law_are_rows_right" s__law_are_rows_right f cdv A outer s c.H0).env (XX P w K mg base N__law_are_rows_right "_law_are_rows_right" s__law_are_rows_right f cdv A outer s c.H0).xe := PassesOwn.never
  have hu : (XX P w K mg base N__law_are_rows_right "_law_are_rows_right" s__law_are_rows_right f cdv A outer s c.H0).A.units + 64 < cLine := units_of hr
  have hu5 : (XX P w K mg base N__law_are_rows_right "_law_are_rows_right" s__law_are_rows_right f cdv A outer s c.H0).A.units + 65 < cLine := units65 hr
  exact (ss_cons (s_parG 6 7 hc hN (m_v (PN.v (n_callX C__law_letters hG hgd hr (a_cons (v_name 0) (a_cons (v_name 1) (a_cons (v_name 2) (a_cons (v_name 4) a_nil)))))) (m_n (n_lst d_nil) m_nil))) (ss_cons (s_for hp hc (i_seq (v_name 3)) (g_nm 8 hN) (ss_cons (s_set 9 hN (PN.v (n_callX C__law_letters hG hgd hr (a_cons (v_name 0) (a_cons (v_name 1) (a_cons (v_name 8) (a_cons (v_name 4) a_nil))))))) (ss_one (s_app 7 (PN.v (n_lst (d_cons (v_name 8) (d_cons (v_callT c_tuple bl.tuple (bb_cons (PV.b (PN.v (n_lc hc hN (own := [("n", 10)]) (by first | rfl | decide +kernel) (i_rng1 bl.range (b_name 4)) (fun _ _ _ _ _ => (g_nm 10 (by exact hN))) (fun _ _ _ _ _ => (ts_one (t_cmp (o_ne (by exact (by exact hu))) (PV.b (v_ix (b_name 6) (b_name 10))) (PV.b (v_ix (b_name 9) (b_name 10)))))) (fun _ _ _ _ _ => (v_name 10))))) bb_nil)) d_nil)))))))) (ss_cons (s_for hp hc (i_seq (v_bin o_add (b_name 7) (PV.b (PN.v (n_slL (b_name 7) po_n (po_s (PV.b v_int))))))) (g_sq hc (gs_cons (g_nm 8 hN) (gs_cons (g_nm 11 hN) gs_nil))) (ss_cons (s_if (t_val (b_name 5)) (ss_one (s_set 12 hN (v_callKX K_unlike_places_many_other_height_slope hG hgd hr (k_cons (v_name 4) (k_cons (v_name 8) (k_cons (v_name 2) (k_cons (v_name 1) k_nil))))))) (ss_one (s_set 12 hN (v_callX C_unlike_places hG hgd hr (a_cons (v_name 1) (a_cons (v_name 2) (a_cons (v_name 8) (a_cons (v_name 4) a_nil)))))))) (ss_one (s_if (t_not (t_val (PV.b (v_callX C__law_same hG hgd hr (a_cons (v_name 12) (a_cons (v_name 11) a_nil)))))) (ss_one (s_ret v_bl)) ss_nil)))) (ss_one (s_ret v_bl)))))
theorem ok__law_are_rows_right {P : Program} {w : World} {K : PySem.W.Frag} {mg : Str → Option Value} {base : Heap} {f : Addr} {fd : FuncData} (F : Fun K "_law_are_rows_right" "_law_are_rows_right" s__law_are_rows_right f fd) (bl : Bl mg) (C__law_letters : KnO P w K mg base 5 "_law_letters" ["field", "slope", "height", "many"] S__law_letters) (C_unlike_places : Kn P w K mg base 5 "unlike_places" ["slope", "height", "other", "many"] S_unlike_places) (C__law_same : Kn P w K mg base 5 "_law_same" ["told", "due"] S__law_same) (K_unlike_places_many_other_height_slope : KnK P w K mg base 5 "unlike_places" ["slope", "height", "other", "many"] ["many", "other", "height", "slope"] [3, 2, 1, 0] S_unlike_places) : FnG IsLst P w K mg base 6 f fd ["field", "slope", "height", "others", "many", "is_named"] S__law_are_rows_right :=
  fng_of F sc__law_are_rows_right m__law_are_rows_right l__law_are_rows_right fun cdv A outer s c hG hgd hr => ⟨g__law_are_rows_right, der__law_are_rows_right bl C__law_letters C_unlike_places C__law_same K_unlike_places_many_other_height_slope hG hgd hr, r__law_are_rows_right⟩
theorem sc__law_are_words_right : FnScope N__law_are_words_right ["bag", "field", "size", "slope", "second"] (defScope s__law_are_words_right) := ⟨rfl, rfl, rfl, by decide +kernel, rfl, by decide +kernel, by decide +kernel⟩
theorem der__law_are_words_right {P : Program} {w : World} {K : PySem.W.Frag} {mg : Str → Option Value} {base : Heap} {f : Addr} {cdv : Value} {A : Around} {outer : List PySem.Env} {s : Shared} {c : C} (bl : Bl mg) (C__law_word : Kn P w K mg base 6 "_law_word" ["bag", "field", "size", "slope"] S__law_word) (C__law_is_word_right : Kn P w K mg base 6 "_law_is_word_right" ["bag", "field", "size", "slope", "word", "few"] S__law_is_word_right) (hG : IsLst c) (hgd : A.guards = some []) (hr : Room 6 (A.deeper (envOfC "_law_are_words_right" (defScope s__law_are_words_right) s.heap.objs.size f cdv))) : PSsd (XX P w K mg base N__law_are_words_right "_law_are_words_right" s__law_are_words_right f cdv A outer s c.H0) c (defBody s__law_are_words_right) g__law_are_words_right := by
  have hN : (XX P w K mg base N__law_are_words_right "_law_are_words_right" s__law_are_words_right f cdv A outer s c.H0).N.Nodup := sc__law_are_words_right.nd
  have hc : (XX P w K mg base N__law_are_words_right "_law_are_words_right" s__law_are_words_right f cdv A outer s c.H0).calm = true := rfl
  have hx : ∀ e s1, ¬ (XX P w K mg base N__law_are_words_right "_law_are_words_right" s__law_are_words_right f cdv A outer s c.H0).xe e s1 := fun _ _ z => z
  have hp : PassesOwn (model P w) (XX P w K mg base N__law_are_words_right "_law_are_words_right" s__law_are_words_right f cdv A outer s c.H0).A (XX P w K mg base N__law_are_words_right "_law_are_words_right" s__law_are_words_right f cdv A outer s c.H0).env (XX P w K mg base N__law_are_words_right "_law_are_words_right" s__law_are_words_right f cdv A outer s c.H0).xe := PassesOwn.never
  have hu : (XX P w K mg base N__law_are_words_right "_law_are_words_right" s__law_are_words_right f cdv A outer s c.H0).A.units + 64 < cLine := units_of hr
  have hu5 : (XX P w K mg base N__law_are_words_right "_law_are_words_right" s__law_are_words_right f cdv A outer s c.H0).A.units + 65 < cLine := units65 hr
  exact (ss_cons (s_par 5 6 hc hN (m_v (v_callT c_tuple bl.tuple (bb_cons (PV.b (v_callX C__law_word hG hgd hr (a_bag 0 (a_cons (v_name 1) (a_cons (v_name 2) (a_cons (v_name 3) a_nil)))))) bb_nil)) (m_v (v_callT c_tuple bl.tuple (bb_cons (PV.b (PN.v (n_slL (PV.b (v_callX C__law_word hG hgd hr (a_bag 0 (a_cons (v_name 1) (a_cons (v_name 2) (a_cons (v_name 4) a_nil)))))) po_n (po_s (PV.b v_int))))) bb_nil)) m_nil))) (ss_cons (s_set 7 hN (v_if (t_cmp o_gt (PV.b (v_callB c_len bl.len (bb_cons (b_name 5) bb_nil))) (PV.b v_int)) v_int v_int)) (ss_cons (s_set 8 hN (PN.v (n_lst (d_cons (v_tup (d_cons (v_name 3) (d_cons (v_name 5) (d_cons (v_name 7) d_nil)))) (d_cons (v_tup (d_cons (v_name 4) (d_cons (v_name 6) (d_cons v_int d_nil)))) (d_cons (v_tup (d_cons (v_name 4) (d_cons (v_slT (b_name 5) po_n (po_s (PV.b v_int))) (d_cons v_int d_nil)))) (d_cons (v_tup (d_cons (v_name 3) (d_cons (v_name 6) (d_cons v_int d_nil)))) (d_cons (v_tup (d_cons (v_name 3) (d_cons (v_name 5) (d_cons v_int d_nil)))) d_nil)))))))) (ss_cons (s_set 9 hN (v_callB (c_repr hgd hu) bl.repr (bb_cons (PV.b (PN.v (n_lst (d_cons (v_name 3) (d_cons (v_name 4) (d_cons (v_name 5) (d_cons (v_name 6) d_nil))))))) bb_nil))) (ss_cons (s_for hp hc (i_seq (v_name 8)) (g_sq hc (gs_cons (g_nm 10 hN) (gs_cons (g_nm 11 hN) (gs_cons (g_nm 12 hN) gs_nil)))) (ss_one (s_if (t_not (t_val (PV.b (v_callX C__law_is_word_right hG hgd hr (a_bag 0 (a_cons (v_name 1) (a_cons (v_name 2) (a_cons (v_name 10) (a_cons (v_name 11) (a_cons (v_name 12) a_nil)))))))))) (ss_one (s_ret v_bl)) ss_nil))) (ss_one (s_ret (v_cmp (o_eq hu) (PV.b (v_callB (c_repr hgd hu) bl.repr (bb_cons (PV.b (PN.v (n_lst (d_cons (v_name 3) (d_cons (v_name 4) (d_cons (v_name 5) (d_cons (v_name 6) d_nil))))))) bb_nil))) (b_name 9)))))))))
theorem ok__law_are_words_right {P : Program} {w : World} {K : PySem.W.Frag} {mg : Str → Option Value} {base : Heap} {f : Addr} {fd : FuncData} (F : Fun K "_law_are_words_right" "_law_are_words_right" s__law_are_words_right f fd) (bl : Bl mg) (C__law_word : Kn P w K mg base 6 "_law_word" ["bag", "field", "size", "slope"] S__law_word) (C__law_is_word_right : Kn P w K mg base 6 "_law_is_word_right" ["bag", "field", "size", "slope", "word", "few"] S__law_is_word_right) : FnG IsLst P w K mg base 7 f fd ["bag", "field", "size", "slope", "second"] S__law_are_words_right :=
  fng_of F sc__law_are_words_right m__law_are_words_right l__law_are_words_right fun cdv A outer s c hG hgd hr => ⟨g__law_are_words_right, der__law_are_words_right bl C__law_word C__law_is_word_right hG hgd hr, r__law_are_words_right⟩
theorem sc_law : FnScope N_law ["script"] (defScope s_law) := ⟨rfl, rfl, rfl, by decide +kernel, rfl, by decide +kernel, by decide +kernel⟩
theorem sc__law_draw : FnScope ["bag", "below", "cell", "found"] ["bag", "below"] (defScope s__law_draw) := ⟨rfl, rfl, rfl, by decide +kernel, rfl, by decide +kernel, by decide +kernel⟩
theorem der__law_draw {P : Program} {w : World} {K : PySem.W.Frag} {mg : Str → Option Value} {base : Heap} {f : Addr} {cdv : Value} {A : Around} {outer : List PySem.Env} {s : Shared} {c : C} (bl : Bl mg) (hr : Room 0 (A.deeper (envOfC "_law_draw" (defScope s__law_draw) s.heap.objs.size f cdv))) : PSs (XX P w K mg base ["bag", "below", "cell", "found"] "_law_draw" s__law_draw f cdv A outer s c.H0) (defBody s__law_draw) (tDraw 48271 11 7) := by
  have hN : (XX P w K mg base ["bag", "below", "cell", "found"] "_law_draw" s__law_draw f cdv A outer s c.H0).N.Nodup := sc__law_draw.nd
  have hp : PassesOwn (model P w) (XX P w K mg base ["bag", "below", "cell", "found"] "_law_draw" s__law_draw f cdv A outer s c.H0).A (XX P w K mg base ["bag", "below", "cell", "found"] "_law_draw" s__law_draw f cdv A outer s c.H0).env (XX P w K mg base ["bag", "below", "cell", "found"] "_law_draw" s__law_draw f cdv A outer s c.H0).xe := PassesOwn.never
  have hu : (XX P w K mg base ["bag", "below", "cell", "found"] "_law_draw" s__law_draw f cdv A outer s c.H0).A.units + 64 < cLine := units_of hr
  have w1 : ∀ (σ : L2.St) (H : Hp) (b : Bool) (Q : Bool → Hp → Prop), (∃ x y, rNm 2 σ H x ∧ rPow (rK 10) (rK 9) σ H y ∧ b = gGtI x y) → Q b H → tIt gGtI (rNm 2) (rPow (rK 10) (rK 9)) σ H Q := fun σ H b Q ⟨x, y, h1, h2, e⟩ q => ⟨x, y, h1, h2, e ▸ q⟩
  exact pss_cons (ps_while hp (PW.pt (pw_and (pt_i iop_eq (pi_bag 0) pi_c) (pw_and1 (pt_full 0 hu)))) (pss_cons (ps_bagPop 0 2 hN) (pss_one (ps_bag 0 (pi_if (pt_i op_gt (pi_nm 2) (pi_bin op_pow pi_c pi_c)) w1 (pi_nm 2) pi_c)))))
    (pss_cons (ps_if (pt_i op_gt (pi_bag 0) pi_c) (pss_cons (ps_setI 3 hN (pi_bin op_mod (pi_bag 0) (pi_nm 1))) (pss_cons (ps_bag 0 (pi_bin iop_div (pi_bag 0) (pi_nm 1))) (pss_one (ps_retI (pi_nm 3))))) pss_nil)
    (pss_cons (ps_bag 0 (pi_bin op_mod (pi_bin iop_add (pi_bin op_mulW (pi_bag 0) pi_c) pi_c) pi_c)) (pss_one (ps_retI (pi_bin op_mod (pi_bin iop_div (pi_bin op_mod (pi_bin op_mulW (pi_bag 0) (pi_bag 0)) pi_c) pi_c) (pi_nm 1))))))
theorem ok__law_draw {P : Program} {w : World} {K : PySem.W.Frag} {mg : Str → Option Value} {base : Heap} {f : Addr} {fd : FuncData} (F : Fun K "_law_draw" "_law_draw" s__law_draw f fd) (bl : Bl mg) : FnG IsLst P w K mg base 1 f fd ["bag", "below"] S__law_draw :=
  fng_of F sc__law_draw spDraw_mono spDraw_len fun cdv A outer s c hG hgd hr => ⟨gDraw, draw_ss (a := 48271) (b := 11) (q := 7) hG (by decide) (by decide) (by decide) (der__law_draw (c := c) bl hr), spDraw_go rfl⟩
theorem der_law {P : Program} {w : World} {K : PySem.W.Frag} {mg : Str → Option Value} {base : Heap} {f : Addr} {cdv : Value} {s : Shared} {H : Hp} {c : C} (bl : Bl mg) (C__law_pick : Kn P w K mg base 7 "_law_pick" ["bag", "some"] S__law_pick) (C__law_field : Kn P w K mg base 7 "_law_field" ["bag"] S__law_field) (C__law_slope : Kn P w K mg base 7 "_law_slope" ["bag", "field", "size"] S__law_slope) (C__law_height : Kn P w K mg base 7 "_law_height" ["bag", "field", "size"] S__law_height) (C__law_moved : Kn P w K mg base 7 "_law_moved" ["slope", "height", "n", "more"] S__law_moved) (C__law_draw : Kn P w K mg base 7 "_law_draw" ["bag", "below"] S__law_draw) (C__law_is_small : Kn P w K mg base 7 "_law_is_small" ["surd"] S__law_is_small) (C__law_near : Kn P w K mg base 7 "_law_near" ["bag", "slope", "height"] S__law_near) (C__law_are_rows_right : Kn P w K mg base 7 "_law_are_rows_right" ["field", "slope", "height", "others", "many", "is_named"] S__law_are_rows_right) (C__law_is_moved_right : Kn P w K mg base 7 "_law_is_moved_right" ["bag", "field", "slope", "height", "is_named"] S__law_is_moved_right) (C__law_are_words_right : Kn P w K mg base 7 "_law_are_words_right" ["bag", "field", "size", "slope", "second"] S__law_are_words_right) (hG : IsLst c) (hr : Room 7 (callerA.deeper (envOfC "law" (defScope s_law) s.heap.objs.size f cdv))) : PSsd (XX P w K mg base N_law "law" s_law f cdv callerA [] s H) c (defBody s_law).tail g_law := by
  have hN : (XX P w K mg base N_law "law" s_law f cdv callerA [] s H).N.Nodup := sc_law.nd
  have hc : (XX P w K mg base N_law "law" s_law f cdv callerA [] s H).calm = true := rfl
  have hx : ∀ e s1, ¬ (XX P w K mg base N_law "law" s_law f cdv callerA [] s H).xe e s1 := fun _ _ z => z
  have hgd : (XX P w K mg base N_law "law" s_law f cdv callerA [] s H).A.guards = some [] := rfl
  have hp : PassesOwn (model P w) (XX P w K mg base N_law "law" s_law f cdv callerA [] s H).A (XX P w K mg base N_law "law" s_law f cdv callerA [] s H).env (XX P w K mg base N_law "law" s_law f cdv callerA [] s H).xe := PassesOwn.never
  have hu : (XX P w K mg base N_law "law" s_law f cdv callerA [] s H).A.units + 64 < cLine := units_of hr
  have hu5 : (XX P w K mg base N_law "law" s_law f cdv callerA [] s H).A.units + 65 < cLine := units65 hr
  exact (ss_cons (s_par 2 3 hc hN (m_v (v_callX C__law_field hG hgd hr (a_bag 1 a_nil)) (m_v (v_callX C__law_pick hG hgd hr (a_bag 1 (a_cons (PN.v (n_lst (d_cons v_int (d_cons v_int (d_cons v_int (d_cons (v_bin o_pow (PV.b v_int) (PV.b v_int)) (d_cons (v_bin o_pow (PV.b v_int) (PV.b v_int)) d_nil))))))) a_nil))) m_nil))) (ss_cons (s_par 4 5 hc hN (m_v (v_callX C__law_slope hG hgd hr (a_bag 1 (a_cons (v_name 2) (a_cons (v_name 3) a_nil)))) (m_v (v_callX C__law_slope hG hgd hr (a_bag 1 (a_cons (v_name 2) (a_cons (v_name 3) a_nil)))) m_nil))) (ss_cons (s_par 6 7 hc hN (m_v (v_callX C__law_height hG hgd hr (a_bag 1 (a_cons (v_name 2) (a_cons (v_name 3) a_nil)))) (m_v (v_callX C__law_height hG hgd hr (a_bag 1 (a_cons (v_name 2) (a_cons (v_name 3) a_nil)))) m_nil))) (ss_cons (s_set 8 hN (v_callX C__law_moved hG hgd hr (a_cons (v_name 4) (a_cons (v_tup (d_cons v_int (d_cons v_int (d_cons v_int (d_cons v_int d_nil))))) (a_cons (v_neg (PV.b (v_callX C__law_draw hG hgd hr (a_bag 1 (a_cons v_int a_nil))))) (a_cons (v_callX C__law_draw hG hgd hr (a_bag 1 (a_cons v_int a_nil))) a_nil)))))) (ss_cons (s_set 8 hN (v_if (t_val (PV.b (v_callX C__law_is_small hG hgd hr (a_cons (v_name 8) a_nil)))) (v_name 8) (v_tup (d_cons v_int (d_cons v_int (d_cons v_int (d_cons v_int d_nil))))))) (ss_cons (s_set 9 hN (v_callX C__law_near hG hgd hr (a_bag 1 (a_cons (v_name 4) (a_cons (v_name 6) a_nil))))) (ss_cons (s_set 10 hN (v_callX C__law_pick hG hgd hr (a_bag 1 (a_cons (PN.v (n_lst (d_cons v_int (d_cons v_int (d_cons v_int (d_cons v_int (d_cons (v_bin o_add (PV.b v_int) (PV.b (v_callX C__law_draw hG hgd hr (a_bag 1 (a_cons v_int a_nil))))) (d_cons (v_bin o_add (PV.b v_int) (PV.b (v_callX C__law_draw hG hgd hr (a_bag 1 (a_cons v_int a_nil))))) d_nil)))))))) a_nil)))) (ss_cons (s_set 11 hN (v_if (t_cmp (o_eq hu) (PV.b (v_callX C__law_draw hG hgd hr (a_bag 1 (a_cons v_int a_nil)))) (PV.b v_int)) (v_bin o_add (PV.b v_int) (PV.b (v_callX C__law_draw hG hgd hr (a_bag 1 (a_cons v_int a_nil))))) v_int)) (ss_cons (s_set 12 hN (v_callB (c_repr hgd hu) bl.repr (bb_cons (PV.b (PN.v (n_lst (d_cons (v_name 4) (d_cons (v_name 5) (d_cons (v_name 6) (d_cons (v_name 7) (d_cons (v_name 8) (d_cons (v_name 9) d_nil))))))))) bb_nil))) (ss_cons (s_if (t_not (t_val (PV.b (v_callX C__law_are_rows_right hG hgd hr (a_cons (v_name 2) (a_cons (v_name 4) (a_cons (v_name 6) (a_cons (PN.v (n_lst (d_cons (v_name 7) (d_cons (v_name 9) (d_cons (v_name 8) d_nil))))) (a_cons (v_name 10) (a_cons v_bl a_nil)))))))))) (ss_one (s_ret v_bl)) ss_nil) (ss_cons (s_if (t_not (t_val (PV.b (v_callX C__law_are_rows_right hG hgd hr (a_cons (v_name 2) (a_cons (v_name 5) (a_cons (v_name 6) (a_cons (PN.v (n_lst (d_cons (v_name 7) (d_cons (v_name 8) d_nil)))) (a_cons v_int (a_cons v_bl a_nil)))))))))) (ss_one (s_ret v_bl)) ss_nil) (ss_cons (s_if (t_not (t_val (PV.b (v_callX C__law_are_rows_right hG hgd hr (a_cons (v_name 2) (a_cons (v_name 4) (a_cons (v_callX C__law_pick hG hgd hr (a_bag 1 (a_cons (PN.v (n_lst (d_cons (v_name 6) (d_cons (v_name 8) d_nil)))) a_nil))) (a_cons (PN.v (n_lst (d_cons (v_name 9) d_nil))) (a_cons (v_name 11) (a_cons v_bl a_nil)))))))))) (ss_one (s_ret v_bl)) ss_nil) (ss_cons (s_if (t_not (t_val (PV.b (v_callX C__law_is_moved_right hG hgd hr (a_bag 1 (a_cons (v_name 2) (a_cons (v_name 4) (a_cons (v_name 6) (a_cons v_bl a_nil))))))))) (ss_one (s_ret v_bl)) ss_nil) (ss_cons (s_if (t_not (t_val (PV.b (v_callX C__law_is_moved_right hG hgd hr (a_bag 1 (a_cons (v_name 2) (a_cons (v_name 5) (a_cons (v_name 6) (a_cons v_bl a_nil))))))))) (ss_one (s_ret v_bl)) ss_nil) (ss_cons (s_if (t_not (t_val (PV.b (v_callX C__law_is_moved_right hG hgd hr (a_bag 1 (a_cons (v_name 2) (a_cons (v_name 4) (a_cons (v_name 8) (a_cons v_bl a_nil))))))))) (ss_one (s_ret v_bl)) ss_nil) (ss_cons (s_if (t_not (t_val (PV.b (v_callX C__law_are_words_right hG hgd hr (a_bag 1 (a_cons (v_name 2) (a_cons (v_name 3) (a_cons (v_name 4) (a_cons (v_name 5) a_nil))))))))) (ss_one (s_ret v_bl)) ss_nil) (ss_one (s_ret (v_cmp (o_eq hu) (PV.b (v_callB (c_repr hgd hu) bl.repr (bb_cons (PV.b (PN.v (n_lst (d_cons (v_name 4) (d_cons (v_name 5) (d_cons (v_name 6) (d_cons (v_name 7) (d_cons (v_name 8) (d_cons (v_name 9) d_nil))))))))) bb_nil))) (b_name 12))))))))))))))))))))
theorem ok_law {P : Program} {w : World} {K : PySem.W.Frag} {mg : Str → Option Value} {base : Heap} {f fO : Addr} {fd fdO : FuncData} (F : Fun K "law" "law" s_law f fd) (bl : Bl mg) (FO : FnG (GOwn K) P w K mg base 7 fO fdO ["script"] S__law_own_bag) (gO : mg "_law_own_bag" = some (.ref fO)) (kO : PySem.W.keepIn K (.ref fO) = true) (bO : Binds K fdO ["script"] []) (C__law_pick : Kn P w K mg base 7 "_law_pick" ["bag", "some"] S__law_pick) (C__law_field : Kn P w K mg base 7 "_law_field" ["bag"] S__law_field) (C__law_slope : Kn P w K mg base 7 "_law_slope" ["bag", "field", "size"] S__law_slope) (C__law_height : Kn P w K mg base 7 "_law_height" ["bag", "field", "size"] S__law_height) (C__law_moved : Kn P w K mg base 7 "_law_moved" ["slope", "height", "n", "more"] S__law_moved) (C__law_draw : Kn P w K mg base 7 "_law_draw" ["bag", "below"] S__law_draw) (C__law_is_small : Kn P w K mg base 7 "_law_is_small" ["surd"] S__law_is_small) (C__law_near : Kn P w K mg base 7 "_law_near" ["bag", "slope", "height"] S__law_near) (C__law_are_rows_right : Kn P w K mg base 7 "_law_are_rows_right" ["field", "slope", "height", "others", "many", "is_named"] S__law_are_rows_right) (C__law_is_moved_right : Kn P w K mg base 7 "_law_is_moved_right" ["bag", "field", "slope", "height", "is_named"] S__law_is_moved_right) (C__law_are_words_right : Kn P w K mg base 7 "_law_are_words_right" ["bag", "field", "size", "slope", "second"] S__law_are_words_right) (hb : ∀ (s : Shared) (u : Value), BindsTo s fd ⟨[u], []⟩ [("script", u)]) : FnL P w K mg base f :=
  fnl_of (n := 11) (k := 7) F sc_law rfl ⟨rfl, by decide, by decide⟩ (fun cdv s H hr => law_ss (n := 11) (ps_set (i := 1) sc_law.nd rfl (by first | exact Or.inl rfl | exact Or.inr rfl) (pe_own FO rfl hr gO kO bO)) (fun c hG => der_law (c := c) bl C__law_pick C__law_field C__law_slope C__law_height C__law_moved C__law_draw C__law_is_small C__law_near C__law_are_rows_right C__law_is_moved_right C__law_are_words_right hG hr) r_law) hb
end T
end DL
namespace DL
namespace T
open PySem L2 PySem.Spec PyProof.Rows
/-! ### the head: facts by names -/
def dfOf (x : Str) (st : Stmt) : He.DefD := ⟨(x, none), x, x, defArgs st, defBody st, defScope st, [], []⟩
def fn : List He.DefD := ([dfOf "common" s_common, dfOf "whole_root" s_whole_root, dfOf "lowest" s_lowest, dfOf "surd_sum" s_surd_sum, dfOf "surd_times" s_surd_times, dfOf "surd_turned" s_surd_turned, dfOf "surd_sign" s_surd_sign, dfOf "surd_order" s_surd_order, dfOf "whole_part" s_whole_part, dfOf "whole_at" s_whole_at, dfOf "letters" s_letters, dfOf "unlike_places" s_unlike_places, dfOf "moved_row" s_moved_row, dfOf "height_between" s_height_between, dfOf "_law_own_bag" s__law_own_bag, dfOf "_law_draw" s__law_draw, dfOf "_law_pick" s__law_pick, dfOf "_law_same" s__law_same, dfOf "_law_whole_root" s__law_whole_root, dfOf "_law_times" s__law_times, dfOf "_law_field" s__law_field, dfOf "_law_shrunk" s__law_shrunk, dfOf "_law_slope" s__law_slope, dfOf "_law_height" s__law_height, dfOf "_law_moved" s__law_moved, dfOf "_law_is_small" s__law_is_small, dfOf "_law_near" s__law_near, dfOf "_law_letters" s__law_letters, dfOf "_law_sign" s__law_sign, dfOf "_law_is_less" s__law_is_less] : List He.DefD) ++ ([dfOf "_law_bounds" s__law_bounds, dfOf "_law_word" s__law_word, dfOf "_law_points" s__law_points, dfOf "_law_pairs" s__law_pairs, dfOf "_law_is_word_right" s__law_is_word_right, dfOf "_law_are_words_right" s__law_are_words_right, dfOf "_law_is_moved_right" s__law_is_moved_right, dfOf "_law_are_rows_right" s__law_are_rows_right, dfOf "law" s_law] : List He.DefD)
def fa : List He.Fa := ([.glo "common", .glo "whole_root", .glo "lowest", .glo "surd_sum", .glo "surd_times", .glo "surd_turned", .glo "surd_sign", .glo "surd_order", .glo "whole_part", .glo "whole_at", .glo "letters", .glo "unlike_places", .glo "moved_row", .glo "height_between", .glo "_law_own_bag", .glo "_law_draw", .glo "_law_pick", .glo "_law_same", .glo "_law_whole_root", .glo "_law_times", .glo "_law_field", .glo "_law_shrunk", .glo "_law_slope", .glo "_law_height", .glo "_law_moved", .glo "_law_is_small", .glo "_law_near", .glo "_law_letters", .glo "_law_sign", .glo "_law_is_less"] : List He.Fa) ++ ([.glo "_law_bounds", .glo "_law_word", .glo "_law_points", .glo "_law_pairs", .glo "_law_is_word_right", .glo "_law_are_words_right", .glo "_law_is_moved_right", .glo "_law_are_rows_right", .glo "law", .free "abs", .free "all", .free "bool", .free "enumerate", .free "int", .free "isinstance", .free "len", .free "list", .free "max", .free "min", .free "range", .free "repr", .free "reversed", .free "str", .free "tuple", .free "zip"] : List He.Fa)
abbrev R : PySem.W.OpenRow := PySem.W.OpenLaw.row PySem.Challenge.rw_linecuts_k43_whole_rows_apart
abbrev hk : PySem.W.Hook := He.hookD 4 fa fn
def ob (s : PySem.W.SharedT) : He.AlD := He.obsDG 4 fa fn (HandSHeadRun.getT s)
theorem ob_eq (s : PySem.W.SharedT) : ob s = hk.obs s.abs := He.obsDG_eq (HandSHeadRun.getT_eq s)
def loose : List PySem.Str := (["common", "whole_root", "lowest", "surd_sum", "surd_times", "surd_turned", "surd_sign", "surd_order", "whole_part", "whole_at", "letters", "unlike_places", "moved_row", "height_between", "_law_own_bag", "_law_draw", "_law_pick", "_law_same", "_law_whole_root", "_law_times", "_law_field", "_law_shrunk", "_law_slope", "_law_height", "_law_moved", "_law_is_small", "_law_near", "_law_letters", "_law_sign", "_law_is_less"] : List PySem.Str) ++ (["_law_bounds", "_law_word", "_law_points", "_law_pairs", "_law_is_word_right", "_law_are_words_right", "_law_is_moved_right", "_law_are_rows_right"] : List PySem.Str)
theorem run (w : World) : HandSHeadRun.RunEq R (PySem.W.view R.prog [44]) hk ob 20000 loose w := by
  intro os
  kernel_rfl
theorem facts {P : Program} {w : World} {K : PySem.W.Frag} {h : Heap} {mg : Str → Option Value} {f : Addr} (X : K.In h) (G : h.Ns mainGlobals mg) (hfa : mg ("law" : Str) = some (.ref f)) (c : He.SaysD fa fn K) : ∀ base : Heap, K.In base → base.Ns mainGlobals mg → FnL P w K mg base f := by
  have bl : Bl mg := ⟨He.free_ok X G (c.fact 39 (f := .free "abs") rfl), He.free_ok X G (c.fact 47 (f := .free "max") rfl), He.free_ok X G (c.fact 49 (f := .free "range") rfl), He.free_ok X G (c.fact 53 (f := .free "tuple") rfl), He.free_ok X G (c.fact 45 (f := .free "len") rfl), He.free_ok X G (c.fact 46 (f := .free "list") rfl), He.free_ok X G (c.fact 51 (f := .free "reversed") rfl), He.free_ok X G (c.fact 44 (f := .free "isinstance") rfl), He.free_ok X G (c.fact 52 (f := .free "str") rfl), He.free_ok X G (c.fact 43 (f := .free "int") rfl), He.free_ok X G (c.fact 41 (f := .free "bool") rfl), He.free_ok X G (c.fact 54 (f := .free "zip") rfl), He.free_ok X G (c.fact 40 (f := .free "all") rfl), He.free_ok X G (c.fact 42 (f := .free "enumerate") rfl), He.free_ok X G (c.fact 48 (f := .free "min") rfl), He.free_ok X G (c.fact 50 (f := .free "repr") rfl)⟩
  obtain ⟨fd__law_draw, F__law_draw⟩ := c.def_ 15 (d := dfOf "_law_draw" s__law_draw) rfl
  have z__law_draw := He.glo_ok X G (c.fact 15 (f := .glo "_law_draw") rfl)
  obtain ⟨fd_common, F_common⟩ := c.def_ 0 (d := dfOf "common" s_common) rfl
  have z_common := He.glo_ok X G (c.fact 0 (f := .glo "common") rfl)
  obtain ⟨fd_whole_root, F_whole_root⟩ := c.def_ 1 (d := dfOf "whole_root" s_whole_root) rfl
  have z_whole_root := He.glo_ok X G (c.fact 1 (f := .glo "whole_root") rfl)
  obtain ⟨fd_surd_turned, F_surd_turned⟩ := c.def_ 5 (d := dfOf "surd_turned" s_surd_turned) rfl
  have z_surd_turned := He.glo_ok X G (c.fact 5 (f := .glo "surd_turned") rfl)
  obtain ⟨fd_surd_sign, F_surd_sign⟩ := c.def_ 6 (d := dfOf "surd_sign" s_surd_sign) rfl
  have z_surd_sign := He.glo_ok X G (c.fact 6 (f := .glo "surd_sign") rfl)
  obtain ⟨fd__law_own_bag, F__law_own_bag⟩ := c.def_ 14 (d := dfOf "_law_own_bag" s__law_own_bag) rfl
  have z__law_own_bag := He.glo_ok X G (c.fact 14 (f := .glo "_law_own_bag") rfl)
  obtain ⟨fd__law_whole_root, F__law_whole_root⟩ := c.def_ 18 (d := dfOf "_law_whole_root" s__law_whole_root) rfl
  have z__law_whole_root := He.glo_ok X G (c.fact 18 (f := .glo "_law_whole_root") rfl)
  obtain ⟨fd__law_times, F__law_times⟩ := c.def_ 19 (d := dfOf "_law_times" s__law_times) rfl
  have z__law_times := He.glo_ok X G (c.fact 19 (f := .glo "_law_times") rfl)
  obtain ⟨fd__law_shrunk, F__law_shrunk⟩ := c.def_ 21 (d := dfOf "_law_shrunk" s__law_shrunk) rfl
  have z__law_shrunk := He.glo_ok X G (c.fact 21 (f := .glo "_law_shrunk") rfl)
  obtain ⟨fd__law_is_small, F__law_is_small⟩ := c.def_ 25 (d := dfOf "_law_is_small" s__law_is_small) rfl
  have z__law_is_small := He.glo_ok X G (c.fact 25 (f := .glo "_law_is_small") rfl)
  obtain ⟨fd__law_sign, F__law_sign⟩ := c.def_ 28 (d := dfOf "_law_sign" s__law_sign) rfl
  have z__law_sign := He.glo_ok X G (c.fact 28 (f := .glo "_law_sign") rfl)
  obtain ⟨fd_lowest, F_lowest⟩ := c.def_ 2 (d := dfOf "lowest" s_lowest) rfl
  have z_lowest := He.glo_ok X G (c.fact 2 (f := .glo "lowest") rfl)
  obtain ⟨fd_whole_part, F_whole_part⟩ := c.def_ 8 (d := dfOf "whole_part" s_whole_part) rfl
  have z_whole_part := He.glo_ok X G (c.fact 8 (f := .glo "whole_part") rfl)
  obtain ⟨fd__law_pick, F__law_pick⟩ := c.def_ 16 (d := dfOf "_law_pick" s__law_pick) rfl
  have z__law_pick := He.glo_ok X G (c.fact 16 (f := .glo "_law_pick") rfl)
  obtain ⟨fd__law_slope, F__law_slope⟩ := c.def_ 22 (d := dfOf "_law_slope" s__law_slope) rfl
  have z__law_slope := He.glo_ok X G (c.fact 22 (f := .glo "_law_slope") rfl)
  obtain ⟨fd__law_height, F__law_height⟩ := c.def_ 23 (d := dfOf "_law_height" s__law_height) rfl
  have z__law_height := He.glo_ok X G (c.fact 23 (f := .glo "_law_height") rfl)
  obtain ⟨fd__law_moved, F__law_moved⟩ := c.def_ 24 (d := dfOf "_law_moved" s__law_moved) rfl
  have z__law_moved := He.glo_ok X G (c.fact 24 (f := .glo "_law_moved") rfl)
  obtain ⟨fd__law_letters, F__law_letters⟩ := c.def_ 27 (d := dfOf "_law_letters" s__law_letters) rfl
  have z__law_letters := He.glo_ok X G (c.fact 27 (f := .glo "_law_letters") rfl)
  obtain ⟨fd__law_is_less, F__law_is_less⟩ := c.def_ 29 (d := dfOf "_law_is_less" s__law_is_less) rfl
  have z__law_is_less := He.glo_ok X G (c.fact 29 (f := .glo "_law_is_less") rfl)
  obtain ⟨fd__law_bounds, F__law_bounds⟩ := c.def_ 30 (d := dfOf "_law_bounds" s__law_bounds) rfl
  have z__law_bounds := He.glo_ok X G (c.fact 30 (f := .glo "_law_bounds") rfl)
  obtain ⟨fd_surd_sum, F_surd_sum⟩ := c.def_ 3 (d := dfOf "surd_sum" s_surd_sum) rfl
  have z_surd_sum := He.glo_ok X G (c.fact 3 (f := .glo "surd_sum") rfl)
  obtain ⟨fd_surd_times, F_surd_times⟩ := c.def_ 4 (d := dfOf "surd_times" s_surd_times) rfl
  have z_surd_times := He.glo_ok X G (c.fact 4 (f := .glo "surd_times") rfl)
  obtain ⟨fd_whole_at, F_whole_at⟩ := c.def_ 9 (d := dfOf "whole_at" s_whole_at) rfl
  have z_whole_at := He.glo_ok X G (c.fact 9 (f := .glo "whole_at") rfl)
  obtain ⟨fd__law_field, F__law_field⟩ := c.def_ 20 (d := dfOf "_law_field" s__law_field) rfl
  have z__law_field := He.glo_ok X G (c.fact 20 (f := .glo "_law_field") rfl)
  obtain ⟨fd__law_near, F__law_near⟩ := c.def_ 26 (d := dfOf "_law_near" s__law_near) rfl
  have z__law_near := He.glo_ok X G (c.fact 26 (f := .glo "_law_near") rfl)
  obtain ⟨fd__law_word, F__law_word⟩ := c.def_ 31 (d := dfOf "_law_word" s__law_word) rfl
  have z__law_word := He.glo_ok X G (c.fact 31 (f := .glo "_law_word") rfl)
  obtain ⟨fd__law_points, F__law_points⟩ := c.def_ 32 (d := dfOf "_law_points" s__law_points) rfl
  have z__law_points := He.glo_ok X G (c.fact 32 (f := .glo "_law_points") rfl)
  obtain ⟨fd__law_pairs, F__law_pairs⟩ := c.def_ 33 (d := dfOf "_law_pairs" s__law_pairs) rfl
  have z__law_pairs := He.glo_ok X G (c.fact 33 (f := .glo "_law_pairs") rfl)
  obtain ⟨fd_surd_order, F_surd_order⟩ := c.def_ 7 (d := dfOf "surd_order" s_surd_order) rfl
  have z_surd_order := He.glo_ok X G (c.fact 7 (f := .glo "surd_order") rfl)
  obtain ⟨fd_letters, F_letters⟩ := c.def_ 10 (d := dfOf "letters" s_letters) rfl
  have z_letters := He.glo_ok X G (c.fact 10 (f := .glo "letters") rfl)
  obtain ⟨fd_moved_row, F_moved_row⟩ := c.def_ 12 (d := dfOf "moved_row" s_moved_row) rfl
  have z_moved_row := He.glo_ok X G (c.fact 12 (f := .glo "moved_row") rfl)
  obtain ⟨fd__law_same, F__law_same⟩ := c.def_ 17 (d := dfOf "_law_same" s__law_same) rfl
  have z__law_same := He.glo_ok X G (c.fact 17 (f := .glo "_law_same") rfl)
  obtain ⟨fd_unlike_places, F_unlike_places⟩ := c.def_ 11 (d := dfOf "unlike_places" s_unlike_places) rfl
  have z_unlike_places := He.glo_ok X G (c.fact 11 (f := .glo "unlike_places") rfl)
  obtain ⟨fd_height_between, F_height_between⟩ := c.def_ 13 (d := dfOf "height_between" s_height_between) rfl
  have z_height_between := He.glo_ok X G (c.fact 13 (f := .glo "height_between") rfl)
  obtain ⟨fd__law_is_moved_right, F__law_is_moved_right⟩ := c.def_ 36 (d := dfOf "_law_is_moved_right" s__law_is_moved_right) rfl
  have z__law_is_moved_right := He.glo_ok X G (c.fact 36 (f := .glo "_law_is_moved_right") rfl)
  obtain ⟨fd__law_is_word_right, F__law_is_word_right⟩ := c.def_ 34 (d := dfOf "_law_is_word_right" s__law_is_word_right) rfl
  have z__law_is_word_right := He.glo_ok X G (c.fact 34 (f := .glo "_law_is_word_right") rfl)
  obtain ⟨fd__law_are_rows_right, F__law_are_rows_right⟩ := c.def_ 37 (d := dfOf "_law_are_rows_right" s__law_are_rows_right) rfl
  have z__law_are_rows_right := He.glo_ok X G (c.fact 37 (f := .glo "_law_are_rows_right") rfl)
  obtain ⟨fd__law_are_words_right, F__law_are_words_right⟩ := c.def_ 35 (d := dfOf "_law_are_words_right" s__law_are_words_right) rfl
  have z__law_are_words_right := He.glo_ok X G (c.fact 35 (f := .glo "_law_are_words_right") rfl)
  obtain ⟨fd_law, F_law⟩ := c.def_ 38 (d := dfOf "law" s_law) rfl
  have e := hfa.symm.trans (He.glo_ok X G (c.fact 38 (f := .glo "law") rfl))
  cases e
  intro base _ _
  have b__law_draw : Binds K fd__law_draw ["bag", "below"] [] := F__law_draw.bindsN (fun _ _ _ _ _ _ us hl => match us, hl with | [_, _], _ => rfl)
  have O__law_draw := ok__law_draw (P := P) (w := w) (base := base) (fun_of F__law_draw) bl 
  have C__law_draw : Kn P w K mg base 1 "_law_draw" ["bag", "below"] S__law_draw := Kn.mk O__law_draw z__law_draw F__law_draw.kp b__law_draw
  have b_common : Binds K fd_common ["one", "other"] [] := F_common.bindsN (fun _ _ _ _ _ _ us hl => match us, hl with | [_, _], _ => rfl)
  have O_common := ok_common (P := P) (w := w) (base := base) (fun_of F_common) bl 
  have C_common : Kn P w K mg base 1 "common" ["one", "other"] S_common := Kn.mk O_common z_common F_common.kp b_common
  have b_whole_root : Binds K fd_whole_root ["number"] [] := F_whole_root.bindsN (fun _ _ _ _ _ _ us hl => match us, hl with | [_], _ => rfl)
  have O_whole_root := ok_whole_root (P := P) (w := w) (base := base) (fun_of F_whole_root) bl 
  have C_whole_root : Kn P w K mg base 1 "whole_root" ["number"] S_whole_root := Kn.mk O_whole_root z_whole_root F_whole_root.kp b_whole_root
  have b_surd_turned : Binds K fd_surd_turned ["one"] [] := F_surd_turned.bindsN (fun _ _ _ _ _ _ us hl => match us, hl with | [_], _ => rfl)
  have O_surd_turned := ok_surd_turned (P := P) (w := w) (base := base) (fun_of F_surd_turned) bl 
  have C_surd_turned : Kn P w K mg base 1 "surd_turned" ["one"] S_surd_turned := Kn.mk O_surd_turned z_surd_turned F_surd_turned.kp b_surd_turned
  have b_surd_sign : Binds K fd_surd_sign ["one"] [] := F_surd_sign.bindsN (fun _ _ _ _ _ _ us hl => match us, hl with | [_], _ => rfl)
  have O_surd_sign := ok_surd_sign (P := P) (w := w) (base := base) (fun_of F_surd_sign) bl 
  have C_surd_sign : Kn P w K mg base 1 "surd_sign" ["one"] S_surd_sign := Kn.mk O_surd_sign z_surd_sign F_surd_sign.kp b_surd_sign
  have b__law_own_bag : Binds K fd__law_own_bag ["script"] [] := F__law_own_bag.bindsN (fun _ _ _ _ _ _ us hl => match us, hl with | [_], _ => rfl)
  have O__law_own_bag := ok__law_own_bag (P := P) (w := w) (base := base) (fun_of F__law_own_bag) bl 
  have b__law_whole_root : Binds K fd__law_whole_root ["n"] [] := F__law_whole_root.bindsN (fun _ _ _ _ _ _ us hl => match us, hl with | [_], _ => rfl)
  have O__law_whole_root := ok__law_whole_root (P := P) (w := w) (base := base) (fun_of F__law_whole_root) bl 
  have C__law_whole_root : Kn P w K mg base 1 "_law_whole_root" ["n"] S__law_whole_root := Kn.mk O__law_whole_root z__law_whole_root F__law_whole_root.kp b__law_whole_root
  have b__law_times : Binds K fd__law_times ["field", "b"] [] := F__law_times.bindsN (fun _ _ _ _ _ _ us hl => match us, hl with | [_, _], _ => rfl)
  have O__law_times := ok__law_times (P := P) (w := w) (base := base) (fun_of F__law_times) bl 
  have C__law_times : Kn P w K mg base 1 "_law_times" ["field", "b"] S__law_times := Kn.mk O__law_times z__law_times F__law_times.kp b__law_times
  have b__law_shrunk : Binds K fd__law_shrunk ["a", "b", "c", "d"] [] := F__law_shrunk.bindsN (fun _ _ _ _ _ _ us hl => match us, hl with | [_, _, _, _], _ => rfl)
  have O__law_shrunk := ok__law_shrunk (P := P) (w := w) (base := base) (fun_of F__law_shrunk) bl 
  have C__law_shrunk : Kn P w K mg base 1 "_law_shrunk" ["a", "b", "c", "d"] S__law_shrunk := Kn.mk O__law_shrunk z__law_shrunk F__law_shrunk.kp b__law_shrunk
  have b__law_is_small : Binds K fd__law_is_small ["surd"] [] := F__law_is_small.bindsN (fun _ _ _ _ _ _ us hl => match us, hl with | [_], _ => rfl)
  have O__law_is_small := ok__law_is_small (P := P) (w := w) (base := base) (fun_of F__law_is_small) bl 
  have C__law_is_small : Kn P w K mg base 1 "_law_is_small" ["surd"] S__law_is_small := Kn.mk O__law_is_small z__law_is_small F__law_is_small.kp b__law_is_small
  have b__law_sign : Binds K fd__law_sign ["a", "b", "d"] [] := F__law_sign.bindsN (fun _ _ _ _ _ _ us hl => match us, hl with | [_, _, _], _ => rfl)
  have O__law_sign := ok__law_sign (P := P) (w := w) (base := base) (fun_of F__law_sign) bl 
  have C__law_sign : Kn P w K mg base 1 "_law_sign" ["a", "b", "d"] S__law_sign := Kn.mk O__law_sign z__law_sign F__law_sign.kp b__law_sign
  have b_lowest : Binds K fd_lowest ["a", "b", "c", "d"] [] := F_lowest.bindsN (fun _ _ _ _ _ _ us hl => match us, hl with | [_, _, _, _], _ => rfl)
  have O_lowest := ok_lowest (P := P) (w := w) (base := base) (fun_of F_lowest) bl (C_common.up (by decide))
  have C_lowest : Kn P w K mg base 2 "lowest" ["a", "b", "c", "d"] S_lowest := Kn.mk O_lowest z_lowest F_lowest.kp b_lowest
  have b_whole_part : Binds K fd_whole_part ["one"] [] := F_whole_part.bindsN (fun _ _ _ _ _ _ us hl => match us, hl with | [_], _ => rfl)
  have O_whole_part := ok_whole_part (P := P) (w := w) (base := base) (fun_of F_whole_part) bl (C_whole_root.up (by decide))
  have C_whole_part : Kn P w K mg base 2 "whole_part" ["one"] S_whole_part := Kn.mk O_whole_part z_whole_part F_whole_part.kp b_whole_part
  have b__law_pick : Binds K fd__law_pick ["bag", "some"] [] := F__law_pick.bindsN (fun _ _ _ _ _ _ us hl => match us, hl with | [_, _], _ => rfl)
  have O__law_pick := ok__law_pick (P := P) (w := w) (base := base) (fun_of F__law_pick) bl (C__law_draw.up (by decide))
  have C__law_pick : Kn P w K mg base 2 "_law_pick" ["bag", "some"] S__law_pick := Kn.mk O__law_pick z__law_pick F__law_pick.kp b__law_pick
  have b__law_slope : Binds K fd__law_slope ["bag", "field", "size"] [] := F__law_slope.bindsN (fun _ _ _ _ _ _ us hl => match us, hl with | [_, _, _], _ => rfl)
  have O__law_slope := ok__law_slope (P := P) (w := w) (base := base) (fun_of F__law_slope) bl (C__law_draw.up (by decide)) (C__law_shrunk.up (by decide)) (C__law_times.up (by decide))
  have C__law_slope : Kn P w K mg base 2 "_law_slope" ["bag", "field", "size"] S__law_slope := Kn.mk O__law_slope z__law_slope F__law_slope.kp b__law_slope
  have b__law_height : Binds K fd__law_height ["bag", "field", "size"] [] := F__law_height.bindsN (fun _ _ _ _ _ _ us hl => match us, hl with | [_, _, _], _ => rfl)
  have O__law_height := ok__law_height (P := P) (w := w) (base := base) (fun_of F__law_height) bl (C__law_draw.up (by decide)) (C__law_shrunk.up (by decide))
  have C__law_height : Kn P w K mg base 2 "_law_height" ["bag", "field", "size"] S__law_height := Kn.mk O__law_height z__law_height F__law_height.kp b__law_height
  have b__law_moved : Binds K fd__law_moved ["slope", "height", "n", "more"] [] := F__law_moved.bindsN (fun _ _ _ _ _ _ us hl => match us, hl with | [_, _, _, _], _ => rfl)
  have O__law_moved := ok__law_moved (P := P) (w := w) (base := base) (fun_of F__law_moved) bl (C__law_shrunk.up (by decide))
  have C__law_moved : Kn P w K mg base 2 "_law_moved" ["slope", "height", "n", "more"] S__law_moved := Kn.mk O__law_moved z__law_moved F__law_moved.kp b__law_moved
  have b__law_letters : Binds K fd__law_letters ["field", "slope", "height", "many"] [] := F__law_letters.bindsN (fun _ _ _ _ _ _ us hl => match us, hl with | [_, _, _, _], _ => rfl)
  have O__law_letters := ok__law_letters (P := P) (w := w) (base := base) (fun_of F__law_letters) bl (C__law_times.up (by decide))
  have C__law_letters : KnO P w K mg base 2 "_law_letters" ["field", "slope", "height", "many"] S__law_letters := KnO.mk O__law_letters z__law_letters F__law_letters.kp b__law_letters
  have b__law_is_less : Binds K fd__law_is_less ["one", "other", "d"] [] := F__law_is_less.bindsN (fun _ _ _ _ _ _ us hl => match us, hl with | [_, _, _], _ => rfl)
  have O__law_is_less := ok__law_is_less (P := P) (w := w) (base := base) (fun_of F__law_is_less) bl (C__law_sign.up (by decide))
  have C__law_is_less : Kn P w K mg base 2 "_law_is_less" ["one", "other", "d"] S__law_is_less := Kn.mk O__law_is_less z__law_is_less F__law_is_less.kp b__law_is_less
  have b__law_bounds : Binds K fd__law_bounds ["field", "slope", "word"] [] := F__law_bounds.bindsN (fun _ _ _ _ _ _ us hl => match us, hl with | [_, _, _], _ => rfl)
  have O__law_bounds := ok__law_bounds (P := P) (w := w) (base := base) (fun_of F__law_bounds) bl (C__law_sign.up (by decide)) (C__law_shrunk.up (by decide))
  have C__law_bounds : Kn P w K mg base 2 "_law_bounds" ["field", "slope", "word"] S__law_bounds := Kn.mk O__law_bounds z__law_bounds F__law_bounds.kp b__law_bounds
  have b_surd_sum : Binds K fd_surd_sum ["one", "other"] [] := F_surd_sum.bindsN (fun _ _ _ _ _ _ us hl => match us, hl with | [_, _], _ => rfl)
  have O_surd_sum := ok_surd_sum (P := P) (w := w) (base := base) (fun_of F_surd_sum) bl (C_lowest.up (by decide))
  have C_surd_sum : Kn P w K mg base 3 "surd_sum" ["one", "other"] S_surd_sum := Kn.mk O_surd_sum z_surd_sum F_surd_sum.kp b_surd_sum
  have b_surd_times : Binds K fd_surd_times ["one", "other"] [] := F_surd_times.bindsN (fun _ _ _ _ _ _ us hl => match us, hl with | [_, _], _ => rfl)
  have O_surd_times := ok_surd_times (P := P) (w := w) (base := base) (fun_of F_surd_times) bl (C_lowest.up (by decide))
  have C_surd_times : Kn P w K mg base 3 "surd_times" ["one", "other"] S_surd_times := Kn.mk O_surd_times z_surd_times F_surd_times.kp b_surd_times
  have b_whole_at : Binds K fd_whole_at ["slope", "height", "n"] [] := F_whole_at.bindsN (fun _ _ _ _ _ _ us hl => match us, hl with | [_, _, _], _ => rfl)
  have O_whole_at := ok_whole_at (P := P) (w := w) (base := base) (fun_of F_whole_at) bl (C_whole_part.up (by decide))
  have C_whole_at : Kn P w K mg base 3 "whole_at" ["slope", "height", "n"] S_whole_at := Kn.mk O_whole_at z_whole_at F_whole_at.kp b_whole_at
  have b__law_field : Binds K fd__law_field ["bag"] [] := F__law_field.bindsN (fun _ _ _ _ _ _ us hl => match us, hl with | [_], _ => rfl)
  have O__law_field := ok__law_field (P := P) (w := w) (base := base) (fun_of F__law_field) bl (C__law_draw.up (by decide)) (C__law_pick.up (by decide)) (C__law_whole_root.up (by decide))
  have C__law_field : Kn P w K mg base 3 "_law_field" ["bag"] S__law_field := Kn.mk O__law_field z__law_field F__law_field.kp b__law_field
  have b__law_near : Binds K fd__law_near ["bag", "slope", "height"] [] := F__law_near.bindsN (fun _ _ _ _ _ _ us hl => match us, hl with | [_, _, _], _ => rfl)
  have O__law_near := ok__law_near (P := P) (w := w) (base := base) (fun_of F__law_near) bl (C__law_pick.up (by decide)) (C__law_draw.up (by decide)) (C__law_moved.up (by decide)) (C__law_is_small.up (by decide))
  have C__law_near : Kn P w K mg base 3 "_law_near" ["bag", "slope", "height"] S__law_near := Kn.mk O__law_near z__law_near F__law_near.kp b__law_near
  have b__law_word : Binds K fd__law_word ["bag", "field", "size", "slope"] [] := F__law_word.bindsN (fun _ _ _ _ _ _ us hl => match us, hl with | [_, _, _, _], _ => rfl)
  have O__law_word := ok__law_word (P := P) (w := w) (base := base) (fun_of F__law_word) bl (C__law_draw.up (by decide)) (C__law_pick.up (by decide)) (C__law_slope.up (by decide)) (C__law_letters.up (by decide)) (C__law_height.up (by decide))
  have C__law_word : Kn P w K mg base 3 "_law_word" ["bag", "field", "size", "slope"] S__law_word := Kn.mk O__law_word z__law_word F__law_word.kp b__law_word
  have b__law_points : Binds K fd__law_points ["bag", "field", "size", "bounds"] [] := F__law_points.bindsN (fun _ _ _ _ _ _ us hl => match us, hl with | [_, _, _, _], _ => rfl)
  have O__law_points := ok__law_points (P := P) (w := w) (base := base) (fun_of F__law_points) bl (C__law_shrunk.up (by decide)) (C__law_slope.up (by decide)) (C__law_is_small.up (by decide))
  have C__law_points : Kn P w K mg base 3 "_law_points" ["bag", "field", "size", "bounds"] S__law_points := Kn.mk O__law_points z__law_points F__law_points.kp b__law_points
  have b__law_pairs : Binds K fd__law_pairs ["points", "bag", "field"] [] := F__law_pairs.bindsN (fun _ _ _ _ _ _ us hl => match us, hl with | [_, _, _], _ => rfl)
  have O__law_pairs := ok__law_pairs (P := P) (w := w) (base := base) (fun_of F__law_pairs) bl (C__law_draw.up (by decide)) (C__law_is_less.up (by decide))
  have C__law_pairs : Kn P w K mg base 3 "_law_pairs" ["points", "bag", "field"] S__law_pairs := Kn.mk O__law_pairs z__law_pairs F__law_pairs.kp b__law_pairs
  have b_surd_order : Binds K fd_surd_order ["one", "other"] [] := F_surd_order.bindsN (fun _ _ _ _ _ _ us hl => match us, hl with | [_, _], _ => rfl)
  have O_surd_order := ok_surd_order (P := P) (w := w) (base := base) (fun_of F_surd_order) bl (C_surd_sign.up (by decide)) (C_surd_sum.up (by decide)) (C_surd_turned.up (by decide))
  have C_surd_order : Kn P w K mg base 4 "surd_order" ["one", "other"] S_surd_order := Kn.mk O_surd_order z_surd_order F_surd_order.kp b_surd_order
  have b_letters : Binds K fd_letters ["slope", "height", "many"] [] := F_letters.bindsN (fun _ _ _ _ _ _ us hl => match us, hl with | [_, _, _], _ => rfl)
  have O_letters := ok_letters (P := P) (w := w) (base := base) (fun_of F_letters) bl (C_whole_at.up (by decide))
  have C_letters : Kn P w K mg base 4 "letters" ["slope", "height", "many"] S_letters := Kn.mk O_letters z_letters F_letters.kp b_letters
  have b_moved_row : Binds K fd_moved_row ["slope", "height", "n"] [] := F_moved_row.bindsN (fun _ _ _ _ _ _ us hl => match us, hl with | [_, _, _], _ => rfl)
  have O_moved_row := ok_moved_row (P := P) (w := w) (base := base) (fun_of F_moved_row) bl (C_surd_sum.up (by decide)) (C_surd_times.up (by decide)) (C_whole_part.up (by decide))
  have C_moved_row : Kn P w K mg base 4 "moved_row" ["slope", "height", "n"] S_moved_row := Kn.mk O_moved_row z_moved_row F_moved_row.kp b_moved_row
  have K_moved_row_n_slope_height := KnK.mk (ks := ["n", "slope", "height"]) (is := [1, 2, 0]) O_moved_row z_moved_row F_moved_row.kp (kwb_of (x := "moved_row") (qual := "moved_row") (st := s_moved_row) (fun_of F_moved_row) (fun _ _ _ _ _ _ ws hl => match ws, hl with | [_, _, _], _ => rfl))
  have b__law_same : Binds K fd__law_same ["told", "due"] [] := F__law_same.bindsN (fun _ _ _ _ _ _ us hl => match us, hl with | [_, _], _ => rfl)
  have O__law_same := ok__law_same (P := P) (w := w) (base := base) (fun_of F__law_same) bl z__law_same F__law_same.kp b__law_same  R__law_same
  have C__law_same : Kn P w K mg base 4 "_law_same" ["told", "due"] S__law_same := Kn.mk O__law_same z__law_same F__law_same.kp b__law_same
  have b_unlike_places : Binds K fd_unlike_places ["slope", "height", "other", "many"] [] := F_unlike_places.bindsN (fun _ _ _ _ _ _ us hl => match us, hl with | [_, _, _, _], _ => rfl)
  have O_unlike_places := ok_unlike_places (P := P) (w := w) (base := base) (fun_of F_unlike_places) bl (C_letters.up (by decide))
  have C_unlike_places : Kn P w K mg base 5 "unlike_places" ["slope", "height", "other", "many"] S_unlike_places := Kn.mk O_unlike_places z_unlike_places F_unlike_places.kp b_unlike_places
  have K_unlike_places_many_other_height_slope := KnK.mk (ks := ["many", "other", "height", "slope"]) (is := [3, 2, 1, 0]) O_unlike_places z_unlike_places F_unlike_places.kp (kwb_of (x := "unlike_places") (qual := "unlike_places") (st := s_unlike_places) (fun_of F_unlike_places) (fun _ _ _ _ _ _ ws hl => match ws, hl with | [_, _, _, _], _ => rfl))
  have b_height_between : Binds K fd_height_between ["slope", "height", "other", "word"] [] := F_height_between.bindsN (fun _ _ _ _ _ _ us hl => match us, hl with | [_, _, _, _], _ => rfl)
  have O_height_between := ok_height_between (P := P) (w := w) (base := base) (fun_of F_height_between) bl (C_surd_sum.up (by decide)) (C_surd_turned.up (by decide)) (C_surd_order.up (by decide))
  have C_height_between : Kn P w K mg base 5 "height_between" ["slope", "height", "other", "word"] S_height_between := Kn.mk O_height_between z_height_between F_height_between.kp b_height_between
  have K_height_between_other_word_height_slope := KnK.mk (ks := ["other", "word", "height", "slope"]) (is := [3, 2, 0, 1]) O_height_between z_height_between F_height_between.kp (kwb_of (x := "height_between") (qual := "height_between") (st := s_height_between) (fun_of F_height_between) (fun _ _ _ _ _ _ ws hl => match ws, hl with | [_, _, _, _], _ => rfl))
  have b__law_is_moved_right : Binds K fd__law_is_moved_right ["bag", "field", "slope", "height", "is_named"] [] := F__law_is_moved_right.bindsN (fun _ _ _ _ _ _ us hl => match us, hl with | [_, _, _, _, _], _ => rfl)
  have O__law_is_moved_right := ok__law_is_moved_right (P := P) (w := w) (base := base) (fun_of F__law_is_moved_right) bl (C__law_draw.up (by decide)) (C__law_pick.up (by decide)) (C__law_moved.up (by decide)) (C__law_shrunk.up (by decide)) (C__law_times.up (by decide)) (C_moved_row.up (by decide)) (C__law_same.up (by decide)) (K_moved_row_n_slope_height.up (by decide))
  have C__law_is_moved_right : Kn P w K mg base 5 "_law_is_moved_right" ["bag", "field", "slope", "height", "is_named"] S__law_is_moved_right := Kn.mk O__law_is_moved_right z__law_is_moved_right F__law_is_moved_right.kp b__law_is_moved_right
  have b__law_is_word_right : Binds K fd__law_is_word_right ["bag", "field", "size", "slope", "word", "few"] [] := F__law_is_word_right.bindsN (fun _ _ _ _ _ _ us hl => match us, hl with | [_, _, _, _, _, _], _ => rfl)
  have O__law_is_word_right := ok__law_is_word_right (P := P) (w := w) (base := base) (fun_of F__law_is_word_right) bl (C__law_bounds.up (by decide)) (C__law_pairs.up (by decide)) (C__law_points.up (by decide)) (C__law_is_less.up (by decide)) (C_height_between.up (by decide)) (C__law_same.up (by decide)) (K_height_between_other_word_height_slope.up (by decide))
  have C__law_is_word_right : Kn P w K mg base 6 "_law_is_word_right" ["bag", "field", "size", "slope", "word", "few"] S__law_is_word_right := Kn.mk O__law_is_word_right z__law_is_word_right F__law_is_word_right.kp b__law_is_word_right
  have b__law_are_rows_right : Binds K fd__law_are_rows_right ["field", "slope", "height", "others", "many", "is_named"] [] := F__law_are_rows_right.bindsN (fun _ _ _ _ _ _ us hl => match us, hl with | [_, _, _, _, _, _], _ => rfl)
  have O__law_are_rows_right := ok__law_are_rows_right (P := P) (w := w) (base := base) (fun_of F__law_are_rows_right) bl (C__law_letters.up (by decide)) (C_unlike_places.up (by decide)) (C__law_same.up (by decide)) (K_unlike_places_many_other_height_slope.up (by decide))
  have C__law_are_rows_right : Kn P w K mg base 6 "_law_are_rows_right" ["field", "slope", "height", "others", "many", "is_named"] S__law_are_rows_right := Kn.mk O__law_are_rows_right z__law_are_rows_right F__law_are_rows_right.kp b__law_are_rows_right
  have b__law_are_words_right : Binds K fd__law_are_words_right ["bag", "field", "size", "slope", "second"] [] := F__law_are_words_right.bindsN (fun _ _ _ _ _ _ us hl => match us, hl with | [_, _, _, _, _], _ => rfl)
  have O__law_are_words_right := ok__law_are_words_right (P := P) (w := w) (base := base) (fun_of F__law_are_words_right) bl (C__law_word.up (by decide)) (C__law_is_word_right.up (by decide))
  have C__law_are_words_right : Kn P w K mg base 7 "_law_are_words_right" ["bag", "field", "size", "slope", "second"] S__law_are_words_right := Kn.mk O__law_are_words_right z__law_are_words_right F__law_are_words_right.kp b__law_are_words_right
  have hb := FunD.bindsA (ps := ["script"]) F_law (fun _ _ _ _ _ _ us hl => match us, hl with | [_], _ => rfl)
  exact ok_law (fun_of F_law) bl (O__law_own_bag.up (by decide)) z__law_own_bag F__law_own_bag.kp b__law_own_bag (C__law_pick.up (by decide)) (C__law_field.up (by decide)) (C__law_slope.up (by decide)) (C__law_height.up (by decide)) (C__law_moved.up (by decide)) (C__law_draw.up (by decide)) (C__law_is_small.up (by decide)) (C__law_near.up (by decide)) (C__law_are_rows_right.up (by decide)) (C__law_is_moved_right.up (by decide)) (C__law_are_words_right.up (by decide)) fun s v => hb s [v] rfl
end T
end DL
open PySem PySem.W PySem.Calls PyProof.Rows
theorem PySem.Challenge.cw_linecuts_k43_whole_rows_apart_holds : PySem.Challenge.rw_linecuts_k43_whole_rows_apart.Holds := by
  w_on; o_law
  refine HandSHeadRun.head_any (r := OpenLaw.row PySem.Challenge.rw_linecuts_k43_whole_rows_apart) (q := view (OpenLaw.row PySem.Challenge.rw_linecuts_k43_whole_rows_apart).prog [44]) (H := DL.T.hk) (ob := DL.T.ob) (M := 20000) (loose := DL.T.loose) (d := HandSHeadRun.topDef (OpenLaw.row PySem.Challenge.rw_linecuts_k43_whole_rows_apart).prog 44) (kwd := []) DL.T.ob_eq
    (by kernel_rfl) (fun s => by kernel_rfl) DL.T.run (by kernel_rfl) (by kernel_rfl) (by kernel_rfl) (by rfl) (by first | assumption | decide +kernel) (by decide +kernel) ⟨rfl, rfl, rfl, rfl, rfl, by decide +kernel⟩ ?hw ?hc
  case hw => w_witness2
  case hc =>
    refine DL.walk_law (l := PySem.Challenge.rw_linecuts_k43_whole_rows_apart) (n := 63) rfl (by decide) (by kernel_rfl) ?F
    intro w mg fa h Y G hmg0
    obtain ⟨K, KX, c⟩ := Y
    have hmg : mg ("law" : PySem.Str) = some (.ref fa) := by
      have e : (HandSHeadRun.topDef (OpenLaw.row PySem.Challenge.rw_linecuts_k43_whole_rows_apart).prog 44).name = ("law" : PySem.Str) := by kernel_rfl
      rw [← e]
      exact hmg0
    exact ⟨K, KX, DL.T.facts (P := (PySem.Challenge.rw_linecuts_k43_whole_rows_apart).prog) (w := w) KX G hmg c⟩
