import PyProof.Rows.All
import Wide.All
import OpenK.AllK
import Wide.FinOn
import HandS.ForMost
import HandS.Evl
import HandS.Wide
import HandS.Style
import HandS.TupAny
import HandS.Conv
import HandS.Zip
import HandS.RevTup
import HandS.Rev
import HandS.NoneIn
import HandS.WideBits
import HandS.Exc
import HandS.Ends
import HandS.HeadEnd
import HandS.Defaults
import PySem.Challenge.RW_linecuts_k02_whole_surd_orders
import KE.KStateDown
import HandS.Head0
import HandS.Head1
import HandS.Head2
import HandS.HeadHook1
import HandS.HeadHook2
set_option Elab.async false
set_option linter.all false
set_option maxRecDepth 100000
set_option maxHeartbeats 0
set_option autoImplicit false
set_option exponentiation.threshold 256
/-! DL: data-level readings over the hand layer. What a piece of syntax does is told as a function on data (PyData); slots hold data that stands (sh), a list of one's own (ow) or the bag (bg). -/
namespace DL
open PySem L2
abbrev D := PyData
abbrev Ex := Evl.Ex
/-- what a slot holds -/
inductive Sl where
  | un
  | sh (d : D)
  | ow (ds : List D)
  | bg
abbrev Env := List Sl
/-- the bag: where it stands, its objects, what is known of them; B0, H0: the state at the entry -/
structure Bg where
  pb : Addr
  mem : Addr → Prop
  ok : Hp → Prop
  loc : ∀ H H' : Hp, (∀ a, mem a → H' a = H a) → ok H → ok H'
structure C extends Bg where
  B0 : Hp
  H0 : Hp
def C.isBag (c : C) (a : Addr) : Prop := c.mem a
structure BagOk (c : C) (B H : Hp) : Prop where
  out : ∀ a, c.isBag a → B a = none
  here : ∀ a, c.isBag a → H a ≠ none
  ok : c.ok H
theorem BagOk.keep {c : C} {B H B' H' : Hp} (b : BagOk c B H) (k : ∀ a, c.isBag a → B' a = B a ∧ H' a = H a) : BagOk c B' H' :=
  ⟨fun a ha => by rw [(k a ha).1]; exact b.out a ha, fun a ha => by rw [(k a ha).2]; exact b.here a ha, c.loc H H' (fun a ha => (k a ha).2) b.ok⟩
/-- the state of the data: B, what stands and is shared, within H -/
structure Wd (c : C) (B H : Hp) : Prop where
  sub : Ex B H
  bag : BagOk c B H
/-- from one state to a later one: nothing that stood has changed but the bag; what is shared grew by new objects -/
structure Gr (c : C) (B H B' H' : Hp) : Prop where
  b : Ex B B'
  h : ∀ a o, ¬ c.isBag a → H a = some o → H' a = some o
  n : ∀ a, H a ≠ none → B' a = B a
  w : Wd c B' H'
theorem Wd.nb {c : C} {B H : Hp} (w : Wd c B H) {a : Addr} {o : HO} (h : B a = some o) : ¬ c.isBag a := by
  intro z
  rw [w.bag.out a z] at h
  cases h
theorem Wd.there {c : C} {B H : Hp} (w : Wd c B H) {a : Addr} (h : c.isBag a) : H a ≠ none := w.bag.here a h
/-- what is not there is no part of the bag -/
theorem Wd.off {c : C} {B H : Hp} (w : Wd c B H) {a p : Addr} (h : c.isBag a) (hp : H p = none) : a ≠ p := fun z => w.there h (by rw [z]; exact hp)
theorem Gr.refl {c : C} {B H : Hp} (w : Wd c B H) : Gr c B H B H := ⟨Evl.Ex.refl B, fun _ _ _ h => h, fun _ _ => rfl, w⟩
theorem Gr.trans {c : C} {B H B1 H1 B2 H2 : Hp} (w : Wd c B H) (x : Gr c B H B1 H1) (y : Gr c B1 H1 B2 H2) : Gr c B H B2 H2 := by
  refine ⟨x.b.trans y.b, fun a o nb h => y.h a o nb (x.h a o nb h), fun a h => ?_, y.w⟩
  rw [← x.n a h]
  refine y.n a ?_
  by_cases hb : c.isBag a
  · exact x.w.there hb
  · cases e : H a with
    | none => exact absurd e h
    | some o => rw [x.h a o hb e]; exact fun q => nomatch q
/-- a new shared object -/
theorem Gr.new {c : C} {B H : Hp} (w : Wd c B H) {p : Addr} {o : HO} (hp : H p = none) : Gr c B H (upd B p o) (upd H p o) := by
  have hB : B p = none := Evl.fresh_back w.sub hp
  refine ⟨Evl.Ex.new hB, fun a u _ e => ?_, fun a e => ?_, fun a u e => ?_, w.bag.keep fun a ha => ⟨upd_ne (w.off ha hp), upd_ne (w.off ha hp)⟩⟩
  · rw [upd_ne (ne_of_none e hp)]; exact e
  · exact upd_ne fun z => e (by rw [z]; exact hp)
  · by_cases z : a = p
    · subst z; rw [upd_same] at e ⊢; exact e
    · rw [upd_ne z] at e ⊢; exact w.sub a u e
/-- a new object that is not shared (yet) -/
theorem Gr.newO {c : C} {B H : Hp} (w : Wd c B H) {p : Addr} {o : HO} (hp : H p = none) : Gr c B H B (upd H p o) := by
  have hB : B p = none := Evl.fresh_back w.sub hp
  refine ⟨Evl.Ex.refl B, fun a u _ e => ?_, fun a e => rfl, fun a u e => ?_, w.bag.keep fun a ha => ⟨rfl, upd_ne (w.off ha hp)⟩⟩
  · rw [upd_ne (ne_of_none e hp)]; exact e
  · have z : a ≠ p := ne_of_none e hB
    rw [upd_ne z]; exact w.sub a u e
/-! ### data that stands -/
def kD : Key → D
  | .inl i => .int i
  | .inr x => .str x
mutual
inductive Rp (B : Hp) : V → D → Prop
  | non : Rp B .non .none
  | bl (b : Bool) : Rp B (.bl b) (.bool b)
  | int (i : Int) : Rp B (.int i) (.int i)
  | str (x : Str) : Rp B (.str x) (.str x)
  | lst {a : Addr} {xs : List V} {ds : List D} : B a = some (.lst xs) → RpA B xs ds → Rp B (.ref a) (.list ds)
  | tup {a : Addr} {xs : List V} {ds : List D} : B a = some (.tup xs) → RpA B xs ds → Rp B (.ref a) (.tuple ds)
  | dct {a : Addr} {kvs : List (Key × V)} {ds : List D} : B a = some (.dK kvs) → RpA B (kvs.map (·.2)) ds → Rp B (.ref a) (.dict ((kvs.map fun p => kD p.1).zip ds))
inductive RpA (B : Hp) : List V → List D → Prop
  | nil : RpA B [] []
  | cons {v : V} {vs : List V} {d : D} {ds : List D} : Rp B v d → RpA B vs ds → RpA B (v :: vs) (d :: ds)
end
mutual
theorem rp_mono {B B' : Hp} (e : Ex B B') : ∀ {v : V} {d : D}, Rp B v d → Rp B' v d
  | _, _, .non => .non
  | _, _, .bl b => .bl b
  | _, _, .int i => .int i
  | _, _, .str x => .str x
  | _, _, .lst h1 h2 => .lst (e _ _ h1) (rpa_mono e h2)
  | _, _, .tup h1 h2 => .tup (e _ _ h1) (rpa_mono e h2)
  | _, _, .dct h1 h2 => .dct (e _ _ h1) (rpa_mono e h2)
theorem rpa_mono {B B' : Hp} (e : Ex B B') : ∀ {v : List V} {d : List D}, RpA B v d → RpA B' v d
  | _, _, .nil => .nil
  | _, _, .cons h1 h2 => .cons (rp_mono e h1) (rpa_mono e h2)
end
mutual
theorem rp_dp {K : PySem.W.Frag} {B : Hp} : ∀ {v : V} {d : D}, Rp B v d → d.canLay0 = true → Dp K B v d
  | _, _, .non, _ => .non
  | _, _, .bl b, _ => .bl b
  | _, _, .int i, _ => .int i
  | _, _, .str x, _ => .str x
  | _, _, .lst h1 h2, c => .lst (SqL.of h1) (rpa_dp h2 (by simpa [PyData.canLay0] using c))
  | _, _, .tup h1 h2, c => .tup (SqT.of h1) (rpa_dp h2 (by simpa [PyData.canLay0] using c))
  | _, _, .dct _ _, c => by simp [PyData.canLay0] at c
theorem rpa_dp {K : PySem.W.Frag} {B : Hp} : ∀ {v : List V} {d : List D}, RpA B v d → PyData.canLayAll0 d = true → DpAll K B v d
  | _, _, .nil, _ => .nil
  | _, _, .cons h1 h2, c => by
    have c' := c
    simp only [PyData.canLayAll0, Bool.and_eq_true] at c'
    exact .cons (rp_dp h1 c'.1) (rpa_dp h2 c'.2)
end
section
variable {B : Hp}
theorem rpa_len : ∀ {v : List V} {d : List D}, RpA B v d → v.length = d.length
  | _, _, .nil => rfl
  | _, _, .cons _ h2 => by rw [List.length_cons, List.length_cons, rpa_len h2]
theorem rpa_get : ∀ {vs : List V} {ds : List D} {i : Nat} {d : D}, RpA B vs ds → ds[i]? = some d → ∃ v, vs[i]? = some v ∧ Rp B v d
  | _, _, _, _, .nil, e => by simp at e
  | _, _, 0, _, .cons h1 _, e => by simp at e; subst e; exact ⟨_, rfl, h1⟩
  | _, _, i + 1, _, .cons _ h2, e => by
    obtain ⟨v, h3, h4⟩ := rpa_get (i := i) h2 (by simpa using e)
    exact ⟨v, by simpa using h3, h4⟩
theorem rpa_get' : ∀ {vs : List V} {ds : List D} {i : Nat} {v : V}, RpA B vs ds → vs[i]? = some v → ∃ d, ds[i]? = some d ∧ Rp B v d
  | _, _, _, _, .nil, e => by simp at e
  | _, _, 0, _, .cons h1 _, e => by simp at e; subst e; exact ⟨_, rfl, h1⟩
  | _, _, i + 1, _, .cons _ h2, e => by
    obtain ⟨v, h3, h4⟩ := rpa_get' (i := i) h2 (by simpa using e)
    exact ⟨v, by simpa using h3, h4⟩
theorem rpa_app : ∀ {vs ws : List V} {ds es : List D}, RpA B vs ds → RpA B ws es → RpA B (vs ++ ws) (ds ++ es)
  | _, _, _, _, .nil, h => h
  | _, _, _, _, .cons h1 h2, h => .cons h1 (rpa_app h2 h)
theorem rpa_take : ∀ {vs : List V} {ds : List D} (n : Nat), RpA B vs ds → RpA B (vs.take n) (ds.take n)
  | _, _, 0, _ => .nil
  | _, _, _ + 1, .nil => .nil
  | _, _, n + 1, .cons h1 h2 => .cons h1 (rpa_take n h2)
theorem rpa_drop : ∀ {vs : List V} {ds : List D} (n : Nat), RpA B vs ds → RpA B (vs.drop n) (ds.drop n)
  | _, _, 0, h => h
  | _, _, _ + 1, .nil => .nil
  | _, _, n + 1, .cons _ h2 => rpa_drop n h2
theorem rpa_set {v : V} {d : D} (h : Rp B v d) : ∀ {vs : List V} {ds : List D} (i : Nat), RpA B vs ds → RpA B (vs.set i v) (ds.set i d)
  | _, _, _, .nil => .nil
  | _, _, 0, .cons _ h2 => .cons h h2
  | _, _, i + 1, .cons h1 h2 => .cons h1 (rpa_set h i h2)
theorem rpa_rev : ∀ {vs : List V} {ds : List D}, RpA B vs ds → RpA B vs.reverse ds.reverse
  | _, _, .nil => .nil
  | _, _, .cons h1 h2 => by rw [List.reverse_cons, List.reverse_cons]; exact rpa_app (rpa_rev h2) (.cons h1 .nil)
theorem rpa_ints : ∀ {vs : List V} {ns : List Int}, RpA B vs (ns.map PyData.int) → vs = ns.map V.int
  | _, [], h => by cases h; rfl
  | _, n :: ns, h => by
    cases h with
    | cons h1 h2 =>
      cases h1
      rw [rpa_ints h2]; rfl
theorem rpa_of_ints : ∀ (ns : List Int), RpA B (ns.map V.int) (ns.map PyData.int)
  | [] => .nil
  | n :: ns => .cons (.int n) (rpa_of_ints ns)
theorem rpa_bls : ∀ {vs : List V} {ns : List Bool}, RpA B vs (ns.map PyData.bool) → vs = ns.map V.bl
  | _, [], h => by cases h; rfl
  | _, n :: ns, h => by
    cases h with
    | cons h1 h2 =>
      cases h1
      rw [rpa_bls h2]; rfl
theorem rpa_strs : ∀ {vs : List V} {ns : List Str}, RpA B vs (ns.map PyData.str) → vs = ns.map V.str
  | _, [], h => by cases h; rfl
  | _, n :: ns, h => by
    cases h with
    | cons h1 h2 =>
      cases h1
      rw [rpa_strs h2]; rfl
theorem rpa_nil_iff {vs : List V} {ds : List D} (h : RpA B vs ds) : vs = [] ↔ ds = [] := by
  have e := rpa_len h
  rw [← List.length_eq_zero_iff, ← List.length_eq_zero_iff, e]
theorem rp_lst {v : V} {ds : List D} (h : Rp B v (.list ds)) : ∃ a xs, v = .ref a ∧ B a = some (.lst xs) ∧ RpA B xs ds := by
  cases h with
  | lst h1 h2 => exact ⟨_, _, rfl, h1, h2⟩
theorem rp_tup {v : V} {ds : List D} (h : Rp B v (.tuple ds)) : ∃ a xs, v = .ref a ∧ B a = some (.tup xs) ∧ RpA B xs ds := by
  cases h with
  | tup h1 h2 => exact ⟨_, _, rfl, h1, h2⟩
theorem rp_int {v : V} {i : Int} (h : Rp B v (.int i)) : v = .int i := by cases h; rfl
theorem rp_bl {v : V} {i : Bool} (h : Rp B v (.bool i)) : v = .bl i := by cases h; rfl
theorem rp_str {v : V} {i : Str} (h : Rp B v (.str i)) : v = .str i := by cases h; rfl
theorem rp_non {v : V} (h : Rp B v .none) : v = .non := by cases h; rfl
end
/-- a value that may be read: shared, or a list of one's own -/
def Bw (c : C) (B H : Hp) (v : V) (d : D) : Prop :=
  Rp B v d ∨ ∃ p vs ds, v = .ref p ∧ d = .list ds ∧ ¬ c.isBag p ∧ B p = none ∧ H p = some (.lst vs) ∧ RpA B vs ds
section
variable {c : C} {B H B' H' : Hp} {v : V} {d : D}
theorem Bw.of (h : Rp B v d) : Bw c B H v d := .inl h
theorem Bw.mono (g : Gr c B H B' H') (h : Bw c B H v d) : Bw c B' H' v d := by
  rcases h with h | ⟨p, vs, ds, h1, h2, h3, h4, h5, h6⟩
  · exact .inl (rp_mono g.b h)
  · refine .inr ⟨p, vs, ds, h1, h2, h3, ?_, g.h p _ h3 h5, rpa_mono g.b h6⟩
    rw [g.n p (by rw [h5]; exact fun q => nomatch q)]; exact h4
theorem Bw.rp (w : Wd c B H) (h : Bw c B H v d) : Rp H v d := by
  rcases h with h | ⟨p, vs, ds, rfl, rfl, h3, h4, h5, h6⟩
  · exact rp_mono w.sub h
  · exact .lst h5 (rpa_mono w.sub h6)
theorem Bw.list {ds : List D} (w : Wd c B H) (h : Bw c B H v (.list ds)) : ∃ a xs, v = .ref a ∧ H a = some (.lst xs) ∧ RpA B xs ds := by
  rcases h with h | ⟨p, vs, es, rfl, e, h3, h4, h5, h6⟩
  · obtain ⟨a, xs, rfl, h1, h2⟩ := rp_lst h
    exact ⟨a, xs, rfl, w.sub _ _ h1, h2⟩
  · cases e
    exact ⟨p, vs, rfl, h5, h6⟩
theorem Bw.tup {ds : List D} (w : Wd c B H) (h : Bw c B H v (.tuple ds)) : ∃ a xs, v = .ref a ∧ H a = some (.tup xs) ∧ RpA B xs ds := by
  rcases h with h | ⟨p, vs, es, rfl, e, h3, h4, h5, h6⟩
  · obtain ⟨a, xs, rfl, h1, h2⟩ := rp_tup h
    exact ⟨a, xs, rfl, w.sub _ _ h1, h2⟩
  · cases e
theorem Bw.int {i : Int} (h : Bw c B H v (.int i)) : v = .int i := by
  rcases h with h | ⟨p, vs, es, rfl, e, _⟩
  · exact rp_int h
  · cases e
theorem Bw.bl {i : Bool} (h : Bw c B H v (.bool i)) : v = .bl i := by
  rcases h with h | ⟨p, vs, es, rfl, e, _⟩
  · exact rp_bl h
  · cases e
theorem Bw.str {i : Str} (h : Bw c B H v (.str i)) : v = .str i := by
  rcases h with h | ⟨p, vs, es, rfl, e, _⟩
  · exact rp_str h
  · cases e
theorem Bw.non (h : Bw c B H v .none) : v = .non := by
  rcases h with h | ⟨p, vs, es, rfl, e, _⟩
  · exact rp_non h
  · cases e
end
/-- what slot holds what -/
def SlOk (c : C) (B H : Hp) (σ : St) (i : Nat) : Sl → Prop
  | .un => True
  | .sh d => ∃ v, σ[i]? = some (some v) ∧ Rp B v d
  | .ow ds => ∃ p vs, σ[i]? = some (some (.ref p)) ∧ c.H0 p = none ∧ ¬ c.isBag p ∧ B p = none ∧ H p = some (.lst vs) ∧ RpA B vs ds
  | .bg => σ[i]? = some (some (.ref c.pb))
structure EOk (c : C) (B H : Hp) (σ : St) (ρ : Env) : Prop where
  w0 : Wd c c.B0 c.H0
  w : Wd c B H
  g : Gr c c.B0 c.H0 B H
  len : ρ.length = σ.length
  sl : ∀ i s, ρ[i]? = some s → SlOk c B H σ i s
  ap : ∀ (i j : Nat) (p : Addr) (ds es : List D), i ≠ j → ρ[i]? = some (Sl.ow ds) → ρ[j]? = some (Sl.ow es) → σ[i]? = some (some (V.ref p)) → ¬ σ[j]? = some (some (V.ref p))
section
variable {c : C} {B H B' H' : Hp} {σ : St} {ρ : Env}
theorem SlOk.mono {i : Nat} {s : Sl} (g : Gr c B H B' H') (h : SlOk c B H σ i s) : SlOk c B' H' σ i s := by
  cases s with
  | un => trivial
  | sh d => obtain ⟨v, h1, h2⟩ := h; exact ⟨v, h1, rp_mono g.b h2⟩
  | ow ds =>
    obtain ⟨p, vs, h1, h2, h3, h4, h5, h6⟩ := h
    refine ⟨p, vs, h1, h2, h3, ?_, g.h p _ h3 h5, rpa_mono g.b h6⟩
    rw [g.n p (by rw [h5]; exact fun q => nomatch q)]; exact h4
  | bg => exact h
theorem EOk.mono (e : EOk c B H σ ρ) (g : Gr c B H B' H') : EOk c B' H' σ ρ :=
  ⟨e.w0, g.w, e.g.trans e.w0 g, e.len, fun i s h => (e.sl i s h).mono g, e.ap⟩
end
end DL
namespace DL
open PySem L2 PyProof.Rows
abbrev SE := Env → (D → Prop) → Prop
abbrev ST := Env → (Bool → Prop) → Prop
abbrev SA := Env → (List Sl → Prop) → Prop
/-- the i-th slot -/
def lk : Env → Nat → Sl
  | [], _ => .un
  | s :: _, 0 => s
  | _ :: r, n + 1 => lk r n
theorem lk_get : ∀ {ρ : Env} {i : Nat} {s : Sl}, lk ρ i = s → s ≠ .un → ρ[i]? = some s
  | [], _, _, h, n => by simp only [lk] at h; exact absurd h.symm n
  | s :: _, 0, _, h, _ => by simp only [lk] at h; rw [h]; rfl
  | _ :: r, i + 1, s, h, n => by
    have := lk_get (ρ := r) (i := i) (s := s) (by simpa only [lk] using h) n
    simpa using this
def Mono (f : SE) : Prop := ∀ ρ (Q Q' : D → Prop), (∀ d, Q d → Q' d) → f ρ Q → f ρ Q'
def MonoT (f : ST) : Prop := ∀ ρ (Q Q' : Bool → Prop), (∀ d, Q d → Q' d) → f ρ Q → f ρ Q'
def MonoA (f : SA) : Prop := ∀ ρ (Q Q' : List Sl → Prop), (∀ d, Q d → Q' d) → f ρ Q → f ρ Q'
def toV (c : C) (f : SE) : TE := fun σ H Q => ∃ B ρ, EOk c B H σ ρ ∧ f ρ fun d => ∀ v B' H', Gr c B H B' H' → Rp B' v d → Q v H'
def toB (c : C) (f : SE) : TE := fun σ H Q => ∃ B ρ, EOk c B H σ ρ ∧ f ρ fun d => ∀ v B' H', Gr c B H B' H' → Bw c B' H' v d → Q v H'
def toT (c : C) (f : ST) : TT := fun σ H Q => ∃ B ρ, EOk c B H σ ρ ∧ f ρ fun b => ∀ B' H', Gr c B H B' H' → Q b H'
/-- an argument -/
def ArgOk (c : C) (B H : Hp) (v : V) : Sl → Prop
  | .sh d => Rp B v d
  | .bg => v = .ref c.pb
  | _ => False
def ArgsOk (c : C) (B H : Hp) : List V → List Sl → Prop
  | [], [] => True
  | v :: vs, s :: ss => ArgOk c B H v s ∧ ArgsOk c B H vs ss
  | _, _ => False
def toA (c : C) (f : SA) : TA := fun σ H Q => ∃ B ρ, EOk c B H σ ρ ∧ f ρ fun ss => ∀ vs B' H', Gr c B H B' H' → ArgsOk c B' H' vs ss → Q vs H'
theorem ArgOk.mono {c : C} {B H B' H' : Hp} (g : Gr c B H B' H') {v : V} {s : Sl} (h : ArgOk c B H v s) : ArgOk c B' H' v s := by
  cases s with
  | sh d => exact rp_mono g.b h
  | bg => exact h
  | un => exact h
  | ow ds => exact h
theorem ArgsOk.mono {c : C} {B H B' H' : Hp} (g : Gr c B H B' H') : ∀ {vs : List V} {ss : List Sl}, ArgsOk c B H vs ss → ArgsOk c B' H' vs ss
  | [], [], _ => trivial
  | _ :: _, _ :: _, h => ⟨h.1.mono g, ArgsOk.mono g h.2⟩
  | [], _ :: _, h => h
  | _ :: _, [], h => h
structure PV (X : Cx) (c : C) (e : Expr) (f : SE) : Prop where
  mono : Mono f
  pe : PE X e (toV c f)
structure PB (X : Cx) (c : C) (e : Expr) (f : SE) : Prop where
  mono : Mono f
  pe : PE X e (toB c f)
structure PTd (X : Cx) (c : C) (e : Expr) (f : ST) : Prop where
  mono : MonoT f
  pt : PT X e (toT c f)
structure PAd (X : Cx) (c : C) (es : List Expr) (f : SA) : Prop where
  mono : MonoA f
  pa : PA X es (toA c f)
theorem pe_weak {X : Cx} {e : Expr} {t t' : TE} (h : PE X e t) (w : ∀ σ H Q, t' σ H Q → t σ H Q) : PE X e t' := ⟨fun pins s σ H Q I q => h.run pins s σ H Q I (w σ H Q q)⟩
theorem pt_weak {X : Cx} {e : Expr} {t t' : TT} (h : PT X e t) (w : ∀ σ H Q, t' σ H Q → t σ H Q) : PT X e t' := ⟨fun pins s σ H Q I q => h.run pins s σ H Q I (w σ H Q q)⟩
theorem pa_weak {X : Cx} {e : List Expr} {t t' : TA} (h : PA X e t) (w : ∀ σ H Q, t' σ H Q → t σ H Q) : PA X e t' := ⟨fun pos pins s σ H Q I q => h.run pos pins s σ H Q I (w σ H Q q)⟩
theorem ps_weak {X : Cx} {e : Stmt} {t t' : TS} (h : PS X e t) (w : ∀ D σ H, t' D σ H → t D σ H) : PS X e t' := ⟨fun pins s σ H D I q => h.run pins s σ H D I (w D σ H q)⟩
theorem pss_weak {X : Cx} {e : List Stmt} {t t' : TS} (h : PSs X e t) (w : ∀ D σ H, t' D σ H → t D σ H) : PSs X e t' := ⟨fun pins s σ H D I q => h.run pins s σ H D I (w D σ H q)⟩
section
variable {X : Cx} {c : C}
/-- what stands may be read -/
theorem PV.b {e : Expr} {f : SE} (h : PV X c e f) : PB X c e f :=
  ⟨h.mono, pe_weak h.pe fun σ H Q ⟨B, ρ, ok, q⟩ => ⟨B, ρ, ok, h.mono _ _ _ (fun d k v B' H' g r => k v B' H' g (.inl r)) q⟩⟩
/-! ### names, constants -/
def fV (i : Nat) : SE := fun ρ Q => match lk ρ i with | .sh d => Q d | _ => False
def fN (i : Nat) : SE := fun ρ Q => match lk ρ i with | .sh d => Q d | .ow ds => Q (.list ds) | _ => False
def fC (d : D) : SE := fun _ Q => Q d
theorem v_name (i : Nat) {x : Str} {pos : Pos} (hN : X.N[i]? = some x := by rfl) (hv : Vis X.env.scope x := by first | exact Or.inl rfl | exact Or.inr (Or.inl rfl) | exact Or.inr (Or.inr rfl))
    (hd : (x == ("__debug__" : Str)) = false := by decide) (hcd : (x == ("__classdict__" : Str)) = false := by decide) : PV X c (.Name x pos) (fV i) := by
  refine ⟨fun ρ Q Q' k h => ?_, pe_weak (pe_var hN hv hd hcd) fun σ H Q ⟨B, ρ, ok, h⟩ => ?_⟩
  · unfold fV at h ⊢
    cases e : lk ρ i with
    | sh d => rw [e] at h; exact k d h
    | _ => rw [e] at h; exact h
  · unfold fV at h
    cases e : lk ρ i with
    | sh d =>
      rw [e] at h
      obtain ⟨v, h1, h2⟩ := ok.sl i _ (lk_get e (fun z => nomatch z))
      exact ⟨v, h1, h v B H (Gr.refl ok.w) h2⟩
    | _ => rw [e] at h; exact h.elim
theorem b_name (i : Nat) {x : Str} {pos : Pos} (hN : X.N[i]? = some x := by rfl) (hv : Vis X.env.scope x := by first | exact Or.inl rfl | exact Or.inr (Or.inl rfl) | exact Or.inr (Or.inr rfl))
    (hd : (x == ("__debug__" : Str)) = false := by decide) (hcd : (x == ("__classdict__" : Str)) = false := by decide) : PB X c (.Name x pos) (fN i) := by
  refine ⟨fun ρ Q Q' k h => ?_, pe_weak (pe_var hN hv hd hcd) fun σ H Q ⟨B, ρ, ok, h⟩ => ?_⟩
  · unfold fN at h ⊢
    cases e : lk ρ i with
    | sh d => rw [e] at h; exact k d h
    | ow d => rw [e] at h; exact k _ h
    | _ => rw [e] at h; exact h
  · unfold fN at h
    cases e : lk ρ i with
    | sh d =>
      rw [e] at h
      obtain ⟨v, h1, h2⟩ := ok.sl i _ (lk_get e (fun z => nomatch z))
      exact ⟨v, h1, h v B H (Gr.refl ok.w) (.inl h2)⟩
    | ow ds =>
      rw [e] at h
      obtain ⟨p, vs, h1, h2, h3, h4, h5, h6⟩ := ok.sl i _ (lk_get e (fun z => nomatch z))
      exact ⟨_, h1, h _ B H (Gr.refl ok.w) (.inr ⟨p, vs, ds, rfl, rfl, h3, h4, h5, h6⟩)⟩
    | _ => rw [e] at h; exact h.elim
theorem mono_C {d : D} : Mono (fC d) := fun _ _ _ k h => k _ h
theorem cst {e : Expr} {v : V} {d : D} (h : PE X e (tC v)) (r : ∀ B, Rp B v d) : PV X c e (fC d) :=
  ⟨mono_C, pe_weak h fun σ H Q ⟨B, ρ, ok, q⟩ => q v B H (Gr.refl ok.w) (r B)⟩
theorem v_int {i : Int} {j : Nat} {pos : Pos} : PV X c (.Constant (.int i) j pos) (fC (.int i)) := cst pe_int fun _ => .int i
theorem v_bl {i : Bool} {j : Nat} {pos : Pos} : PV X c (.Constant (.bool i) j pos) (fC (.bool i)) := cst pe_bl fun _ => .bl i
theorem v_non {j : Nat} {pos : Pos} : PV X c (.Constant .none j pos) (fC .none) := cst pe_non fun _ => .non
theorem v_str {i : Str} {j : Nat} {pos : Pos} : PV X c (.Constant (.str i) j pos) (fC (.str i)) := cst pe_str fun _ => .str i
/-- a module's constant that is an int -/
theorem v_glob {x : Str} {i : Int} {t : Tok} {pos : Pos} (hg : Gl X x) (hm : X.mg x = some (.int i t)) (hd : (x == ("__debug__" : Str)) = false := by decide) : PV X c (.Name x pos) (fC (.int i)) :=
  cst (v := .int i) (pe_glob hg hm ⟨t, rfl⟩ hd) fun _ => .int i
/-! ### two-place operations -/
abbrev G2 := D → D → (D → Prop) → Prop
def MonoG (g : G2) : Prop := ∀ d e (Q Q' : D → Prop), (∀ z, Q z → Q' z) → g d e Q → g d e Q'
def rD (c : C) (g : G2) : R2 := fun x y H Q => ∃ B d e, Wd c B H ∧ Bw c B H x d ∧ Bw c B H y e ∧ g d e fun z => ∀ v B' H', Gr c B H B' H' → Rp B' v z → Q v H'
structure OpD (X : Cx) (c : C) (f : Value → Value → Sem Value) (g : G2) : Prop where
  mono : MonoG g
  op : OpR X f (rD c g)
theorem opr_weak {f : Value → Value → Sem Value} {r r' : R2} (h : OpR X f r) (w : ∀ x y H Q, r' x y H Q → r x y H Q) : OpR X f r' := fun pins s σ H x y v u Q I rx ry q => h pins s σ H x y v u Q I rx ry (w x y H Q q)
def fBin (g : G2) (fa fb : SE) : SE := fun ρ Q => fa ρ fun d => fb ρ fun e => g d e Q
theorem mono_Bin {g : G2} {fa fb : SE} (hg : MonoG g) (ha : Mono fa) (hb : Mono fb) : Mono (fBin g fa fb) := fun ρ Q Q' k h =>
  ha ρ _ _ (fun d hd => hb ρ _ _ (fun e he => hg d e _ _ k he) hd) h
theorem bin_go {g : G2} {fa fb : SE} (hg : MonoG g) (ha : Mono fa) (hb : Mono fb) (σ : L2.St) (H : Hp) (Q : VK) (h : toV c (fBin g fa fb) σ H Q) : tOp (rD c g) (toB c fa) (toB c fb) σ H Q := by
  obtain ⟨B, ρ, ok, h⟩ := h
  refine ⟨B, ρ, ok, ha _ _ _ (fun d hd v B1 H1 g1 r1 => ?_) h⟩
  refine ⟨B1, ρ, ok.mono g1, hb _ _ _ (fun e he u B2 H2 g2 r2 => ?_) hd⟩
  exact ⟨B2, d, e, g2.w, r1.mono g2, r2, hg _ _ _ _ (fun z hz w B3 H3 g3 r3 => hz w B3 H3 ((g1.trans ok.w g2).trans ok.w g3) r3) he⟩
theorem v_bin {op : Operator} {g : G2} {a b : Expr} {fa fb : SE} {pos : Pos} (ho : OpD X c (binaryOp op) g) (ha : PB X c a fa) (hb : PB X c b fb) : PV X c (.BinOp a op b pos) (fBin g fa fb) :=
  ⟨mono_Bin ho.mono ha.mono hb.mono, pe_weak (pe_op ho.op ha.pe hb.pe) (bin_go ho.mono ha.mono hb.mono)⟩
def gSub : G2 | .int i, .int j, Q => Q (.int (i - j)) | _, _, _ => False
def gAdd : G2
  | .int i, .int j, Q => Q (.int (i + j))
  | .tuple xs, .tuple ys, Q => xs.length + ys.length ≤ sizeLine ∧ Q (.tuple (xs ++ ys))
  | .list xs, .list ys, Q => xs.length + ys.length ≤ sizeLine ∧ Q (.list (xs ++ ys))
  | .str x, .str y, Q => x.length + y.length ≤ sizeLine ∧ Q (.str (x ++ y))
  | _, _, _ => False
def gMul : G2 | .int i, .int j, Q => CMulW i j ∧ Q (.int (i * j)) | _, _, _ => False
def gDiv : G2 | .int i, .int j, Q => j.natAbs.log2 < 9000 ∧ (if 0 < j then Q (.int (i / j)) else j ≠ 0 ∧ Q (.int (i.fdiv j))) | _, _, _ => False
def gMod : G2 | .int i, .int j, Q => (if 0 < j then Q (.int (i % j)) else j ≠ 0 ∧ Q (.int (i.fmod j))) | _, _, _ => False
def gPow : G2 | .int i, .int j, Q => CPow i j ∧ Q (.int (i ^ j.toNat)) | _, _, _ => False
def gShl : G2 | .int i, .int j, Q => CPow i j ∧ Q (.int (i * 2 ^ j.toNat)) | _, _, _ => False
def gShr : G2 | .int i, .int j, Q => 0 ≤ j ∧ Q (.int (i / 2 ^ j.toNat)) | _, _, _ => False
theorem opd_int {f : Value → Value → Sem Value} {g : G2} {P : Int → Int → Prop} {k : Int → Int → Int} (h : OpR X f (rI P fun i j => .int (k i j)))
    (hg : ∀ d e Q, g d e Q → ∃ i j, d = .int i ∧ e = .int j ∧ P i j ∧ Q (.int (k i j))) (m : MonoG g) : OpD X c f g :=
  ⟨m, opr_weak h fun x y H Q ⟨B, d, e, w, r1, r2, q⟩ => by
    obtain ⟨i, j, e1, e2, p, q2⟩ := hg d e _ q
    subst e1 e2
    exact ⟨i, j, r1.int, r2.int, p, q2 _ B H (Gr.refl w) (.int _)⟩⟩
theorem rI0_I {f : Value → Value → Sem Value} {k : Int → Int → V} (h : OpR X f (rI0 k)) : OpR X f (rI (fun _ _ => True) k) := opr_weak h fun _ _ _ _ ⟨i, j, h1, h2, _, h3⟩ => ⟨i, j, h1, h2, h3⟩
theorem m_Sub : MonoG gSub := fun d e Q Q' k h => by cases d <;> cases e <;> first | exact k _ h | exact h.elim
theorem o_sub : OpD X c (binaryOp .Sub) gSub := opd_int (rI0_I op_sub) (fun d e Q h => by cases d <;> cases e <;> first | exact ⟨_, _, rfl, rfl, trivial, h⟩ | exact h.elim) m_Sub
theorem m_Mul : MonoG gMul := fun d e Q Q' k h => by cases d <;> cases e <;> first | exact ⟨h.1, k _ h.2⟩ | exact h.elim
theorem o_mul : OpD X c (binaryOp .Mult) gMul := opd_int op_mulW (fun d e Q h => by cases d <;> cases e <;> first | exact ⟨_, _, rfl, rfl, h.1, h.2⟩ | exact h.elim) m_Mul
theorem m_Pow : MonoG gPow := fun d e Q Q' k h => by cases d <;> cases e <;> first | exact ⟨h.1, k _ h.2⟩ | exact h.elim
theorem o_pow : OpD X c (binaryOp .Pow) gPow := opd_int op_pow (fun d e Q h => by cases d <;> cases e <;> first | exact ⟨_, _, rfl, rfl, h.1, h.2⟩ | exact h.elim) m_Pow
theorem m_Shl : MonoG gShl := fun d e Q Q' k h => by cases d <;> cases e <;> first | exact ⟨h.1, k _ h.2⟩ | exact h.elim
theorem o_shl : OpD X c (binaryOp .LShift) gShl := opd_int op_shl (fun d e Q h => by cases d <;> cases e <;> first | exact ⟨_, _, rfl, rfl, h.1, h.2⟩ | exact h.elim) m_Shl
theorem m_Shr : MonoG gShr := fun d e Q Q' k h => by cases d <;> cases e <;> first | exact ⟨h.1, k _ h.2⟩ | exact h.elim
theorem o_shr : OpD X c (binaryOp .RShift) gShr := opd_int (P := fun _ j => 0 ≤ j) op_shr (fun d e Q h => by cases d <;> cases e <;> first | exact ⟨_, _, rfl, rfl, h.1, h.2⟩ | exact h.elim) m_Shr
theorem op_fdivA : OpR X (binaryOp .FloorDiv) (rI (fun _ j => j ≠ 0 ∧ j.natAbs.log2 < 9000) fun i j => .int (i.fdiv j)) := opI fun i j _ _ _ _ _ hc q => by
  exact floordiv_int hc.1 q (.inl (PyProof.noPylong_of_log2 hc.2))
theorem m_Div : MonoG gDiv := fun d e Q Q' k h => by
  cases d <;> cases e <;> first
    | exact h.elim
    | (refine ⟨h.1, ?_⟩
       have h2 := h.2
       split at h2
       · rw [if_pos (by assumption)]; exact k _ h2
       · rw [if_neg (by assumption)]; exact ⟨h2.1, k _ h2.2⟩)
theorem o_div : OpD X c (binaryOp .FloorDiv) gDiv := opd_int op_fdivA (fun d e Q h => by
  cases d <;> cases e <;> first
    | exact h.elim
    | (refine ⟨_, _, rfl, rfl, ?_⟩
       obtain ⟨h1, h2⟩ := h
       split at h2
       · rename_i hp
         exact ⟨⟨by omega, h1⟩, by rw [Int.fdiv_eq_ediv_of_nonneg _ (by omega)]; exact h2⟩
       · exact ⟨⟨h2.1, h1⟩, h2.2⟩)) m_Div
theorem m_Mod : MonoG gMod := fun d e Q Q' k h => by
  cases d <;> cases e <;> first
    | exact h.elim
    | (have h2 := h
       simp only [gMod] at h2 ⊢
       split at h2
       · rw [if_pos (by assumption)]; exact k _ h2
       · rw [if_neg (by assumption)]; exact ⟨h2.1, k _ h2.2⟩)
theorem o_mod : OpD X c (binaryOp .Mod) gMod := opd_int op_modN (fun d e Q h => by
  cases d <;> cases e <;> first
    | exact h.elim
    | (refine ⟨_, _, rfl, rfl, ?_⟩
       have h2 := h
       simp only [gMod] at h2
       split at h2
       · rename_i hp
         exact ⟨by omega, by rw [Int.fmod_eq_emod_of_nonneg _ (by omega)]; exact h2⟩
       · exact ⟨h2.1, h2.2⟩)) m_Mod
theorem m_Add : MonoG gAdd := fun d e Q Q' k h => by cases d <;> cases e <;> first | exact k _ h | exact ⟨h.1, k _ h.2⟩ | exact h.elim
theorem o_add : OpD X c (binaryOp .Add) gAdd := by
  refine ⟨m_Add, fun pins s σ H x y v u Q I rx ry ⟨B, d, e, w, r1, r2, q⟩ => ?_⟩
  cases d <;> cases e <;> first | exact q.elim | skip
  · exact op_add pins s σ H x y v u Q I rx ry ⟨_, _, r1.int, r2.int, q _ B H (Gr.refl w) (.int _)⟩
  · exact op_add_str pins s σ H x y v u Q I rx ry ⟨_, _, r1.str, r2.str, q.1, q.2 _ B H (Gr.refl w) (.str _)⟩
  · obtain ⟨a, xs, rfl, h1, h2⟩ := r1.list w
    obtain ⟨b, ys, rfl, h3, h4⟩ := r2.list w
    refine op_cat pins s σ H _ _ v u Q I rx ry ⟨a, b, xs, ys, rfl, rfl, h1, h3, ?_, fun p hp => ?_⟩
    · rw [rpa_len h2, rpa_len h4]; exact q.1
    · have g := Gr.new (o := .lst (xs ++ ys)) w hp
      exact q.2 _ _ _ g (.lst upd_same (rpa_app (rpa_mono g.b h2) (rpa_mono g.b h4)))
  · obtain ⟨a, xs, rfl, h1, h2⟩ := r1.tup w
    obtain ⟨b, ys, rfl, h3, h4⟩ := r2.tup w
    refine op_catA pins s σ H _ _ v u Q I rx ry ⟨a, b, xs, ys, rfl, rfl, SqT.of h1, SqT.of h3, ?_, fun z => ?_, fun _ z => ?_, fun _ _ p hp => ?_⟩
    · rw [rpa_len h2, rpa_len h4]; exact q.1
    · have z' := (rpa_nil_iff h2).mp z
      subst z'
      rcases r2 with r2 | ⟨_, _, _, _, e, _⟩
      · exact q.2 _ B H (Gr.refl w) r2
      · cases e
    · have z' := (rpa_nil_iff h4).mp z
      subst z'
      rcases r1 with r1 | ⟨_, _, _, _, e, _⟩
      · have q2 := q.2
        rw [List.append_nil] at q2
        exact q2 _ B H (Gr.refl w) r1
      · cases e
    · have g := Gr.new (o := .tup (xs ++ ys)) w hp
      exact q.2 _ _ _ g (.tup upd_same (rpa_app (rpa_mono g.b h2) (rpa_mono g.b h4)))
/-! ### one place -/
def fNeg (fa : SE) : SE := fun ρ Q => fa ρ fun d => match d with | .int i => Q (.int (-i)) | _ => False
theorem v_neg {a : Expr} {fa : SE} {pos : Pos} (ha : PB X c a fa) : PV X c (.UnaryOp .USub a pos) (fNeg fa) := by
  refine ⟨fun ρ Q Q' k h => ha.mono _ _ _ (fun d hd => ?_) h, pe_weak (pe_un un_neg ha.pe) fun σ H Q ⟨B, ρ, ok, h⟩ => ?_⟩
  · cases d <;> first | exact k _ hd | exact hd.elim
  · refine ⟨B, ρ, ok, ha.mono _ _ _ (fun d hd v B1 H1 g1 r1 => ?_) h⟩
    cases d <;> first | exact hd.elim | skip
    rename_i i
    exact ⟨i, r1.int, hd _ B1 H1 g1 (.int _)⟩
/-! ### comparisons -/
abbrev GC := D → D → (Bool → Prop) → Prop
def MonoC (g : GC) : Prop := ∀ d e (Q Q' : Bool → Prop), (∀ z, Q z → Q' z) → g d e Q → g d e Q'
def rC (c : C) (g : GC) : R2 := fun x y H Q => ∃ B d e, Wd c B H ∧ Bw c B H x d ∧ Bw c B H y e ∧ g d e fun b => Q (.bl b) H
structure CmpD (X : Cx) (c : C) (op : CmpOp) (g : GC) : Prop where
  mono : MonoC g
  op : OpR X (compareOp op) (rC c g)
def gv (g : GC) : G2 := fun d e Q => g d e fun b => Q (.bool b)
def fCmp (g : GC) (fa fb : SE) : ST := fun ρ Q => fa ρ fun d => fb ρ fun e => g d e Q
theorem CmpD.v {op : CmpOp} {g : GC} (h : CmpD X c op g) : OpD X c (compareOp op) (gv g) :=
  ⟨fun d e Q Q' k q => h.mono d e _ _ (fun b hb => k _ hb) q, opr_weak h.op fun x y H Q ⟨B, d, e, w, r1, r2, q⟩ => ⟨B, d, e, w, r1, r2, h.mono _ _ _ _ (fun b hb => hb _ B H (Gr.refl w) (.bl b)) q⟩⟩
theorem v_cmp {op : CmpOp} {g : GC} {a b : Expr} {fa fb : SE} {pos : Pos} (ho : CmpD X c op g) (ha : PB X c a fa) (hb : PB X c b fb) (hm : behindInMarks op b = false := by first | exact nomark _ | with_unfolding_all rfl) : PV X c (.Compare a [op] [b] pos) (fBin (gv g) fa fb) :=
  ⟨mono_Bin ho.v.mono ha.mono hb.mono, pe_weak (pe_cmpR ho.v.op ha.pe hb.pe hm) (bin_go ho.v.mono ha.mono hb.mono)⟩
theorem t_cmp {op : CmpOp} {g : GC} {a b : Expr} {fa fb : SE} {pos : Pos} (ho : CmpD X c op g) (ha : PB X c a fa) (hb : PB X c b fb) (hm : behindInMarks op b = false := by first | exact nomark _ | with_unfolding_all rfl) : PTd X c (.Compare a [op] [b] pos) (fCmp g fa fb) := by
  refine ⟨fun ρ Q Q' k h => ha.mono _ _ _ (fun d hd => hb.mono _ _ _ (fun e he => ho.mono _ _ _ _ k he) hd) h, pt_weak (pt_cmpR ho.op ha.pe hb.pe hm) fun σ H Q ⟨B, ρ, ok, h⟩ => ?_⟩
  refine ⟨B, ρ, ok, ha.mono _ _ _ (fun d hd v B1 H1 g1 r1 => ?_) h⟩
  refine ⟨B1, ρ, ok.mono g1, hb.mono _ _ _ (fun e he u B2 H2 g2 r2 => ?_) hd⟩
  exact ⟨B2, d, e, g2.w, r1.mono g2, r2, ho.mono _ _ _ _ (fun b hb => ⟨b, rfl, hb B2 H2 (g1.trans ok.w g2)⟩) he⟩
def gLt : GC | .int i, .int j, Q => Q (decide (i < j)) | _, _, _ => False
def gLe : GC | .int i, .int j, Q => Q (decide (i ≤ j)) | _, _, _ => False
def gGt : GC | .int i, .int j, Q => Q (decide (j < i)) | _, _, _ => False
def gGe : GC | .int i, .int j, Q => Q (decide (j ≤ i)) | _, _, _ => False
theorem cmpd_int {op : CmpOp} {g : GC} {k : Int → Int → Bool} (h : OpR X (compareOp op) (rI0 fun i j => .bl (k i j))) (hg : ∀ d e Q, g d e Q → ∃ i j, d = .int i ∧ e = .int j ∧ Q (k i j)) (m : MonoC g) : CmpD X c op g :=
  ⟨m, opr_weak h fun x y H Q ⟨B, d, e, w, r1, r2, q⟩ => by
    obtain ⟨i, j, e1, e2, q2⟩ := hg d e _ q
    subst e1 e2
    exact ⟨i, j, r1.int, r2.int, q2⟩⟩
theorem m_Lt : MonoC gLt := fun d e Q Q' k h => by cases d <;> cases e <;> first | exact k _ h | exact h.elim
theorem m_Le : MonoC gLe := fun d e Q Q' k h => by cases d <;> cases e <;> first | exact k _ h | exact h.elim
theorem m_Gt : MonoC gGt := fun d e Q Q' k h => by cases d <;> cases e <;> first | exact k _ h | exact h.elim
theorem m_Ge : MonoC gGe := fun d e Q Q' k h => by cases d <;> cases e <;> first | exact k _ h | exact h.elim
theorem o_lt : CmpD X c .Lt gLt := cmpd_int op_lt (fun d e Q h => by cases d <;> cases e <;> first | exact ⟨_, _, rfl, rfl, h⟩ | exact h.elim) m_Lt
theorem o_le : CmpD X c .LtE gLe := cmpd_int op_le (fun d e Q h => by cases d <;> cases e <;> first | exact ⟨_, _, rfl, rfl, h⟩ | exact h.elim) m_Le
theorem o_gt : CmpD X c .Gt gGt := cmpd_int op_gt (fun d e Q h => by cases d <;> cases e <;> first | exact ⟨_, _, rfl, rfl, h⟩ | exact h.elim) m_Gt
theorem o_ge : CmpD X c .GtE gGe := cmpd_int op_ge (fun d e Q h => by cases d <;> cases e <;> first | exact ⟨_, _, rfl, rfl, h⟩ | exact h.elim) m_Ge
/-- equality: ints by themselves, else data -/
def gEq : GC
  | .int i, .int j, Q => Q (decide (i = j))
  | .str x, .str y, Q => Q (decide (x = y))
  | .bool a, .bool b, Q => Q (decide (a = b))
  | d, e, Q => SeqAt.shaped d = true ∧ SeqAt.shaped e = true ∧ Q (PyData.eqv d e)
def gNe : GC
  | .int i, .int j, Q => Q (!decide (i = j))
  | .str x, .str y, Q => Q (!decide (x = y))
  | .bool a, .bool b, Q => Q (!decide (a = b))
  | d, e, Q => SeqAt.shaped d = true ∧ SeqAt.shaped e = true ∧ Q (!PyData.eqv d e)
theorem m_Eq : MonoC gEq := fun d e Q Q' k h => by
  unfold gEq at h ⊢
  split at h <;> first | exact k _ h | exact ⟨h.1, h.2.1, k _ h.2.2⟩
theorem m_Ne : MonoC gNe := fun d e Q Q' k h => by
  unfold gNe at h ⊢
  split at h <;> first | exact k _ h | exact ⟨h.1, h.2.1, k _ h.2.2⟩
theorem eqv_int (i j : Int) : PyData.eqv (.int i) (.int j) = decide (i = j) := by
  simp only [PyData.eqv]
  rfl
theorem shaped_int (i : Int) : SeqAt.shaped (.int i) = true := by simp [SeqAt.shaped, PyData.canLay0, PyData.depth]
theorem opr_or {f : Value → Value → Sem Value} {r r' : R2} (h : OpR X f r) (h' : OpR X f r') : OpR X f fun x y H Q => r x y H Q ∨ r' x y H Q := fun pins s σ H x y v u Q I rx ry q => q.elim (h pins s σ H x y v u Q I rx ry) (h' pins s σ H x y v u Q I rx ry)
theorem o_eq (hu : X.A.units + 64 < cLine) : CmpD X c .Eq gEq := by
  refine ⟨m_Eq, opr_weak (opr_or (op_eqD hu) op_eq) fun x y H Q ⟨B, d, e, w, r1, r2, q⟩ => ?_⟩
  have gen : (SeqAt.shaped d = true ∧ SeqAt.shaped e = true ∧ Q (.bl (PyData.eqv d e)) H) → rEqD X.K x y H Q ∨ rEq x y H Q := fun q' =>
    .inl ⟨d, e, rp_dp (r1.rp w) (SeqAt.canLay_of_shaped q'.1), rp_dp (r2.rp w) (SeqAt.canLay_of_shaped q'.2.1), q'.1, q'.2.1, q'.2.2⟩
  unfold gEq at q
  split at q
  · exact gen ⟨shaped_int _, shaped_int _, by rw [eqv_int]; exact q⟩
  · rw [r1.str, r2.str]
    refine .inr ⟨rfl, ?_⟩
    simpa using q
  · rw [r1.bl, r2.bl]
    refine .inr ⟨rfl, ?_⟩
    simpa using q
  · exact gen q
theorem o_ne (hu : X.A.units + 64 < cLine) : CmpD X c .NotEq gNe := by
  refine ⟨m_Ne, opr_weak (opr_or (op_neD hu) op_ne) fun x y H Q ⟨B, d, e, w, r1, r2, q⟩ => ?_⟩
  have gen : (SeqAt.shaped d = true ∧ SeqAt.shaped e = true ∧ Q (.bl (!PyData.eqv d e)) H) → rNeD X.K x y H Q ∨ rNe x y H Q := fun q' =>
    .inl ⟨d, e, rp_dp (r1.rp w) (SeqAt.canLay_of_shaped q'.1), rp_dp (r2.rp w) (SeqAt.canLay_of_shaped q'.2.1), q'.1, q'.2.1, q'.2.2⟩
  unfold gNe at q
  split at q
  · exact gen ⟨shaped_int _, shaped_int _, by rw [eqv_int]; exact q⟩
  · rw [r1.str, r2.str]
    refine .inr ⟨rfl, ?_⟩
    simpa using q
  · rw [r1.bl, r2.bl]
    refine .inr ⟨rfl, ?_⟩
    simpa using q
  · exact gen q
/-- is None -/
def isNone : D → Bool | .none => true | _ => false
def gIsN : GC | d, .none, Q => Q (isNone d) | _, _, _ => False
def gNotN : GC | d, .none, Q => Q (!isNone d) | _, _, _ => False
theorem m_IsN : MonoC gIsN := fun d e Q Q' k h => by cases e <;> first | exact k _ h | exact h.elim
theorem m_NotN : MonoC gNotN := fun d e Q Q' k h => by cases e <;> first | exact k _ h | exact h.elim
theorem bw_none {B H : Hp} {v : V} {d : D} (r : Bw c B H v d) : decide (v = .non) = isNone d := by
  rcases r with r | ⟨p, vs, ds, rfl, rfl, _⟩
  · cases r <;> rfl
  · rfl
theorem o_isN : CmpD X c .Is gIsN := ⟨m_IsN, opr_weak op_isN fun x y H Q ⟨B, d, e, w, r1, r2, q⟩ => by
  cases e <;> first | exact q.elim | exact ⟨r2.non, by rw [bw_none r1]; exact q⟩⟩
theorem o_notN : CmpD X c .IsNot gNotN := ⟨m_NotN, opr_weak op_notN fun x y H Q ⟨B, d, e, w, r1, r2, q⟩ => by
  cases e <;> first | exact q.elim | exact ⟨r2.non, by rw [bw_none r1]; exact q⟩⟩
/-! ### truth -/
def fTV (fa : SE) : ST := fun ρ Q => fa ρ fun d => match d with | .bool b => Q b | _ => False
theorem t_val {e : Expr} {fa : SE} (ha : PB X c e fa) (he : ∀ whole, isTrue e X.env whole = (do let v ← whole; standAt e.pos; holding [v] (truthy v)) := by intro _; rfl) : PTd X c e (fTV fa) := by
  refine ⟨fun ρ Q Q' k h => ha.mono _ _ _ (fun d hd => ?_) h, pt_weak (pt_val ha.pe he) fun σ H Q ⟨B, ρ, ok, h⟩ => ?_⟩
  · cases d <;> first | exact k _ hd | exact hd.elim
  · refine ⟨B, ρ, ok, ha.mono _ _ _ (fun d hd v B1 H1 g1 r1 => ?_) h⟩
    cases d <;> first | exact hd.elim | skip
    rename_i i
    exact ⟨i, r1.bl, hd B1 H1 g1⟩
def fNot (fa : ST) : ST := fun ρ Q => fa ρ fun b => Q (!b)
theorem t_not {a : Expr} {fa : ST} {pos : Pos} (ha : PTd X c a fa) : PTd X c (.UnaryOp .Not a pos) (fNot fa) :=
  ⟨fun ρ Q Q' k h => ha.mono _ _ _ (fun b hb => k _ hb) h, pt_weak (pt_not ha.pt) fun σ H Q ⟨B, ρ, ok, h⟩ => ⟨B, ρ, ok, h⟩⟩
/-- a chain of and, of or -/
structure PWd (X : Cx) (c : C) (e : Expr) (f : ST) : Prop where
  mono : MonoT f
  pw : PW X e (toT c f)
theorem pw_weak {X : Cx} {e : Expr} {t t' : TT} (h : PW X e t) (w : ∀ σ H Q, t' σ H Q → t σ H Q) : PW X e t' := ⟨fun wh pins s σ H Q I q => h.run wh pins s σ H Q I (w σ H Q q)⟩
def fAnd (fa fb : ST) : ST := fun ρ Q => fa ρ fun b => if b = true then fb ρ Q else Q false
def fOr (fa fb : ST) : ST := fun ρ Q => fa ρ fun b => if b = true then Q true else fb ρ Q
theorem PWd.t {e : Expr} {f : ST} (h : PWd X c e f) : PTd X c e f := ⟨h.mono, h.pw.pt⟩
theorem w_and1 {a : Expr} {fa : ST} {pos : Pos} (ha : PTd X c a fa) : PWd X c (.BoolOp .And [a] pos) fa := ⟨ha.mono, pw_and1 ha.pt⟩
theorem w_or1 {a : Expr} {fa : ST} {pos : Pos} (ha : PTd X c a fa) : PWd X c (.BoolOp .Or [a] pos) fa := ⟨ha.mono, pw_or1 ha.pt⟩
theorem mono_And {fa fb : ST} (ha : MonoT fa) (hb : MonoT fb) : MonoT (fAnd fa fb) := fun ρ Q Q' k h => ha _ _ _ (fun b hd => by
  cases b with
  | true => exact hb _ _ _ k hd
  | false => exact k _ hd) h
theorem mono_Or {fa fb : ST} (ha : MonoT fa) (hb : MonoT fb) : MonoT (fOr fa fb) := fun ρ Q Q' k h => ha _ _ _ (fun b hd => by
  cases b with
  | true => exact k _ hd
  | false => exact hb _ _ _ k hd) h
theorem w_and {a b : Expr} {rest : List Expr} {fa fb : ST} {pos : Pos} (ha : PTd X c a fa) (hb : PWd X c (.BoolOp .And (b :: rest) pos) fb) : PWd X c (.BoolOp .And (a :: b :: rest) pos) (fAnd fa fb) := by
  refine ⟨mono_And ha.mono hb.mono, pw_weak (pw_and ha.pt hb.pw) fun σ H Q ⟨B, ρ, ok, h⟩ => ⟨B, ρ, ok, ha.mono _ _ _ (fun d hd B1 H1 g1 => ?_) h⟩⟩
  cases d with
  | true => exact ⟨B1, ρ, ok.mono g1, hb.mono _ _ _ (fun e he B2 H2 g2 => he B2 H2 (g1.trans ok.w g2)) hd⟩
  | false => exact hd B1 H1 g1
theorem w_or {a b : Expr} {rest : List Expr} {fa fb : ST} {pos : Pos} (ha : PTd X c a fa) (hb : PWd X c (.BoolOp .Or (b :: rest) pos) fb) : PWd X c (.BoolOp .Or (a :: b :: rest) pos) (fOr fa fb) := by
  refine ⟨mono_Or ha.mono hb.mono, pw_weak (pw_or ha.pt hb.pw) fun σ H Q ⟨B, ρ, ok, h⟩ => ⟨B, ρ, ok, ha.mono _ _ _ (fun d hd B1 H1 g1 => ?_) h⟩⟩
  cases d with
  | false => exact ⟨B1, ρ, ok.mono g1, hb.mono _ _ _ (fun e he B2 H2 g2 => he B2 H2 (g1.trans ok.w g2)) hd⟩
  | true => exact hd B1 H1 g1
/-- as values -/
def fAndV (fa fb : SE) : SE := fun ρ Q => fa ρ fun d => match d with | .bool b => if b = true then fb ρ Q else Q (.bool false) | _ => False
def fOrV (fa fb : SE) : SE := fun ρ Q => fa ρ fun d => match d with | .bool b => if b = true then Q (.bool true) else fb ρ Q | _ => False
def fNotV (fa : SE) : SE := fun ρ Q => fa ρ fun d => match d with | .bool b => Q (.bool (!b)) | _ => False
theorem v_one {op : BoolOp} {a : Expr} {fa : SE} {pos : Pos} (ha : PV X c a fa) : PV X c (.BoolOp op [a] pos) fa := ⟨ha.mono, pe_one ha.pe⟩
theorem v_and {a b : Expr} {rest : List Expr} {fa fb : SE} {pos : Pos} (ha : PB X c a fa) (hb : PV X c (.BoolOp .And (b :: rest) pos) fb) : PV X c (.BoolOp .And (a :: b :: rest) pos) (fAndV fa fb) := by
  refine ⟨fun ρ Q Q' k h => ha.mono _ _ _ (fun d hd => ?_) h, pe_weak (pe_and ha.pe hb.pe) fun σ H Q ⟨B, ρ, ok, h⟩ => ⟨B, ρ, ok, ha.mono _ _ _ (fun d hd v B1 H1 g1 r1 => ?_) h⟩⟩
  · cases d <;> first | exact hd.elim | skip
    rename_i b
    cases b with
    | true => exact hb.mono _ _ _ k hd
    | false => exact k _ hd
  · cases d <;> first | exact hd.elim | skip
    rename_i b
    refine ⟨b, r1.bl, ?_⟩
    cases b with
    | true => exact ⟨B1, ρ, ok.mono g1, hb.mono _ _ _ (fun e he v B2 H2 g2 => he v B2 H2 (g1.trans ok.w g2)) hd⟩
    | false => exact hd _ B1 H1 g1 (.bl _)
theorem v_or {a b : Expr} {rest : List Expr} {fa fb : SE} {pos : Pos} (ha : PB X c a fa) (hb : PV X c (.BoolOp .Or (b :: rest) pos) fb) : PV X c (.BoolOp .Or (a :: b :: rest) pos) (fOrV fa fb) := by
  refine ⟨fun ρ Q Q' k h => ha.mono _ _ _ (fun d hd => ?_) h, pe_weak (pe_or ha.pe hb.pe) fun σ H Q ⟨B, ρ, ok, h⟩ => ⟨B, ρ, ok, ha.mono _ _ _ (fun d hd v B1 H1 g1 r1 => ?_) h⟩⟩
  · cases d <;> first | exact hd.elim | skip
    rename_i b
    cases b with
    | false => exact hb.mono _ _ _ k hd
    | true => exact k _ hd
  · cases d <;> first | exact hd.elim | skip
    rename_i b
    refine ⟨b, r1.bl, ?_⟩
    cases b with
    | false => exact ⟨B1, ρ, ok.mono g1, hb.mono _ _ _ (fun e he v B2 H2 g2 => he v B2 H2 (g1.trans ok.w g2)) hd⟩
    | true => exact hd _ B1 H1 g1 (.bl _)
theorem v_not {a : Expr} {fa : SE} {pos : Pos} (ha : PB X c a fa) : PV X c (.UnaryOp .Not a pos) (fNotV fa) := by
  refine ⟨fun ρ Q Q' k h => ha.mono _ _ _ (fun d hd => ?_) h, pe_weak (pe_not ha.pe) fun σ H Q ⟨B, ρ, ok, h⟩ => ⟨B, ρ, ok, ha.mono _ _ _ (fun d hd v B1 H1 g1 r1 => ?_) h⟩⟩
  · cases d <;> first | exact hd.elim | exact k _ hd
  · cases d <;> first | exact hd.elim | skip
    exact ⟨_, r1.bl, hd _ B1 H1 g1 (.bl _)⟩
def fIf (t : ST) (fa fb : SE) : SE := fun ρ Q => t ρ fun b => if b = true then fa ρ Q else fb ρ Q
theorem mono_If {t : ST} {fa fb : SE} (ht : MonoT t) (ha : Mono fa) (hb : Mono fb) : Mono (fIf t fa fb) := fun ρ Q Q' k h => ht _ _ _ (fun b hd => by
  cases b with
  | true => exact ha _ _ _ k hd
  | false => exact hb _ _ _ k hd) h
theorem v_if {t : ST} {cc a b : Expr} {fa fb : SE} {pos : Pos} (ht : PTd X c cc t) (ha : PV X c a fa) (hb : PV X c b fb) : PV X c (.IfExp cc a b pos) (fIf t fa fb) := by
  refine ⟨mono_If ht.mono ha.mono hb.mono, pe_weak (pe_ifExp ht.pt ha.pe hb.pe) fun σ H Q ⟨B, ρ, ok, h⟩ => ⟨B, ρ, ok, ht.mono _ _ _ (fun d hd B1 H1 g1 => ?_) h⟩⟩
  cases d with
  | true => exact ⟨B1, ρ, ok.mono g1, ha.mono _ _ _ (fun e he v B2 H2 g2 => he v B2 H2 (g1.trans ok.w g2)) hd⟩
  | false => exact ⟨B1, ρ, ok.mono g1, hb.mono _ _ _ (fun e he v B2 H2 g2 => he v B2 H2 (g1.trans ok.w g2)) hd⟩
end
end DL
namespace DL
open PySem L2 PyProof.Rows
/-! ### lists of expressions -/
abbrev SL := Env → (List D → Prop) → Prop
def MonoL (f : SL) : Prop := ∀ ρ (Q Q' : List D → Prop), (∀ d, Q d → Q' d) → f ρ Q → f ρ Q'
def BwA (c : C) (B H : Hp) : List V → List D → Prop
  | [], [] => True
  | v :: vs, d :: ds => Bw c B H v d ∧ BwA c B H vs ds
  | _, _ => False
theorem BwA.mono {c : C} {B H B' H' : Hp} (g : Gr c B H B' H') : ∀ {vs : List V} {ds : List D}, BwA c B H vs ds → BwA c B' H' vs ds
  | [], [], _ => trivial
  | _ :: _, _ :: _, h => ⟨h.1.mono g, BwA.mono g h.2⟩
  | [], _ :: _, h => h
  | _ :: _, [], h => h
theorem BwA.one {c : C} {B H : Hp} {vs : List V} {d : D} (h : BwA c B H vs [d]) : ∃ v, vs = [v] ∧ Bw c B H v d := by
  cases vs with
  | nil => exact h.elim
  | cons v r => cases r with
    | nil => exact ⟨v, rfl, h.1⟩
    | cons _ _ => exact h.2.elim
theorem BwA.two {c : C} {B H : Hp} {vs : List V} {d e : D} (h : BwA c B H vs [d, e]) : ∃ v u, vs = [v, u] ∧ Bw c B H v d ∧ Bw c B H u e := by
  cases vs with
  | nil => exact h.elim
  | cons v r =>
    obtain ⟨u, e1, h2⟩ := BwA.one (d := e) (vs := r) h.2
    subst e1
    exact ⟨v, u, rfl, h.1, h2⟩
theorem BwA.nil {c : C} {B H : Hp} {vs : List V} (h : BwA c B H vs []) : vs = [] := by
  cases vs with
  | nil => rfl
  | cons v r => exact h.elim
def toD (c : C) (f : SL) : TA := fun σ H Q => ∃ B ρ, EOk c B H σ ρ ∧ f ρ fun ds => ∀ vs B' H', Gr c B H B' H' → RpA B' vs ds → Q vs H'
def toDB (c : C) (f : SL) : TA := fun σ H Q => ∃ B ρ, EOk c B H σ ρ ∧ f ρ fun ds => ∀ vs B' H', Gr c B H B' H' → BwA c B' H' vs ds → Q vs H'
structure PDd (X : Cx) (c : C) (es : List Expr) (f : SL) : Prop where
  mono : MonoL f
  len : ∀ ρ Q, f ρ Q → f ρ fun ds => Q ds ∧ ds.length = es.length
  pa : PA X es (toD c f)
structure PBd (X : Cx) (c : C) (es : List Expr) (f : SL) : Prop where
  mono : MonoL f
  pa : PA X es (toDB c f)
def fLN : SL := fun _ Q => Q []
def fLC (fa : SE) (fr : SL) : SL := fun ρ Q => fa ρ fun d => fr ρ fun ds => Q (d :: ds)
section
variable {X : Cx} {c : C}
theorem mono_LC {fa : SE} {fr : SL} (ha : Mono fa) (hr : MonoL fr) : MonoL (fLC fa fr) := fun ρ Q Q' k h => ha _ _ _ (fun d hd => hr _ _ _ (fun ds he => k _ he) hd) h
theorem d_nil : PDd X c [] fLN := ⟨fun _ _ _ k h => k _ h, fun _ _ h => ⟨h, rfl⟩, pa_weak pa_nil fun σ H Q ⟨B, ρ, ok, h⟩ => h [] B H (Gr.refl ok.w) .nil⟩
theorem d_cons {e : Expr} {es : List Expr} {fa : SE} {fr : SL} (ha : PV X c e fa) (hr : PDd X c es fr) (hs : starEach (e :: es) X.env = (false, eval e X.env) :: starEach es X.env := by rfl) : PDd X c (e :: es) (fLC fa fr) := by
  refine ⟨mono_LC ha.mono hr.mono, fun ρ Q h => ha.mono _ _ _ (fun d hd => hr.mono _ _ _ (fun ds q => ⟨q.1, by rw [List.length_cons, List.length_cons, q.2]⟩) (hr.len _ _ hd)) h, pa_weak (pa_cons ha.pe hr.pa hs) fun σ H Q ⟨B, ρ, ok, h⟩ => ?_⟩
  refine ⟨B, ρ, ok, ha.mono _ _ _ (fun d hd v B1 H1 g1 r1 => ?_) h⟩
  exact ⟨B1, ρ, ok.mono g1, hr.mono _ _ _ (fun ds he vs B2 H2 g2 r2 => he _ B2 H2 (g1.trans ok.w g2) (.cons (rp_mono g2.b r1) r2)) hd⟩
theorem bb_nil : PBd X c [] fLN := ⟨fun _ _ _ k h => k _ h, pa_weak pa_nil fun σ H Q ⟨B, ρ, ok, h⟩ => h [] B H (Gr.refl ok.w) trivial⟩
theorem bb_cons {e : Expr} {es : List Expr} {fa : SE} {fr : SL} (ha : PB X c e fa) (hr : PBd X c es fr) (hs : starEach (e :: es) X.env = (false, eval e X.env) :: starEach es X.env := by rfl) : PBd X c (e :: es) (fLC fa fr) := by
  refine ⟨mono_LC ha.mono hr.mono, pa_weak (pa_cons ha.pe hr.pa hs) fun σ H Q ⟨B, ρ, ok, h⟩ => ?_⟩
  refine ⟨B, ρ, ok, ha.mono _ _ _ (fun d hd v B1 H1 g1 r1 => ?_) h⟩
  exact ⟨B1, ρ, ok.mono g1, hr.mono _ _ _ (fun ds he vs B2 H2 g2 r2 => he _ B2 H2 (g1.trans ok.w g2) ⟨r1.mono g2, r2⟩) hd⟩
/-- arguments of a def -/
def fAN : SA := fun _ Q => Q []
def fAC (fa : SE) (fr : SA) : SA := fun ρ Q => fa ρ fun d => fr ρ fun ds => Q (.sh d :: ds)
def fAB (i : Nat) (fr : SA) : SA := fun ρ Q => match lk ρ i with | .bg => fr ρ fun ds => Q (.bg :: ds) | _ => False
theorem a_nil : PAd X c [] fAN := ⟨fun _ _ _ k h => k _ h, pa_weak pa_nil fun σ H Q ⟨B, ρ, ok, h⟩ => h [] B H (Gr.refl ok.w) trivial⟩
theorem a_cons {e : Expr} {es : List Expr} {fa : SE} {fr : SA} (ha : PV X c e fa) (hr : PAd X c es fr) (hs : starEach (e :: es) X.env = (false, eval e X.env) :: starEach es X.env := by rfl) : PAd X c (e :: es) (fAC fa fr) := by
  refine ⟨fun ρ Q Q' k h => ha.mono _ _ _ (fun d hd => hr.mono _ _ _ (fun ds he => k _ he) hd) h, pa_weak (pa_cons ha.pe hr.pa hs) fun σ H Q ⟨B, ρ, ok, h⟩ => ?_⟩
  refine ⟨B, ρ, ok, ha.mono _ _ _ (fun d hd v B1 H1 g1 r1 => ?_) h⟩
  exact ⟨B1, ρ, ok.mono g1, hr.mono _ _ _ (fun ds he vs B2 H2 g2 r2 => he _ B2 H2 (g1.trans ok.w g2) ⟨rp_mono g2.b r1, r2⟩) hd⟩
/-- the bag handed on -/
theorem a_bag (i : Nat) {x : Str} {pos : Pos} {es : List Expr} {fr : SA} (hr : PAd X c es fr) (hN : X.N[i]? = some x := by rfl) (hv : Vis X.env.scope x := by first | exact Or.inl rfl | exact Or.inr (Or.inl rfl) | exact Or.inr (Or.inr rfl))
    (hs : starEach (.Name x pos :: es) X.env = (false, eval (.Name x pos) X.env) :: starEach es X.env := by rfl) (hd : (x == ("__debug__" : Str)) = false := by decide) (hcd : (x == ("__classdict__" : Str)) = false := by decide) : PAd X c (.Name x pos :: es) (fAB i fr) := by
  refine ⟨fun ρ Q Q' k h => ?_, pa_weak (pa_cons (pe_var hN hv hd hcd) hr.pa hs) fun σ H Q ⟨B, ρ, ok, h⟩ => ?_⟩
  · unfold fAB at h ⊢
    cases e : lk ρ i <;> rw [e] at h <;> first | exact h.elim | exact hr.mono _ _ _ (fun ds he => k _ he) h
  · unfold fAB at h
    cases e : lk ρ i <;> rw [e] at h <;> first | exact h.elim | skip
    have h1 := ok.sl i _ (lk_get e (fun z => nomatch z))
    exact ⟨_, h1, B, ρ, ok, hr.mono _ _ _ (fun ds he vs B2 H2 g2 r2 => he _ B2 H2 g2 ⟨rfl, r2⟩) h⟩
/-! ### new lists -/
def toN (c : C) (f : SL) : TE := fun σ H Q => ∃ B ρ, EOk c B H σ ρ ∧ f ρ fun ds => ∀ p vs B' H', Gr c B H B' H' → H p = none → B' p = none → H' p = some (.lst vs) → RpA B' vs ds → Q (.ref p) H'
structure PN (X : Cx) (c : C) (e : Expr) (f : SL) : Prop where
  mono : MonoL f
  pe : PE X e (toN c f)
/-- what is new may be shared -/
theorem Gr.share {B H B' H' : Hp} (w : Wd c B H) (g : Gr c B H B' H') {p : Addr} {vs : List V} (h0 : H p = none) (h1 : B' p = none) (h2 : H' p = some (.lst vs)) : Gr c B H (upd B' p (.lst vs)) H' := by
  have nb : ¬ c.isBag p := fun z => w.there z h0
  refine ⟨g.b.trans (Evl.Ex.new h1), g.h, fun a ha => ?_, fun a o e => ?_, g.w.bag.keep fun a ha => ⟨upd_ne fun z => nb (z ▸ ha), rfl⟩⟩
  · rw [upd_ne (fun z => ha (by rw [z]; exact h0))]
    exact g.n a ha
  · by_cases z : a = p
    · subst z
      rw [upd_same] at e
      rw [h2]; exact e
    · rw [upd_ne z] at e; exact g.w.sub a o e
def fNV (f : SL) : SE := fun ρ Q => f ρ fun ds => Q (.list ds)
theorem PN.v {e : Expr} {f : SL} (h : PN X c e f) : PV X c e (fNV f) := by
  refine ⟨fun ρ Q Q' k q => h.mono _ _ _ (fun ds hd => k _ hd) q, pe_weak h.pe fun σ H Q ⟨B, ρ, ok, q⟩ => ⟨B, ρ, ok, h.mono _ _ _ (fun ds hd p vs B' H' g h0 h1 h2 r => ?_) q⟩⟩
  have g' := Gr.share ok.w g h0 h1 h2
  exact hd _ _ _ g' (.lst upd_same (rpa_mono (Evl.Ex.new h1) r))
theorem n_lst {es : List Expr} {f : SL} {pos : Pos} (h : PDd X c es f) (hl : es.length ≤ 1000 := by decide) : PN X c (.List es pos) f := by
  refine ⟨h.mono, pe_weak (pe_lst h.pa) fun σ H Q ⟨B, ρ, ok, q⟩ => ⟨B, ρ, ok, h.mono _ _ _ (fun ds hd vs B' H' g r => ?_) (h.len _ _ q)⟩⟩
  refine ⟨?_, fun p hp => ?_⟩
  · rw [rpa_len r, hd.2]; exact Nat.le_of_lt (small1000 hl)
  · have g1 := Gr.newO (o := .lst vs) g.w hp
    have hB : B' p = none := Evl.fresh_back g.w.sub hp
    refine hd.1 p vs B' _ (g.trans ok.w g1) ?_ hB upd_same r
    cases e : H p with
    | none => rfl
    | some o =>
      by_cases z : c.isBag p
      · exact absurd hp (g.w.there z)
      · rw [g.h p o z e] at hp; cases hp
def fTup (f : SL) : SE := fun ρ Q => f ρ fun ds => Q (.tuple ds)
theorem v_tup {es : List Expr} {f : SL} {k : Nat} {pos : Pos} (h : PDd X c es f) (hl : es.length ≤ 1000 := by decide) : PV X c (.Tuple es k pos) (fTup f) := by
  refine ⟨fun ρ Q Q' k q => h.mono _ _ _ (fun ds hd => k _ hd) q, pe_weak (pe_tup h.pa) fun σ H Q ⟨B, ρ, ok, q⟩ => ⟨B, ρ, ok, h.mono _ _ _ (fun ds hd vs B' H' g r => ?_) (h.len _ _ q)⟩⟩
  refine ⟨?_, fun p hp => ?_⟩
  · rw [rpa_len r, hd.2]; exact Nat.le_of_lt (small1000 hl)
  · have g1 := Gr.new (o := .tup vs) g.w hp
    exact hd.1 _ _ _ (g.trans ok.w g1) (.tup upd_same (rpa_mono g1.b r))
/-! ### calls of what Python brings -/
abbrev GB := List D → (D → Prop) → Prop
def MonoB (g : GB) : Prop := ∀ ds (Q Q' : D → Prop), (∀ z, Q z → Q' z) → g ds Q → g ds Q'
structure CallD (X : Cx) (c : C) (f : Value) (g : GB) : Prop where
  mono : MonoB g
  call : CallR X f fun xs H Q => ∃ B ds, Wd c B H ∧ BwA c B H xs ds ∧ g ds fun z => ∀ v B' H', Gr c B H B' H' → Rp B' v z → Q v H'
theorem callr_weak {f : Value} {r r' : List V → Hp → VK → Prop} (h : CallR X f r) (w : ∀ xs H Q, r' xs H Q → r xs H Q) : CallR X f r' := fun pins s σ H xs us Q I rv q => h pins s σ H xs us Q I rv (w xs H Q q)
def fCB (g : GB) (fa : SL) : SE := fun ρ Q => fa ρ fun ds => g ds Q
theorem callB_go {g : GB} {fa : SL} (hg : MonoB g) (ha : MonoL fa) (σ : L2.St) (H : Hp) (Q : VK) (h : toV c (fCB g fa) σ H Q) :
    tCB (fun xs H Q => ∃ B ds, Wd c B H ∧ BwA c B H xs ds ∧ g ds fun z => ∀ v B' H', Gr c B H B' H' → Rp B' v z → Q v H') (toDB c fa) σ H Q := by
  obtain ⟨B, ρ, ok, h⟩ := h
  refine ⟨B, ρ, ok, ha _ _ _ (fun ds hd vs B1 H1 g1 r1 => ?_) h⟩
  exact ⟨B1, ds, g1.w, r1, hg _ _ _ (fun z hz v B2 H2 g2 r2 => hz v B2 H2 (g1.trans ok.w g2) r2) hd⟩
theorem v_callB {id : String} {g : GB} {fa : SL} {x : Str} {p pos : Pos} {e : Expr} {es : List Expr} (hc : CallD X c (.builtin id) g) (hm : X.mg x = none) (ha : PBd X c (e :: es) fa) (hg : Gl X x := by rfl) (hv : bootBuiltins x = some (.builtin id) := by decide +kernel)
    (hn : x ≠ "__name__" := by decide) (hdb : (x == ("__debug__" : Str)) = false := by decide)
    (he : starEach (e :: es) X.env = (false, eval e X.env) :: starEach es X.env := by rfl) (hpl : (backTo pos (starEach es X.env)).any (·.1) = false := by rfl) : PV X c (.Call (.Name x p) (e :: es) [] pos) (fCB g fa) :=
  ⟨fun ρ Q Q' k h => ha.mono _ _ _ (fun ds hd => hc.mono _ _ _ k hd) h, pe_weak (pe_callB hc.call hg hm hv ha.pa hn hdb he hpl) (callB_go hc.mono ha.mono)⟩
theorem v_callT {T : String} {g : GB} {fa : SL} {x : Str} {p pos : Pos} {e : Expr} {es : List Expr} (hc : CallD X c (.type T) g) (hm : X.mg x = none) (ha : PBd X c (e :: es) fa) (hg : Gl X x := by rfl) (hv : bootBuiltins x = some (.type T) := by decide +kernel)
    (hn : x ≠ "__name__" := by decide) (hdb : (x == ("__debug__" : Str)) = false := by decide)
    (he : starEach (e :: es) X.env = (false, eval e X.env) :: starEach es X.env := by rfl) (hpl : (backTo pos (starEach es X.env)).any (·.1) = false := by rfl) : PV X c (.Call (.Name x p) (e :: es) [] pos) (fCB g fa) :=
  ⟨fun ρ Q Q' k h => ha.mono _ _ _ (fun ds hd => hc.mono _ _ _ k hd) h, pe_weak (pe_callTy hc.call hg hm hv ha.pa hn hdb he hpl) (callB_go hc.mono ha.mono)⟩
def bInt : GB | [.int i], Q => Q (.int i) | [.bool b], Q => Q (.int (if b then 1 else 0)) | _, _ => False
def bAbs : GB | [.int i], Q => Q (.int (if i < 0 then -i else i)) | _, _ => False
def bLen : GB | [.list ds], Q => Q (.int ds.length) | [.tuple ds], Q => Q (.int ds.length) | [.str x], Q => x.length ≤ sizeLine ∧ Q (.int x.length) | _, _ => False
def bMax2 : GB | [.int i, .int j], Q => Q (.int (if j > i then j else i)) | _, _ => False
def bMin2 : GB | [.int i, .int j], Q => Q (.int (if j < i then j else i)) | _, _ => False
theorem m_Int : MonoB bInt := fun ds Q Q' k h => by
  unfold bInt at h ⊢
  split at h <;> first | exact k _ h | exact h.elim
theorem m_Abs : MonoB bAbs := fun ds Q Q' k h => by
  unfold bAbs at h ⊢
  split at h <;> first | exact k _ h | exact h.elim
theorem m_Len : MonoB bLen := fun ds Q Q' k h => by
  unfold bLen at h ⊢
  split at h <;> first | exact k _ h | exact ⟨h.1, k _ h.2⟩ | exact h.elim
theorem m_Max2 : MonoB bMax2 := fun ds Q Q' k h => by
  unfold bMax2 at h ⊢
  split at h <;> first | exact k _ h | exact h.elim
theorem m_Min2 : MonoB bMin2 := fun ds Q Q' k h => by
  unfold bMin2 at h ⊢
  split at h <;> first | exact k _ h | exact h.elim
theorem c_int : CallD X c (.type "int") bInt := ⟨m_Int, callr_weak call_int1 fun xs H Q ⟨B, ds, w, ra, q⟩ => by
  unfold bInt at q
  split at q <;> first | exact q.elim | skip
  · obtain ⟨v, e, r⟩ := ra.one
    subst e
    rw [r.int]
    exact .inl ⟨_, rfl, q _ B H (Gr.refl w) (.int _)⟩
  · obtain ⟨v, e, r⟩ := ra.one
    subst e
    rw [r.bl]
    exact .inr ⟨_, rfl, q _ B H (Gr.refl w) (.int _)⟩⟩
theorem c_abs : CallD X c (.builtin "abs") bAbs := ⟨m_Abs, callr_weak call_abs fun xs H Q ⟨B, ds, w, ra, q⟩ => by
  unfold bAbs at q
  split at q <;> first | exact q.elim | skip
  obtain ⟨v, e, r⟩ := ra.one
  subst e
  rw [r.int]
  exact ⟨_, rfl, q _ B H (Gr.refl w) (.int _)⟩⟩
theorem c_len : CallD X c (.builtin "len") bLen := ⟨m_Len, callr_weak call_len fun xs H Q ⟨B, ds, w, ra, q⟩ => by
  unfold bLen at q
  split at q <;> first | exact q.elim | skip
  · obtain ⟨v, e, r⟩ := ra.one
    subst e
    obtain ⟨a, xs, rfl, h1, h2⟩ := r.list w
    exact ⟨_, xs.length, rfl, .inl ⟨xs, SqL.of h1, rfl⟩, by rw [rpa_len h2]; exact q _ B H (Gr.refl w) (.int _)⟩
  · obtain ⟨v, e, r⟩ := ra.one
    subst e
    obtain ⟨a, xs, rfl, h1, h2⟩ := r.tup w
    exact ⟨_, xs.length, rfl, .inr ⟨xs, SqT.of h1, rfl⟩, by rw [rpa_len h2]; exact q _ B H (Gr.refl w) (.int _)⟩
  · obtain ⟨v, e, r⟩ := ra.one
    subst e
    rw [r.str]
    exact ⟨_, _, rfl, ⟨q.1, rfl⟩, q.2 _ B H (Gr.refl w) (.int _)⟩⟩
theorem c_max2 (hc : X.calm = true) : CallD X c (.builtin "max") bMax2 := ⟨m_Max2, callr_weak (call_max2 hc) fun xs H Q ⟨B, ds, w, ra, q⟩ => by
  unfold bMax2 at q
  split at q <;> first | exact q.elim | skip
  obtain ⟨v, u, e, r1, r2⟩ := ra.two
  subst e
  rw [r1.int, r2.int]
  exact ⟨_, _, rfl, q _ B H (Gr.refl w) (.int _)⟩⟩
theorem c_min2 (hc : X.calm = true) : CallD X c (.builtin "min") bMin2 := ⟨m_Min2, callr_weak (call_min2 hc) fun xs H Q ⟨B, ds, w, ra, q⟩ => by
  unfold bMin2 at q
  split at q <;> first | exact q.elim | skip
  obtain ⟨v, u, e, r1, r2⟩ := ra.two
  subst e
  rw [r1.int, r2.int]
  exact ⟨_, _, rfl, q _ B H (Gr.refl w) (.int _)⟩⟩
/-- tuple(x): of a list a new one, a tuple itself -/
def bTuple : GB | [.list ds], Q => Q (.tuple ds) | [.tuple ds], Q => Q (.tuple ds) | _, _ => False
theorem m_Tuple : MonoB bTuple := fun ds Q Q' k h => by
  unfold bTuple at h ⊢
  split at h <;> first | exact k _ h | exact h.elim
theorem c_tuple : CallD X c (.type "tuple") bTuple := ⟨m_Tuple, callr_weak call_tuple_of fun xs H Q ⟨B, ds, w, ra, q⟩ => by
  unfold bTuple at q
  split at q <;> first | exact q.elim | skip
  · obtain ⟨v, e, r⟩ := ra.one
    subst e
    obtain ⟨a, xs, rfl, h1, h2⟩ := r.list w
    refine ⟨a, xs, rfl, .inl ⟨SqL.of h1, fun l hl => ?_⟩⟩
    have g := Gr.new (o := .tup xs) w hl
    exact q _ _ _ g (.tup upd_same (rpa_mono g.b h2))
  · obtain ⟨v, e, r⟩ := ra.one
    subst e
    obtain ⟨a, xs, rfl, h1, h2⟩ := r.tup w
    refine ⟨a, xs, rfl, .inr ⟨SqT.of h1, ?_⟩⟩
    rcases r with r | ⟨_, _, _, _, e, _⟩
    · exact q _ B H (Gr.refl w) r
    · cases e⟩
/-- sums, bounds, all, any of lists -/
def asInts : List D → Option (List Int)
  | [] => some []
  | .int i :: r => (asInts r).map (i :: ·)
  | _ :: _ => none
def asBls : List D → Option (List Bool)
  | [] => some []
  | .bool i :: r => (asBls r).map (i :: ·)
  | _ :: _ => none
theorem asInts_eq : ∀ {ds : List D} {ns : List Int}, asInts ds = some ns → ds = ns.map PyData.int
  | [], ns, h => by
    simp only [asInts] at h
    cases h; rfl
  | d :: ds, ns, h => by
    cases d <;> simp only [asInts] at h <;> first | cases h | skip
    cases e : asInts ds with
    | none => rw [e] at h; cases h
    | some m =>
      rw [e] at h
      cases h
      rw [asInts_eq e]; rfl
theorem asInts_map : ∀ (ns : List Int), asInts (ns.map PyData.int) = some ns
  | [] => rfl
  | n :: ns => by simp only [List.map_cons, asInts, asInts_map ns, Option.map_some]
theorem asBls_eq : ∀ {ds : List D} {ns : List Bool}, asBls ds = some ns → ds = ns.map PyData.bool
  | [], ns, h => by
    simp only [asBls] at h
    cases h; rfl
  | d :: ds, ns, h => by
    cases d <;> simp only [asBls] at h <;> first | cases h | skip
    cases e : asBls ds with
    | none => rw [e] at h; cases h
    | some m =>
      rw [e] at h
      cases h
      rw [asBls_eq e]; rfl
theorem asBls_map : ∀ (ns : List Bool), asBls (ns.map PyData.bool) = some ns
  | [] => rfl
  | n :: ns => by simp only [List.map_cons, asBls, asBls_map ns, Option.map_some]
def intsOf : D → Option (List Int) | .list ds => asInts ds | _ => none
def blsOf : D → Option (List Bool) | .list ds => asBls ds | _ => none
def bSum : GB | [d], Q => (match intsOf d with | some ns => Q (.int ns.sum) | none => False) | _, _ => False
def bMaxL : GB | [d], Q => (match intsOf d with | some ns => 0 < ns.length ∧ ∀ m, m ∈ ns → (∀ y, y ∈ ns → y ≤ m) → Q (.int m) | none => False) | _, _ => False
def bMinL : GB | [d], Q => (match intsOf d with | some ns => 0 < ns.length ∧ ∀ m, m ∈ ns → (∀ y, y ∈ ns → m ≤ y) → Q (.int m) | none => False) | _, _ => False
def bAll : GB | [d], Q => (match blsOf d with | some ns => Q (.bool (ns.all id)) | none => False) | _, _ => False
def bAny : GB | [d], Q => (match blsOf d with | some ns => Q (.bool (ns.any id)) | none => False) | _, _ => False
theorem ints_rd {B H : Hp} {v : V} {d : D} {ns : List Int} (w : Wd c B H) (r : Bw c B H v d) (h : intsOf d = some ns) : ∃ a, v = .ref a ∧ SqL X.K H a (ns.map V.int) := by
  cases d <;> simp only [intsOf] at h <;> first | cases h | skip
  obtain ⟨a, xs, rfl, h1, h2⟩ := r.list w
  rw [asInts_eq h] at h2
  rw [rpa_ints h2] at h1
  exact ⟨a, rfl, SqL.of h1⟩
theorem bls_rd {B H : Hp} {v : V} {d : D} {ns : List Bool} (w : Wd c B H) (r : Bw c B H v d) (h : blsOf d = some ns) : ∃ a, v = .ref a ∧ SqL X.K H a (ns.map V.bl) := by
  cases d <;> simp only [blsOf] at h <;> first | cases h | skip
  obtain ⟨a, xs, rfl, h1, h2⟩ := r.list w
  rw [asBls_eq h] at h2
  rw [rpa_bls h2] at h1
  exact ⟨a, rfl, SqL.of h1⟩
theorem m_Sum : MonoB bSum := fun ds Q Q' k h => by
  unfold bSum at h ⊢
  split at h <;> first | exact h.elim | skip
  split at h <;> first | exact h.elim | exact k _ h
theorem c_sum (hc : X.calm = true) : CallD X c (.builtin "sum") bSum := ⟨m_Sum, callr_weak (cr_sum hc) fun xs H Q ⟨B, ds, w, ra, q⟩ => by
  unfold bSum at q
  split at q <;> first | exact q.elim | skip
  split at q <;> first | exact q.elim | skip
  rename_i e
  obtain ⟨v, e1, r⟩ := ra.one
  subst e1
  obtain ⟨a, rfl, h⟩ := ints_rd (X := X) w r e
  exact ⟨a, _, rfl, h, q _ B H (Gr.refl w) (.int _)⟩⟩
theorem m_MaxL : MonoB bMaxL := fun ds Q Q' k h => by
  unfold bMaxL at h ⊢
  split at h <;> first | exact h.elim | skip
  split at h <;> first | exact h.elim | exact ⟨h.1, fun m h1 h2 => k _ (h.2 m h1 h2)⟩
theorem c_maxL (hc : X.calm = true) : CallD X c (.builtin "max") bMaxL := ⟨m_MaxL, callr_weak (cr_max hc) fun xs H Q ⟨B, ds, w, ra, q⟩ => by
  unfold bMaxL at q
  split at q <;> first | exact q.elim | skip
  split at q <;> first | exact q.elim | skip
  rename_i e
  obtain ⟨v, e1, r⟩ := ra.one
  subst e1
  obtain ⟨a, rfl, h⟩ := ints_rd (X := X) w r e
  exact ⟨a, _, rfl, h, q.1, fun m h1 h2 => q.2 m h1 h2 _ B H (Gr.refl w) (.int _)⟩⟩
theorem m_MinL : MonoB bMinL := fun ds Q Q' k h => by
  unfold bMinL at h ⊢
  split at h <;> first | exact h.elim | skip
  split at h <;> first | exact h.elim | exact ⟨h.1, fun m h1 h2 => k _ (h.2 m h1 h2)⟩
theorem c_minL (hc : X.calm = true) : CallD X c (.builtin "min") bMinL := ⟨m_MinL, callr_weak (cr_min hc) fun xs H Q ⟨B, ds, w, ra, q⟩ => by
  unfold bMinL at q
  split at q <;> first | exact q.elim | skip
  split at q <;> first | exact q.elim | skip
  rename_i e
  obtain ⟨v, e1, r⟩ := ra.one
  subst e1
  obtain ⟨a, rfl, h⟩ := ints_rd (X := X) w r e
  exact ⟨a, _, rfl, h, q.1, fun m h1 h2 => q.2 m h1 h2 _ B H (Gr.refl w) (.int _)⟩⟩
theorem m_All : MonoB bAll := fun ds Q Q' k h => by
  unfold bAll at h ⊢
  split at h <;> first | exact h.elim | skip
  split at h <;> first | exact h.elim | exact k _ h
theorem c_all (hc : X.calm = true) : CallD X c (.builtin "all") bAll := ⟨m_All, callr_weak (cr_all hc) fun xs H Q ⟨B, ds, w, ra, q⟩ => by
  unfold bAll at q
  split at q <;> first | exact q.elim | skip
  split at q <;> first | exact q.elim | skip
  rename_i e
  obtain ⟨v, e1, r⟩ := ra.one
  subst e1
  obtain ⟨a, rfl, h⟩ := bls_rd (X := X) w r e
  exact ⟨a, _, rfl, h, q _ B H (Gr.refl w) (.bl _)⟩⟩
theorem m_Any : MonoB bAny := fun ds Q Q' k h => by
  unfold bAny at h ⊢
  split at h <;> first | exact h.elim | skip
  split at h <;> first | exact h.elim | exact k _ h
theorem c_any (hc : X.calm = true) : CallD X c (.builtin "any") bAny := ⟨m_Any, callr_weak (cr_any hc) fun xs H Q ⟨B, ds, w, ra, q⟩ => by
  unfold bAny at q
  split at q <;> first | exact q.elim | skip
  split at q <;> first | exact q.elim | skip
  rename_i e
  obtain ⟨v, e1, r⟩ := ra.one
  subst e1
  obtain ⟨a, rfl, h⟩ := bls_rd (X := X) w r e
  exact ⟨a, _, rfl, h, q _ B H (Gr.refl w) (.bl _)⟩⟩
/-- a new list out of a list, a tuple -/
def seqOf : D → Option (List D) | .list ds => some ds | .tuple ds => some ds | _ => none
theorem seq_rd {B H : Hp} {v : V} {d : D} {ds : List D} (w : Wd c B H) (r : Bw c B H v d) (h : seqOf d = some ds) : ∃ a xs, v = .ref a ∧ (SqL X.K H a xs ∨ SqT X.K H a xs) ∧ RpA B xs ds := by
  cases d <;> simp only [seqOf] at h <;> first | cases h | skip
  · obtain ⟨a, xs, rfl, h1, h2⟩ := r.list w
    exact ⟨a, xs, rfl, .inl (SqL.of h1), h2⟩
  · obtain ⟨a, xs, rfl, h1, h2⟩ := r.tup w
    exact ⟨a, xs, rfl, .inr (SqT.of h1), h2⟩
def fSeq (fa : SE) : SL := fun ρ Q => fa ρ fun d => match seqOf d with | some ds => Q ds | none => False
theorem mono_Seq {fa : SE} (ha : Mono fa) : MonoL (fSeq fa) := fun ρ Q Q' k h => ha _ _ _ (fun d hd => by
  split at hd <;> first | exact hd.elim | exact k _ hd) h
theorem Gr.back {B H B' H' : Hp} (g : Gr c B H B' H') {p : Addr} (hp : H' p = none) : H p = none := by
  cases e : H p with
  | none => rfl
  | some o =>
    by_cases z : c.isBag p
    · exact absurd hp (g.w.there z)
    · rw [g.h p o z e] at hp; cases hp
theorem n_list {e : Expr} {fa : SE} {x : Str} {p pos : Pos} (hm : X.mg x = none) (ha : PB X c e fa) (hg : Gl X x := by rfl) (hv : bootBuiltins x = some (.type "list") := by decide +kernel)
    (hn : x ≠ "__name__" := by decide) (hdb : (x == ("__debug__" : Str)) = false := by decide)
    (he : starEach [e] X.env = (false, eval e X.env) :: starEach [] X.env := by rfl) (hpl : (backTo pos (starEach [] X.env)).any (·.1) = false := by rfl) : PN X c (.Call (.Name x p) [e] [] pos) (fSeq fa) := by
  refine ⟨mono_Seq ha.mono, pe_weak (pe_callTy call_list_of hg hm hv (pa_cons ha.pe pa_nil he) hn hdb he hpl) fun σ H Q ⟨B, ρ, ok, h⟩ => ⟨B, ρ, ok, ha.mono _ _ _ (fun d hd v B1 H1 g1 r1 => ?_) h⟩⟩
  split at hd <;> first | exact hd.elim | skip
  rename_i ds e1
  obtain ⟨a, xs, rfl, h1, h2⟩ := seq_rd (X := X) g1.w r1 e1
  refine ⟨a, xs, rfl, h1, fun l hl => ?_⟩
  have g2 := Gr.newO (o := .lst xs) g1.w hl
  exact hd l xs B1 _ (g1.trans ok.w g2) (g1.back hl) (Evl.fresh_back g1.w.sub hl) upd_same h2
/-! ### items and parts -/
def ixD (ds : List D) (i : Int) : Option D := atI ds i
def gIx : G2
  | .list ds, .int i, Q => (match atI ds i with | some d => Q d | none => False)
  | .tuple ds, .int i, Q => (match atI ds i with | some d => Q d | none => False)
  | .str x, .int i, Q => x.length ≤ sizeLine ∧ (match atI x.cps.toList i with | some k => Q (.str ⟨#[k]⟩) | none => False)
  | _, _, _ => False
theorem m_Ix : MonoG gIx := fun d e Q Q' k h => by
  unfold gIx at h ⊢
  split at h <;> first | exact h.elim | skip
  · split at h <;> first | exact h.elim | exact k _ h
  · split at h <;> first | exact h.elim | exact k _ h
  · refine ⟨h.1, ?_⟩
    have h2 := h.2
    split at h2 <;> first | exact h2.elim | exact k _ h2
theorem atI_rpa {B : Hp} {xs : List V} {ds : List D} {i : Int} {d : D} (r : RpA B xs ds) (h : atI ds i = some d) : ∃ v, atI xs i = some v ∧ Rp B v d := by
  unfold atI at h ⊢
  rw [rpa_len r]
  cases e : ixN ds.length i with
  | none => rw [e] at h; cases h
  | some j =>
    rw [e] at h
    obtain ⟨v, h1, h2⟩ := rpa_get r (show ds[j]? = some d from h)
    exact ⟨v, h1, h2⟩
theorem v_ix {a b : Expr} {fa fb : SE} {pos : Pos} (ha : PB X c a fa) (hb : PB X c b fb) (hs : PlainIx b := by exact fun _ _ => rfl) : PV X c (.Subscript a b pos) (fBin gIx fa fb) := by
  refine ⟨mono_Bin m_Ix ha.mono hb.mono, pe_weak (pe_ix ix_seq ha.pe hb.pe hs) fun σ H Q h => ?_⟩
  obtain ⟨B, ρ, ok, h⟩ := h
  refine ⟨B, ρ, ok, ha.mono _ _ _ (fun d hd v B1 H1 g1 r1 => ?_) h⟩
  refine ⟨B1, ρ, ok.mono g1, hb.mono _ _ _ (fun e he u B2 H2 g2 r2 => ?_) hd⟩
  have r1' := r1.mono g2
  have g3 := g1.trans ok.w g2
  unfold gIx at he
  split at he <;> first | exact he.elim | skip
  · split at he <;> first | exact he.elim | skip
    rename_i e1
    obtain ⟨p, xs, rfl, h1, h2⟩ := r1'.list g2.w
    obtain ⟨y, h3, h4⟩ := atI_rpa h2 e1
    rw [r2.int]
    exact .inl ⟨p, xs, _, y, rfl, rfl, SqL.of h1, h3, he _ B2 H2 g3 h4⟩
  · split at he <;> first | exact he.elim | skip
    rename_i e1
    obtain ⟨p, xs, rfl, h1, h2⟩ := r1'.tup g2.w
    obtain ⟨y, h3, h4⟩ := atI_rpa h2 e1
    rw [r2.int]
    exact .inr (.inl ⟨p, xs, _, y, rfl, rfl, SqT.of h1, h3, he _ B2 H2 g3 h4⟩)
  · obtain ⟨hz, he⟩ := he
    split at he <;> first | exact he.elim | skip
    rename_i e1
    rw [r1'.str, r2.int]
    exact .inr (.inr ⟨_, _, _, rfl, rfl, hz, e1, he _ B2 H2 g3 (.str _)⟩)
/-- the ends of a part -/
abbrev SO := Env → (Option Int → Prop) → Prop
def toO (c : C) (f : SO) : TO := fun σ H Q => ∃ B ρ, EOk c B H σ ρ ∧ f ρ fun o => ∀ B' H', Gr c B H B' H' → Q o H'
structure POd (X : Cx) (c : C) (e : Option Expr) (f : SO) : Prop where
  mono : ∀ ρ (Q Q' : Option Int → Prop), (∀ d, Q d → Q' d) → f ρ Q → f ρ Q'
  po : PO X e (toO c f)
theorem po_weak {e : Option Expr} {t t' : TO} (h : PO X e t) (w : ∀ σ H Q, t' σ H Q → t σ H Q) : PO X e t' := ⟨fun pins s σ H Q I q => h.run pins s σ H Q I (w σ H Q q)⟩
def fON : SO := fun _ Q => Q none
def fOS (fa : SE) : SO := fun ρ Q => fa ρ fun d => match d with | .int i => Q (some i) | _ => False
theorem po_n : POd X c none fON := ⟨fun _ _ _ k h => k _ h, po_weak po_none fun σ H Q ⟨B, ρ, ok, h⟩ => h B H (Gr.refl ok.w)⟩
theorem po_s {e : Expr} {fa : SE} (ha : PB X c e fa) : POd X c (some e) (fOS fa) := by
  refine ⟨fun ρ Q Q' k h => ha.mono _ _ _ (fun d hd => ?_) h, po_weak (po_some ha.pe) fun σ H Q ⟨B, ρ, ok, h⟩ => ⟨B, ρ, ok, ha.mono _ _ _ (fun d hd v B1 H1 g1 r1 => ?_) h⟩⟩
  · cases d <;> first | exact hd.elim | exact k _ hd
  · cases d <;> first | exact hd.elim | skip
    exact ⟨_, r1.int, hd B1 H1 g1⟩
def cutD (ds : List D) (lo hi : Option Int) : List D := (ds.drop (HT.sIx ds.length 0 lo)).take (HT.sIx ds.length ds.length hi - HT.sIx ds.length 0 lo)
theorem cut_rpa {B : Hp} {xs : List V} {ds : List D} (r : RpA B xs ds) (lo hi : Option Int) : RpA B (cutV xs lo hi) (cutD ds lo hi) := by
  unfold cutV cutD
  rw [rpa_len r]
  exact rpa_take _ (rpa_drop _ r)
/-- t[a:b] of a tuple, a text -/
def fSlT (fa : SE) (fl fh : SO) : SE := fun ρ Q => fa ρ fun d => fl ρ fun lo => fh ρ fun hi => match d with | .tuple ds => Q (.tuple (cutD ds lo hi)) | _ => False
/-- l[a:b] of a list -/
def fSlL (fa : SE) (fl fh : SO) : SL := fun ρ Q => fa ρ fun d => fl ρ fun lo => fh ρ fun hi => match d with | .list ds => Q (cutD ds lo hi) | _ => False
theorem cutV_whole {xs : List V} {lo hi : Option Int} (h : HT.sIx xs.length 0 lo = 0 ∧ HT.sIx xs.length xs.length hi = xs.length) : cutV xs lo hi = xs := by
  unfold cutV
  rw [h.1, h.2]
  simp
theorem v_slT {a : Expr} {lo hi : Option Expr} {fa : SE} {fl fh : SO} {p2 pos : Pos} (ha : PB X c a fa) (hl : POd X c lo fl) (hh : POd X c hi fh) : PV X c (.Subscript a (.Slice lo hi none p2) pos) (fSlT fa fl fh) := by
  refine ⟨fun ρ Q Q' k h => ha.mono _ _ _ (fun d hd => hl.mono _ _ _ (fun o1 h1 => hh.mono _ _ _ (fun o2 h2 => ?_) h1) hd) h, pe_weak (pe_slice sl_tupA ha.pe hl.po hh.po) fun σ H Q ⟨B, ρ, ok, h⟩ => ⟨B, ρ, ok, ha.mono _ _ _ (fun d hd v B1 H1 g1 r1 => ?_) h⟩⟩
  · cases d <;> first | exact h2.elim | exact k _ h2
  · refine ⟨B1, ρ, ok.mono g1, hl.mono _ _ _ (fun o1 h1 B2 H2 g2 => ?_) hd⟩
    refine ⟨B2, ρ, (ok.mono g1).mono g2, hh.mono _ _ _ (fun o2 h2 B3 H3 g3 => ?_) h1⟩
    have g := (g1.trans ok.w g2).trans ok.w g3
    cases d <;> first | exact h2.elim | skip
    have r := (r1.mono g2).mono g3
    obtain ⟨q, xs, rfl, h3, h4⟩ := r.tup g3.w
    refine ⟨q, xs, rfl, SqT.of h3, fun hw => ?_, fun _ t ht => ?_⟩
    · have e := cut_rpa h4 o1 o2
      rw [cutV_whole hw] at e
      rcases r with r | ⟨_, _, _, _, e, _⟩
      · obtain ⟨q', xs', e1, e2, e3⟩ := rp_tup r
        cases e1
        have e4 := g3.w.sub _ _ e2
        rw [h3] at e4
        cases e4
        exact h2 _ B3 H3 g (.tup e2 e)
      · cases e
    · have g4 := Gr.new (o := .tup (cutV xs o1 o2)) g3.w ht
      exact h2 _ _ _ (g.trans ok.w g4) (.tup upd_same (rpa_mono g4.b (cut_rpa h4 o1 o2)))
theorem n_slL {a : Expr} {lo hi : Option Expr} {fa : SE} {fl fh : SO} {p2 pos : Pos} (ha : PB X c a fa) (hl : POd X c lo fl) (hh : POd X c hi fh) : PN X c (.Subscript a (.Slice lo hi none p2) pos) (fSlL fa fl fh) := by
  refine ⟨fun ρ Q Q' k h => ha.mono _ _ _ (fun d hd => hl.mono _ _ _ (fun o1 h1 => hh.mono _ _ _ (fun o2 h2 => ?_) h1) hd) h, pe_weak (pe_slice sl_list ha.pe hl.po hh.po) fun σ H Q ⟨B, ρ, ok, h⟩ => ⟨B, ρ, ok, ha.mono _ _ _ (fun d hd v B1 H1 g1 r1 => ?_) h⟩⟩
  · cases d <;> first | exact h2.elim | exact k _ h2
  · refine ⟨B1, ρ, ok.mono g1, hl.mono _ _ _ (fun o1 h1 B2 H2 g2 => ?_) hd⟩
    refine ⟨B2, ρ, (ok.mono g1).mono g2, hh.mono _ _ _ (fun o2 h2 B3 H3 g3 => ?_) h1⟩
    have g := (g1.trans ok.w g2).trans ok.w g3
    cases d <;> first | exact h2.elim | skip
    have r := (r1.mono g2).mono g3
    obtain ⟨q, xs, rfl, h3, h4⟩ := r.list g3.w
    refine ⟨q, xs, rfl, SqL.of h3, fun t ht => ?_⟩
    have g4 := Gr.newO (o := .lst (cutV xs o1 o2)) g3.w ht
    exact h2 t _ B3 _ (g.trans ok.w g4) (g.back ht) (Evl.fresh_back g3.w.sub ht) upd_same (cut_rpa h4 o1 o2)
end
end DL
namespace DL
open PySem L2 PyProof.Rows
abbrev St := L2.St
/-! ### slots stored -/
section
variable {c : C} {B H : Hp} {σ : St} {ρ : Env}
theorem SlOk.congr {σ' : St} {i : Nat} {s : Sl} (e : σ'[i]? = σ[i]?) (h : SlOk c B H σ i s) : SlOk c B H σ' i s := by
  cases s with
  | un => trivial
  | sh d => obtain ⟨v, h1, h2⟩ := h; exact ⟨v, by rw [e]; exact h1, h2⟩
  | ow ds => obtain ⟨p, vs, h1, h2⟩ := h; exact ⟨p, vs, by rw [e]; exact h1, h2⟩
  | bg => show σ'[i]? = _; rw [e]; exact h
/-- a slot takes a new word -/
theorem EOk.put (ok : EOk c B H σ ρ) {i : Nat} {v : V} {s : Sl} (hs : i < σ.length → SlOk c B H (σ.set i (some v)) i s)
    (ha : ∀ ds p, s = Sl.ow ds → v = V.ref p → ∀ (j : Nat) (es : List D), j ≠ i → ρ[j]? = some (Sl.ow es) → ¬ σ[j]? = some (some (V.ref p))) : EOk c B H (σ.set i (some v)) (ρ.set i s) := by
  have len := ok.len
  refine ⟨ok.w0, ok.w, ok.g, by rw [List.length_set, List.length_set]; exact len, fun j u hj => ?_, fun j k p ds es hjk h1 h2 h3 h4 => ?_⟩
  · by_cases e : i = j
    · subst e
      have hl : i < ρ.length := by
        have := (List.getElem?_eq_some_iff.mp hj).1
        rw [List.length_set] at this; exact this
      rw [List.getElem?_set_self hl] at hj
      cases hj
      exact hs (by rw [← len]; exact hl)
    · rw [List.getElem?_set_ne e] at hj
      exact (ok.sl j u hj).congr (List.getElem?_set_ne e)
  · by_cases ej : i = j
    · subst ej
      have hl : i < ρ.length := by
        have := (List.getElem?_eq_some_iff.mp h1).1
        rw [List.length_set] at this; exact this
      rw [List.getElem?_set_self hl] at h1
      rw [List.getElem?_set_self (by rw [← len]; exact hl)] at h3
      rw [List.getElem?_set_ne hjk] at h2 h4
      cases h1
      cases h3
      exact ha ds p rfl rfl k es (Ne.symm hjk) h2 h4
    · rw [List.getElem?_set_ne ej] at h1 h3
      by_cases ek : i = k
      · subst ek
        have hl : i < ρ.length := by
          have := (List.getElem?_eq_some_iff.mp h2).1
          rw [List.length_set] at this; exact this
        rw [List.getElem?_set_self hl] at h2
        rw [List.getElem?_set_self (by rw [← len]; exact hl)] at h4
        cases h2
        cases h4
        exact ha es p rfl rfl j ds hjk h1 h3
      · rw [List.getElem?_set_ne ek] at h2 h4
        exact ok.ap j k p ds es hjk h1 h2 h3 h4
theorem EOk.putSh (ok : EOk c B H σ ρ) {i : Nat} {v : V} {d : D} (r : Rp B v d) : EOk c B H (σ.set i (some v)) (ρ.set i (.sh d)) :=
  ok.put (fun hi => ⟨v, List.getElem?_set_self hi, r⟩) fun _ _ e => nomatch e
/-- .. by a new list of one's own -/
theorem EOk.putOw (ok : EOk c B H σ ρ) {B' H' : Hp} {i : Nat} {p : Addr} {vs : List V} {ds : List D} (g : Gr c B H B' H') (h0 : H p = none) (h1 : B' p = none) (h2 : H' p = some (.lst vs)) (r : RpA B' vs ds) :
    EOk c B' H' (σ.set i (some (.ref p))) (ρ.set i (.ow ds)) := by
  have nb : ¬ c.isBag p := fun z => ok.w.there z h0
  have hH0 : c.H0 p = none := by
    cases e : c.H0 p with
    | none => rfl
    | some o => rw [ok.g.h p o nb e] at h0; cases h0
  refine (ok.mono g).put (fun hi => ⟨p, vs, List.getElem?_set_self hi, hH0, nb, h1, h2, r⟩) fun es q e1 e2 j fs hj h3 h4 => ?_
  cases e2
  obtain ⟨p', vs', k1, k2, k3, k4, k5, _⟩ := ok.sl j _ h3
  rw [k1] at h4
  cases h4
  rw [h0] at k5
  cases k5
end
/-! ### targets -/
abbrev GT := D → Env → (Env → Prop) → Prop
abbrev GTs := List D → Env → (Env → Prop) → Prop
/-- slots outside ks stay -/
def Off (ks : List Nat) (σ σ' : St) : Prop := σ'.length = σ.length ∧ ∀ j, j ∉ ks → σ'[j]? = σ[j]?
theorem Off.refl (ks : List Nat) (σ : St) : Off ks σ σ := ⟨rfl, fun _ _ => rfl⟩
def toG (c : C) (g : GT) (ks : List Nat) : TG := fun v σ H Q => ∃ B ρ d, EOk c B H σ ρ ∧ Rp B v d ∧ g d ρ fun ρ' => ∀ σ', EOk c B H σ' ρ' → Off ks σ σ' → Q σ' H
def toGs (c : C) (g : GTs) (ks : List Nat) : TGs := fun v σ H Q => ∃ B ρ d, EOk c B H σ ρ ∧ RpA B v d ∧ g d ρ fun ρ' => ∀ σ', EOk c B H σ' ρ' → Off ks σ σ' → Q σ' H
structure PGd (X : Cx) (c : C) (tg : Expr) (g : GT) (ks : List Nat) : Prop where
  mono : ∀ d ρ (Q Q' : Env → Prop), (∀ ρ, Q ρ → Q' ρ) → g d ρ Q → g d ρ Q'
  pg : PG X tg (toG c g ks)
structure PGsd (X : Cx) (c : C) (tg : List Expr) (g : GTs) (ks : List Nat) : Prop where
  mono : ∀ d ρ (Q Q' : Env → Prop), (∀ ρ, Q ρ → Q' ρ) → g d ρ Q → g d ρ Q'
  pg : PGs X tg (toGs c g ks)
def gNm (i : Nat) : GT := fun d ρ Q => Q (ρ.set i (.sh d))
def gsNil : GTs := fun ds ρ Q => ds = [] ∧ Q ρ
def gsCons (g : GT) (gs : GTs) : GTs := fun ds ρ Q => match ds with | d :: r => g d ρ fun ρ' => gs r ρ' Q | [] => False
def gTpl (n : Nat) (gs : GTs) : GT := fun d ρ Q => match d with | .tuple ds => ds.length = n ∧ gs ds ρ Q | _ => False
section
variable {X : Cx} {c : C}
theorem pg_weak {tg : Expr} {t t' : TG} (h : PG X tg t) (w : ∀ v σ H Q, t' v σ H Q → t v σ H Q) : PG X tg t' := ⟨fun pins s σ H v u Q I r q => h.run pins s σ H v u Q I r (w v σ H Q q)⟩
theorem pgs_weak {tg : List Expr} {t t' : TGs} (h : PGs X tg t) (w : ∀ v σ H Q, t' v σ H Q → t v σ H Q) : PGs X tg t' := ⟨fun pins s σ H v u Q I r q => h.run pins s σ H v u Q I r (w v σ H Q q)⟩
theorem g_nm (i : Nat) {x : Str} {pos : Pos} (hN : X.N.Nodup) (hi : X.N[i]? = some x := by rfl) (hx : Loc X.env.scope x := by first | exact Or.inl rfl | exact Or.inr rfl)
    (hf : X.fn x = true ∨ X.env.scope.names.lookup x = some .local := by first | exact .inl rfl | exact .inr rfl | assumption) : PGd X c (.Name x pos) (gNm i) [i] := by
  refine ⟨fun d ρ Q Q' k h => k _ h, pg_weak (pg_name hN hi hx hf) fun v σ H Q ⟨B, ρ, d, ok, r, h⟩ => h _ (ok.putSh r) ⟨by rw [List.length_set], fun j hj => List.getElem?_set_ne (fun e => hj (by simp [e]))⟩⟩
theorem gs_nil : PGsd X c [] gsNil [] := ⟨fun d ρ Q Q' k h => ⟨h.1, k _ h.2⟩, pgs_weak pgs_nil fun vs σ H Q ⟨B, ρ, ds, ok, r, h⟩ => by
  obtain ⟨e, h⟩ := h
  subst e
  cases r
  exact ⟨rfl, h σ ok (Off.refl _ _)⟩⟩
theorem gs_cons {e : Expr} {es : List Expr} {g : GT} {gs : GTs} {ks js : List Nat} (h1 : PGd X c e g ks) (h2 : PGsd X c es gs js)
    (hs : (assignEach (e :: es) X.env).map (·.2) = assign e X.env :: (assignEach es X.env).map (·.2) := by rfl) : PGsd X c (e :: es) (gsCons g gs) (ks ++ js) := by
  refine ⟨fun d ρ Q Q' k h => ?_, pgs_weak (pgs_cons h1.pg h2.pg hs) fun vs σ H Q ⟨B, ρ, ds, ok, r, h⟩ => ?_⟩
  · cases d with
    | nil => exact h
    | cons d r => exact h1.mono _ _ _ _ (fun ρ' h' => h2.mono _ _ _ _ k h') h
  · cases ds with
    | nil => exact h.elim
    | cons d ds =>
      cases r with
      | cons r rr =>
        refine ⟨_, _, rfl, B, ρ, d, ok, r, h1.mono _ _ _ _ (fun ρ1 h' σ1 ok1 o1 => ⟨B, ρ1, ds, ok1, rr, h2.mono _ _ _ _ (fun ρ2 h'' σ2 ok2 o2 => h'' σ2 ok2 ⟨o2.1.trans o1.1, fun j hj => ?_⟩) h'⟩) h⟩
        rw [o2.2 j (fun z => hj (List.mem_append_right _ z)), o1.2 j (fun z => hj (List.mem_append_left _ z))]
theorem g_tup {es : List Expr} {k : Nat} {gs : GTs} {ks : List Nat} {pos : Pos} (hc : X.calm = true) (h : PGsd X c es gs ks) {n : Nat} (hn : (assignEach es X.env).length = n := by rfl) (hst : (assignEach es X.env).findIdx? (·.1) = none := by rfl) :
    PGd X c (.Tuple es k pos) (gTpl n gs) ks := by
  refine ⟨fun d ρ Q Q' k h' => ?_, pg_weak (pg_tup hc h.pg hn hst) fun v σ H Q ⟨B, ρ, d, ok, r, h'⟩ => ?_⟩
  · cases d <;> first | exact h'.elim | exact ⟨h'.1, h.mono _ _ _ _ k h'.2⟩
  · cases d <;> first | exact h'.elim | skip
    obtain ⟨a, xs, rfl, h1, h2⟩ := rp_tup r
    exact ⟨a, xs, rfl, SqT.of (ok.w.sub _ _ h1), by rw [rpa_len h2]; exact h'.1, B, ρ, _, ok, h2, h'.2⟩
end
/-! ### statements -/
structure En where
  nx : Env → Prop
  rt : D → Prop
  bk : Env → Prop
  ct : Env → Prop
abbrev SS := En → Env → Prop
structure En.le (D D' : En) : Prop where
  nx : ∀ ρ, D.nx ρ → D'.nx ρ
  rt : ∀ d, D.rt d → D'.rt d
  bk : ∀ ρ, D.bk ρ → D'.bk ρ
  ct : ∀ ρ, D.ct ρ → D'.ct ρ
theorem En.le.refl (D : En) : En.le D D := ⟨fun _ h => h, fun _ h => h, fun _ h => h, fun _ h => h⟩
def MonoS (f : SS) : Prop := ∀ D D' ρ, En.le D D' → f D ρ → f D' ρ
def liftE (c : C) (B : Hp) (D : Ends) : En where
  nx := fun ρ => ∀ σ' B' H', EOk c B' H' σ' ρ → Ex B B' → D.nx σ' H'
  rt := fun d => ∀ v B' H', Gr c c.B0 c.H0 B' H' → Rp B' v d → D.rt v H'
  bk := fun ρ => ∀ σ' B' H', EOk c B' H' σ' ρ → Ex B B' → D.bk σ' H'
  ct := fun ρ => ∀ σ' B' H', EOk c B' H' σ' ρ → Ex B B' → D.ct σ' H'
theorem liftE_le {c : C} {B B1 : Hp} (e : Ex B B1) (D : Ends) : En.le (liftE c B D) (liftE c B1 D) :=
  ⟨fun _ h σ' B' H' ok x => h σ' B' H' ok (e.trans x), fun _ h => h, fun _ h σ' B' H' ok x => h σ' B' H' ok (e.trans x), fun _ h σ' B' H' ok x => h σ' B' H' ok (e.trans x)⟩
def toS (c : C) (f : SS) : TS := fun D σ H => ∃ B ρ, EOk c B H σ ρ ∧ f (liftE c B D) ρ
structure PSd (X : Cx) (c : C) (st : Stmt) (f : SS) : Prop where
  mono : MonoS f
  ps : PS X st (toS c f)
structure PSsd (X : Cx) (c : C) (st : List Stmt) (f : SS) : Prop where
  mono : MonoS f
  ps : PSs X st (toS c f)
def fNext : SS := fun D ρ => D.nx ρ
def fSeqS (f g : SS) : SS := fun D ρ => f { D with nx := g D } ρ
theorem mono_SeqS {f g : SS} (hf : MonoS f) (hg : MonoS g) : MonoS (fSeqS f g) := fun D D' ρ l h => hf { D with nx := g D } { D' with nx := g D' } ρ ⟨fun ρ h => hg _ _ _ l h, l.rt, l.bk, l.ct⟩ h
section
variable {X : Cx} {c : C}
theorem ss_nil : PSsd X c [] fNext := ⟨fun _ _ _ l h => l.nx _ h, pss_weak pss_nil fun D σ H ⟨B, ρ, ok, h⟩ => h σ B H ok (Evl.Ex.refl B)⟩
theorem ss_cons {st : Stmt} {rest : List Stmt} {f g : SS} (h1 : PSd X c st f) (h2 : PSsd X c rest g) : PSsd X c (st :: rest) (fSeqS f g) := by
  refine ⟨mono_SeqS h1.mono h2.mono, pss_weak (pss_cons h1.ps h2.ps) fun D σ H ⟨B, ρ, ok, h⟩ => ?_⟩
  exact ⟨B, ρ, ok, h1.mono { liftE c B D with nx := g (liftE c B D) } _ _ ⟨fun ρ' q σ' B' H' ok' e => ⟨B', ρ', ok', h2.mono _ _ _ (liftE_le e D) q⟩, fun _ q => q, fun _ q => q, fun _ q => q⟩ h⟩
theorem ss_one {st : Stmt} {f : SS} (h1 : PSd X c st f) : PSsd X c [st] f := ⟨h1.mono, pss_one h1.ps⟩
def fBreak : SS := fun D ρ => D.bk ρ
def fCont : SS := fun D ρ => D.ct ρ
def fNever : SS := fun _ _ => False
theorem s_break {pos : Pos} : PSd X c (.Break pos) fBreak := ⟨fun _ _ _ l h => l.bk _ h, ps_weak ps_break fun D σ H ⟨B, ρ, ok, h⟩ => h σ B H ok (Evl.Ex.refl B)⟩
theorem s_continue {pos : Pos} : PSd X c (.Continue pos) fCont := ⟨fun _ _ _ l h => l.ct _ h, ps_weak ps_continue fun D σ H ⟨B, ρ, ok, h⟩ => h σ B H ok (Evl.Ex.refl B)⟩
theorem s_pass {pos : Pos} : PSd X c (.Pass pos) fNext := ⟨fun _ _ _ l h => l.nx _ h, ps_weak ps_pass fun D σ H ⟨B, ρ, ok, h⟩ => h σ B H ok (Evl.Ex.refl B)⟩
theorem s_never {st : Stmt} : PSd X c st fNever := ⟨fun _ _ _ _ h => h, ps_weak ps_never fun D σ H ⟨B, ρ, ok, h⟩ => h⟩
def fRet (fa : SE) : SS := fun D ρ => fa ρ D.rt
theorem s_ret {e : Expr} {fa : SE} {pos : Pos} (ha : PV X c e fa) : PSd X c (.Return (some e) pos) (fRet fa) :=
  ⟨fun D D' ρ l h => ha.mono _ _ _ l.rt h, ps_weak (ps_ret ha.pe) fun D σ H ⟨B, ρ, ok, h⟩ => ⟨B, ρ, ok, ha.mono _ _ _ (fun d hd v B' H' g r => hd v B' H' (ok.g.trans ok.w0 g) r) h⟩⟩
def fIfS (t : ST) (f g : SS) : SS := fun D ρ => t ρ fun b => if b = true then f D ρ else g D ρ
theorem s_if {cc : Expr} {a b : List Stmt} {t : ST} {f g : SS} {pos : Pos} (ht : PTd X c cc t) (ha : PSsd X c a f) (hb : PSsd X c b g) : PSd X c (.If cc a b pos) (fIfS t f g) := by
  refine ⟨fun D D' ρ l h => ht.mono _ _ _ (fun b hb' => ?_) h, ps_weak (ps_if ht.pt ha.ps hb.ps) fun D σ H ⟨B, ρ, ok, h⟩ => ⟨B, ρ, ok, ht.mono _ _ _ (fun b hb' B' H' g' => ?_) h⟩⟩
  · cases b with
    | true => exact ha.mono _ _ _ l hb'
    | false => exact hb.mono _ _ _ l hb'
  · cases b with
    | true => exact ⟨B', ρ, ok.mono g', ha.mono _ _ _ (liftE_le g'.b D) hb'⟩
    | false => exact ⟨B', ρ, ok.mono g', hb.mono _ _ _ (liftE_le g'.b D) hb'⟩
def fSet (i : Nat) (fa : SE) : SS := fun D ρ => fa ρ fun d => D.nx (ρ.set i (.sh d))
theorem mono_Set {i : Nat} {fa : SE} (h : Mono fa) : MonoS (fSet i fa) := fun D D' ρ l q => h _ _ _ (fun d hd => l.nx _ hd) q
theorem set_go {i : Nat} {fa : SE} (h : Mono fa) (D : Ends) (σ : St) (H : Hp) (q : toS c (fSet i fa) D σ H) : tAsg (toV c fa) (gName i) D σ H := by
  obtain ⟨B, ρ, ok, q⟩ := q
  exact ⟨B, ρ, ok, h _ _ _ (fun d hd v B' H' g r => hd _ _ _ ((ok.mono g).putSh r) g.b) q⟩
theorem s_set (i : Nat) {x : Str} {e : Expr} {fa : SE} {pos pos' : Pos} (hN : X.N.Nodup) (he : PV X c e fa) (hi : X.N[i]? = some x := by rfl) (hx : Loc X.env.scope x := by first | exact Or.inl rfl | exact Or.inr rfl)
    (hs : swapsWith e (some (.Name x pos')) pos.line X.env = pure false := by rfl) (hf : X.fn x = true ∨ X.env.scope.names.lookup x = some .local := by first | exact .inl rfl | exact .inr rfl | assumption) :
    PSd X c (.Assign [.Name x pos'] e pos) (fSet i fa) := ⟨mono_Set he.mono, ps_weak (ps_set hN hi hx he.pe hs hf) (set_go he.mono)⟩
/-- a name that shall be changed: a new list of one's own -/
def fSetN (i : Nat) (fa : SL) : SS := fun D ρ => fa ρ fun ds => D.nx (ρ.set i (.ow ds))
theorem mono_SetN {i : Nat} {fa : SL} (h : MonoL fa) : MonoS (fSetN i fa) := fun D D' ρ l q => h _ _ _ (fun d hd => l.nx _ hd) q
theorem setN_go {i : Nat} {fa : SL} (h : MonoL fa) (D : Ends) (σ : St) (H : Hp) (q : toS c (fSetN i fa) D σ H) : tAsg (toN c fa) (gName i) D σ H := by
  obtain ⟨B, ρ, ok, q⟩ := q
  exact ⟨B, ρ, ok, h _ _ _ (fun ds hd p vs B' H' g h0 h1 h2 r => hd _ _ _ (ok.putOw g h0 h1 h2 r) g.b) q⟩
theorem s_setN (i : Nat) {x : Str} {e : Expr} {fa : SL} {pos pos' : Pos} (hN : X.N.Nodup) (he : PN X c e fa) (hi : X.N[i]? = some x := by rfl) (hx : Loc X.env.scope x := by first | exact Or.inl rfl | exact Or.inr rfl)
    (hs : swapsWith e (some (.Name x pos')) pos.line X.env = pure false := by rfl) (hf : X.fn x = true ∨ X.env.scope.names.lookup x = some .local := by first | exact .inl rfl | exact .inr rfl | assumption) :
    PSd X c (.Assign [.Name x pos'] e pos) (fSetN i fa) := ⟨mono_SetN he.mono, ps_weak (ps_set hN hi hx he.pe hs hf) (setN_go he.mono)⟩
/-- any target -/
def fAsg (fa : SE) (g : GT) : SS := fun D ρ => fa ρ fun d => g d ρ D.nx
theorem s_asg {tg e : Expr} {fa : SE} {g : GT} {ks : List Nat} {pos : Pos} (he : PV X c e fa) (hg : PGd X c tg g ks) (hs : swapsWithSole [tg] e pos.line X.env = pure false := by rfl) (hw : swappedStores [tg] e X.env = pure none := by rfl)
    (h1 : (assignEach [tg] X.env).map (·.2) = [assign tg X.env] := by rfl) : PSd X c (.Assign [tg] e pos) (fAsg fa g) :=
  ⟨fun D D' ρ l h => he.mono _ _ _ (fun d hd => hg.mono _ _ _ _ l.nx hd) h, ps_weak (ps_asg he.pe hg.pg hs hw h1) fun D σ H ⟨B, ρ, ok, h⟩ => ⟨B, ρ, ok, he.mono _ _ _ (fun d hd v B' H' g' r =>
    ⟨B', ρ, d, ok.mono g', r, hg.mono _ _ _ _ (fun ρ' h' σ' ok' _ => h' σ' B' H' ok' g'.b) hd⟩) h⟩⟩
/-! ### a, b = x, y: data and new lists -/
abbrev SM := Env → (List Sl → Prop) → Prop
def MOk (c : C) (H B' H' : Hp) : List V → List Sl → Prop
  | [], [] => True
  | v :: vs, .sh d :: ss => Rp B' v d ∧ MOk c H B' H' vs ss
  | v :: vs, .ow ds :: ss => (∃ p ws, v = .ref p ∧ H p = none ∧ B' p = none ∧ H' p = some (.lst ws) ∧ RpA B' ws ds ∧ v ∉ vs) ∧ MOk c H B' H' vs ss
  | _, _ => False
def toM (c : C) (f : SM) : TA := fun σ H Q => ∃ B ρ, EOk c B H σ ρ ∧ f ρ fun ss => ∀ vs B' H', Gr c B H B' H' → MOk c H B' H' vs ss → Q vs H'
structure PMd (X : Cx) (c : C) (es : List Expr) (f : SM) : Prop where
  mono : MonoA f
  pa : PA X es (toM c f)
def fMV (fa : SE) (fr : SM) : SM := fun ρ Q => fa ρ fun d => fr ρ fun ss => Q (.sh d :: ss)
def fMN (fa : SL) (fr : SM) : SM := fun ρ Q => fa ρ fun ds => fr ρ fun ss => Q (.ow ds :: ss)
theorem MOk.back {B H B1 H1 B' H' : Hp} (g : Gr c B H B1 H1) (g2 : Gr c B1 H1 B' H') : ∀ {vs : List V} {ss : List Sl}, MOk c H1 B' H' vs ss → MOk c H B' H' vs ss
  | [], [], _ => trivial
  | _ :: _, .sh _ :: _, h => ⟨h.1, MOk.back g g2 h.2⟩
  | _ :: _, .ow _ :: _, h => by
    obtain ⟨⟨p, ws, e, h0, r⟩, h2⟩ := h
    exact ⟨⟨p, ws, e, g.back h0, r⟩, MOk.back g g2 h2⟩
  | _ :: _, .un :: _, h => h
  | _ :: _, .bg :: _, h => h
  | [], _ :: _, h => h
  | _ :: _, [], h => h
/-- an address that stands at H1 and is not shared is none of the later values -/
theorem MOk.notin {H1 B' H' : Hp} {p : Addr} {o : HO} (h1 : H1 p = some o) (h2 : B' p = none) : ∀ {vs : List V} {ss : List Sl}, MOk c H1 B' H' vs ss → V.ref p ∉ vs
  | [], [], _ => by simp
  | v :: vs, .sh d :: ss, h => by
    intro z
    rcases List.mem_cons.mp z with z | z
    · subst z
      obtain ⟨r, _⟩ := h
      cases r with
      | lst e _ => rw [h2] at e; cases e
      | tup e _ => rw [h2] at e; cases e
      | dct e _ => rw [h2] at e; cases e
    · exact MOk.notin h1 h2 h.2 z
  | v :: vs, .ow ds :: ss, h => by
    intro z
    obtain ⟨⟨q, ws, e, h0, _⟩, h3⟩ := h
    rcases List.mem_cons.mp z with z | z
    · rw [e] at z
      cases z
      rw [h1] at h0; cases h0
    · exact MOk.notin h1 h2 h3 z
  | _ :: _, .un :: _, h => h.elim
  | _ :: _, .bg :: _, h => h.elim
  | [], _ :: _, h => h.elim
  | _ :: _, [], h => h.elim
theorem m_nil : PMd X c [] fAN := ⟨fun _ _ _ k h => k _ h, pa_weak pa_nil fun σ H Q ⟨B, ρ, ok, h⟩ => h [] B H (Gr.refl ok.w) trivial⟩
theorem m_v {e : Expr} {es : List Expr} {fa : SE} {fr : SM} (ha : PV X c e fa) (hr : PMd X c es fr) (hs : starEach (e :: es) X.env = (false, eval e X.env) :: starEach es X.env := by rfl) : PMd X c (e :: es) (fMV fa fr) := by
  refine ⟨fun ρ Q Q' k h => ha.mono _ _ _ (fun d hd => hr.mono _ _ _ (fun ds he => k _ he) hd) h, pa_weak (pa_cons ha.pe hr.pa hs) fun σ H Q ⟨B, ρ, ok, h⟩ => ?_⟩
  refine ⟨B, ρ, ok, ha.mono _ _ _ (fun d hd v B1 H1 g1 r1 => ?_) h⟩
  exact ⟨B1, ρ, ok.mono g1, hr.mono _ _ _ (fun ds he vs B2 H2 g2 r2 => he _ B2 H2 (g1.trans ok.w g2) ⟨rp_mono g2.b r1, MOk.back g1 g2 r2⟩) hd⟩
theorem m_n {e : Expr} {es : List Expr} {fa : SL} {fr : SM} (ha : PN X c e fa) (hr : PMd X c es fr) (hs : starEach (e :: es) X.env = (false, eval e X.env) :: starEach es X.env := by rfl) : PMd X c (e :: es) (fMN fa fr) := by
  refine ⟨fun ρ Q Q' k h => ha.mono _ _ _ (fun d hd => hr.mono _ _ _ (fun ds he => k _ he) hd) h, pa_weak (pa_cons ha.pe hr.pa hs) fun σ H Q ⟨B, ρ, ok, h⟩ => ?_⟩
  refine ⟨B, ρ, ok, ha.mono _ _ _ (fun ds hd p ws B1 H1 g1 h0 h1 h2 r1 => ?_) h⟩
  refine ⟨B1, ρ, ok.mono g1, hr.mono _ _ _ (fun ss he vs B2 H2 g2 r2 => he _ B2 H2 (g1.trans ok.w g2) ⟨⟨p, ws, rfl, h0, ?_, ?_, rpa_mono g2.b r1, ?_⟩, MOk.back g1 g2 r2⟩) hd⟩
  · rw [g2.n p (by rw [h2]; exact fun q => nomatch q)]; exact h1
  · exact g2.h p _ (fun z => ok.w.there z h0) h2
  · exact MOk.notin h2 (by rw [g2.n p (by rw [h2]; exact fun q => nomatch q)]; exact h1) r2
/-- the slots at js take the words ss -/
def setAll : Env → List Nat → List Sl → Env
  | ρ, j :: js, s :: ss => setAll (ρ.set j s) js ss
  | ρ, _, _ => ρ
def setV : St → List Nat → List V → St
  | σ, j :: js, v :: vs => setV (σ.set j (some v)) js vs
  | σ, _, _ => σ
/-- σ0, H: the state ahead of the right side; the slots at done have taken values -/
theorem putAll {B H B' H' : Hp} (w : Wd c B H) (g : Gr c B H B' H') : ∀ {js : List Nat} {vs : List V} {ss : List Sl} {σ : St} {ρ : Env}, EOk c B' H' σ ρ → js.length = ss.length → MOk c H B' H' vs ss →
    (∀ (j : Nat) (es : List D) (p : Addr), V.ref p ∈ vs → H p = none → ρ[j]? = some (Sl.ow es) → ¬ σ[j]? = some (some (V.ref p))) → (c.H0 = c.H0) → (∀ a o, ¬ c.isBag a → c.H0 a = some o → H a = some o) → EOk c B' H' (setV σ js vs) (setAll ρ js ss)
  | [], [], [], _, _, ok, _, _, _, _, _ => ok
  | j :: js, v :: vs, .sh d :: ss, σ, ρ, ok, hl, h, hn, _, h0 => by
    show EOk c B' H' (setV (σ.set j (some v)) js vs) (setAll (ρ.set j (.sh d)) js ss)
    refine putAll w g (ok.putSh h.1) (by simpa using hl) h.2 (fun k es p hp hH h1 h2 => ?_) rfl h0
    by_cases e : j = k
    · subst e
      have hlen : j < ρ.length := by
        have := (List.getElem?_eq_some_iff.mp h1).1
        rw [List.length_set] at this; exact this
      rw [List.getElem?_set_self hlen] at h1
      cases h1
    · rw [List.getElem?_set_ne e] at h1 h2
      exact hn k es p (List.mem_cons_of_mem _ hp) hH h1 h2
  | j :: js, v :: vs, .ow ds :: ss, σ, ρ, ok, hl, h, hn, _, h0 => by
    obtain ⟨⟨p, ws, e, k0, k1, k2, k3, k4⟩, h2⟩ := h
    subst e
    have nb : ¬ c.isBag p := fun z => w.there z k0
    have hH0 : c.H0 p = none := by
      cases e : c.H0 p with
      | none => rfl
      | some o => rw [h0 p o nb e] at k0; cases k0
    show EOk c B' H' (setV (σ.set j (some (.ref p))) js vs) (setAll (ρ.set j (.ow ds)) js ss)
    refine putAll w g (ok.put (fun hi => ⟨p, ws, List.getElem?_set_self hi, hH0, nb, k1, k2, k3⟩) fun es q e1 e2 i fs hi h3 h4 => ?_) (by simpa using hl) h2 (fun k es q hq hH h1 h3 => ?_) rfl h0
    · cases e2
      exact hn i fs p List.mem_cons_self k0 h3 h4
    · by_cases e : j = k
      · subst e
        have hlen : j < ρ.length := by
          have := (List.getElem?_eq_some_iff.mp h1).1
          rw [List.length_set] at this; exact this
        rw [List.getElem?_set_self (by rw [← ok.len]; exact hlen)] at h3
        have e3 : V.ref p = V.ref q := Option.some.inj (Option.some.inj h3)
        rw [← e3] at hq
        exact k4 hq
      · rw [List.getElem?_set_ne e] at h1 h3
        exact hn k es q (List.mem_cons_of_mem _ hq) hH h1 h3
  | [], [], _ :: _, _, _, _, hl, _, _, _, _ => by simp at hl
  | [], _ :: _, [], _, _, _, _, h, _, _, _ => h.elim
  | _ :: _, _, [], _, _, _, hl, _, _, _, _ => by simp at hl
  | [], _ :: _, _ :: _, _, _, _, hl, _, _, _, _ => by simp at hl
  | _ :: _, [], _ :: _, _, _, _, _, h, _, _, _ => h.elim
  | _ :: _, _ :: _, .un :: _, _, _, _, _, h, _, _, _ => h.elim
  | _ :: _, _ :: _, .bg :: _, _, _, _, _, h, _, _, _ => h.elim
theorem putAll' {B H B' H' : Hp} {js : List Nat} {vs : List V} {ss : List Sl} {σ : St} {ρ : Env} (ok : EOk c B H σ ρ) (g : Gr c B H B' H') (hl : js.length = ss.length) (h : MOk c H B' H' vs ss) : EOk c B' H' (setV σ js vs) (setAll ρ js ss) :=
  putAll ok.w g (ok.mono g) hl h (fun j es p _ hp h1 h2 => by
    obtain ⟨q, ws, k1, _, _, _, k5, _⟩ := ok.sl j _ h1
    rw [k1] at h2
    cases h2
    rw [hp] at k5
    cases k5) rfl ok.g.h
theorem MOk.len {H B' H' : Hp} : ∀ {vs : List V} {ss : List Sl}, MOk c H B' H' vs ss → vs.length = ss.length
  | [], [], _ => rfl
  | _ :: _, .sh _ :: _, h => by rw [List.length_cons, List.length_cons, MOk.len h.2]
  | _ :: _, .ow _ :: _, h => by rw [List.length_cons, List.length_cons, MOk.len h.2]
  | _ :: _, .un :: _, h => h.elim
  | _ :: _, .bg :: _, h => h.elim
  | [], _ :: _, h => h.elim
  | _ :: _, [], h => h.elim
def fPar (js : List Nat) (f : SM) : SS := fun D ρ => f ρ fun ss => js.length = ss.length ∧ D.nx (setAll ρ js ss)
theorem mono_Par {js : List Nat} {f : SM} (h : MonoA f) : MonoS (fPar js f) := fun D D' ρ l q => h _ _ _ (fun ss hs => ⟨hs.1, l.nx _ hs.2⟩) q
theorem s_par (i j : Nat) {x y : Str} {a b : Expr} {f : SM} {px py pt pos : Pos} {kt k2 : Nat} {pt2 : Pos} (hc : X.calm = true) (hN : X.N.Nodup) (ha : PMd X c [a, b] f) (hi : X.N[i]? = some x := by rfl) (hj : X.N[j]? = some y := by rfl) (hij : i ≠ j := by decide)
    (hx : X.env.scope.names.lookup x = some .local := by rfl) (hy : X.env.scope.names.lookup y = some .local := by rfl)
    (hw : swappedStores [.Tuple [.Name x px, .Name y py] kt pt] (.Tuple [a, b] k2 pt2) X.env = pure (some [x, y]) := by rfl)
    (hs : swapsWithSole [.Tuple [.Name x px, .Name y py] kt pt] (.Tuple [a, b] k2 pt2) pos.line X.env = pure false := by rfl) :
    PSd X c (.Assign [.Tuple [.Name x px, .Name y py] kt pt] (.Tuple [a, b] k2 pt2) pos) (fPar [i, j] f) := by
  refine ⟨mono_Par ha.mono, ps_weak (ps_par hc hN hi hj hij hx hy ha.pa hw hs) fun D σ H ⟨B, ρ, ok, h⟩ => ⟨B, ρ, ok, ha.mono _ _ _ (fun ss hd vs B' H' g r => ?_) h⟩⟩
  have hv := r.len
  have hq := hd.2 _ B' H' (putAll' ok g hd.1 r) g.b
  rw [← hd.1] at hv
  match vs, hv with
  | [v, w], _ => exact ⟨v, w, rfl, hq⟩
theorem s_par3 (i j l : Nat) {x y z : Str} {a b d : Expr} {f : SM} {px py pz pt pos : Pos} {kt k2 : Nat} {pt2 : Pos} (hc : X.calm = true) (hN : X.N.Nodup) (ha : PMd X c [a, b, d] f) (hi : X.N[i]? = some x := by rfl) (hj : X.N[j]? = some y := by rfl) (hl : X.N[l]? = some z := by rfl)
    (hij : i ≠ j := by decide) (hil : i ≠ l := by decide) (hjl : j ≠ l := by decide) (hx : X.env.scope.names.lookup x = some .local := by rfl) (hy : X.env.scope.names.lookup y = some .local := by rfl) (hz : X.env.scope.names.lookup z = some .local := by rfl)
    (hw : swappedStores [.Tuple [.Name x px, .Name y py, .Name z pz] kt pt] (.Tuple [a, b, d] k2 pt2) X.env = pure (some [x, y, z]) := by rfl)
    (hs : swapsWithSole [.Tuple [.Name x px, .Name y py, .Name z pz] kt pt] (.Tuple [a, b, d] k2 pt2) pos.line X.env = pure false := by rfl) :
    PSd X c (.Assign [.Tuple [.Name x px, .Name y py, .Name z pz] kt pt] (.Tuple [a, b, d] k2 pt2) pos) (fPar [i, j, l] f) := by
  refine ⟨mono_Par ha.mono, ps_weak (ps_par3 hc hN hi hj hl hij hil hjl hx hy hz ha.pa hw hs) fun D σ H ⟨B, ρ, ok, h⟩ => ⟨B, ρ, ok, ha.mono _ _ _ (fun ss hd vs B' H' g r => ?_) h⟩⟩
  have hv := r.len
  have hq := hd.2 _ B' H' (putAll' ok g hd.1 r) g.b
  rw [← hd.1] at hv
  match vs, hv with
  | [u, v, w], _ => exact ⟨u, v, w, rfl, hq⟩
end
end DL
namespace DL
open PySem L2 PyProof.Rows
/-! ### a list of one's own is changed -/
section
variable {c : C} {B H : Hp} {σ : St} {ρ : Env}
theorem EOk.chg (ok : EOk c B H σ ρ) {i : Nat} {p : Addr} {ds ds' : List D} {vs' : List V} (hl : lk ρ i = .ow ds) (hp : σ[i]? = some (some (.ref p))) (r : RpA B vs' ds') : EOk c B (upd H p (.lst vs')) σ (ρ.set i (.ow ds')) := by
  have hi := lk_get hl (fun z => nomatch z)
  obtain ⟨p', vs, k1, k2, k3, k4, k5, k6⟩ := ok.sl i _ hi
  rw [hp] at k1
  cases k1
  have w' : Wd c B (upd H p (.lst vs')) := by
    refine ⟨fun a o e => ?_, ok.w.bag.keep fun a ha => ⟨rfl, upd_ne fun z => k3 (z ▸ ha)⟩⟩
    rw [upd_ne (ne_of_none e k4)]; exact ok.w.sub a o e
  have hil : i < ρ.length := (List.getElem?_eq_some_iff.mp hi).1
  refine ⟨ok.w0, w', ⟨ok.g.b, fun a o nb e => ?_, ok.g.n, w'⟩, by rw [List.length_set]; exact ok.len, fun j s hj => ?_, fun j k q es fs hjk h1 h2 h3 h4 => ?_⟩
  · rw [upd_ne (ne_of_none e k2)]; exact ok.g.h a o nb e
  · by_cases e : i = j
    · subst e
      rw [List.getElem?_set_self hil] at hj
      cases hj
      exact ⟨p, vs', hp, k2, k3, k4, upd_same, r⟩
    · rw [List.getElem?_set_ne e] at hj
      have o := ok.sl j s hj
      cases s with
      | un => trivial
      | sh d => exact o
      | bg => exact o
      | ow es =>
        obtain ⟨q, ws, m1, m2, m3, m4, m5, m6⟩ := o
        have ne : q ≠ p := fun z => by
          subst z
          exact ok.ap i j q _ _ e hi hj hp m1
        exact ⟨q, ws, m1, m2, m3, m4, by rw [upd_ne ne]; exact m5, m6⟩
  · have old : ∀ {x : Nat} {fs : List D}, (ρ.set i (Sl.ow ds'))[x]? = some (Sl.ow fs) → ∃ gs, ρ[x]? = some (Sl.ow gs) := fun {x fs} hx => by
      by_cases e : i = x
      · subst e; exact ⟨_, hi⟩
      · rw [List.getElem?_set_ne e] at hx; exact ⟨_, hx⟩
    obtain ⟨g1, e1⟩ := old h1
    obtain ⟨g2, e2⟩ := old h2
    exact ok.ap j k q g1 g2 hjk e1 e2 h3 h4
theorem EOk.own (ok : EOk c B H σ ρ) {i : Nat} {ds : List D} (hl : lk ρ i = .ow ds) : ∃ p vs, σ[i]? = some (some (.ref p)) ∧ H p = some (.lst vs) ∧ RpA B vs ds := by
  obtain ⟨p, vs, k1, k2, k3, k4, k5, k6⟩ := ok.sl i _ (lk_get hl (fun z => nomatch z))
  exact ⟨p, vs, k1, k5, k6⟩
/-- a list of one's own is shared from here on -/
theorem EOk.freeze (ok : EOk c B H σ ρ) {i : Nat} {ds : List D} (hl : lk ρ i = .ow ds) : ∃ p vs, EOk c (upd B p (.lst vs)) H σ (ρ.set i (.sh (.list ds))) ∧ B p = none := by
  have hi := lk_get hl (fun z => nomatch z)
  obtain ⟨p, vs, k1, k2, k3, k4, k5, k6⟩ := ok.sl i _ hi
  have x : Ex B (upd B p (.lst vs)) := Evl.Ex.new k4
  have w' : Wd c (upd B p (.lst vs)) H := by
    refine ⟨fun a o e => ?_, ok.w.bag.keep fun a ha => ⟨upd_ne fun z => k3 (z ▸ ha), rfl⟩⟩
    by_cases z : a = p
    · subst z
      rw [upd_same] at e
      rw [k5]; exact e
    · rw [upd_ne z] at e; exact ok.w.sub a o e
  have hil : i < ρ.length := (List.getElem?_eq_some_iff.mp hi).1
  refine ⟨p, vs, ⟨ok.w0, w', ⟨ok.g.b.trans x, ok.g.h, fun a ha => ?_, w'⟩, by rw [List.length_set]; exact ok.len, fun j s hj => ?_, fun j k q es fs hjk h1 h2 h3 h4 => ?_⟩, k4⟩
  · rw [upd_ne (fun z => ha (by rw [z]; exact k2))]; exact ok.g.n a ha
  · by_cases e : i = j
    · subst e
      rw [List.getElem?_set_self hil] at hj
      cases hj
      exact ⟨_, k1, .lst upd_same (rpa_mono x k6)⟩
    · rw [List.getElem?_set_ne e] at hj
      have o := ok.sl j s hj
      cases s with
      | un => trivial
      | sh d =>
        obtain ⟨v, m1, m2⟩ := o
        exact ⟨v, m1, rp_mono x m2⟩
      | bg => exact o
      | ow es =>
        obtain ⟨q, ws, m1, m2, m3, m4, m5, m6⟩ := o
        have ne : q ≠ p := fun z => by
          subst z
          exact ok.ap i j q _ _ e hi hj k1 m1
        exact ⟨q, ws, m1, m2, m3, by rw [upd_ne ne]; exact m4, m5, rpa_mono x m6⟩
  · have old : ∀ {y : Nat} {fs : List D}, (ρ.set i (Sl.sh (.list ds)))[y]? = some (Sl.ow fs) → ρ[y]? = some (Sl.ow fs) := fun {y fs} hx => by
      by_cases e : i = y
      · subst e; rw [List.getElem?_set_self hil] at hx; cases hx
      · rw [List.getElem?_set_ne e] at hx; exact hx
    exact ok.ap j k q _ _ hjk (old h1) (old h2) h3 h4
end
/-- the most items -/
def most : Nat := 4000000
theorem most_lt {n : Nat} (h : n < most) : n < sizeLine := by rw [sizeLine_eq]; unfold most at h; omega
theorem most_le {n : Nat} (h : n ≤ most) : n ≤ sizeLine := by rw [sizeLine_eq]; unfold most at h; omega
def fApp (i : Nat) (fa : SE) : SS := fun D ρ => match lk ρ i with | .ow ds => fa ρ fun d => ds.length < most ∧ D.nx (ρ.set i (.ow (ds ++ [d]))) | _ => False
def fExt (i : Nat) (fa : SE) : SS := fun D ρ => match lk ρ i with | .ow ds => fa ρ fun d => (match d with | .list es => ds.length + es.length ≤ most ∧ D.nx (ρ.set i (.ow (ds ++ es))) | _ => False) | _ => False
def fPop (i : Nat) (g : GT) : SS := fun D ρ => match lk ρ i with | .ow ds => (match ds.getLast? with | some d => g d (ρ.set i (.ow ds.dropLast)) D.nx | none => False) | _ => False
def fSetIx (i : Nat) (fa fk : SE) : SS := fun D ρ => match lk ρ i with
  | .ow ds => fa ρ fun d => fk ρ fun k => (match k with | .int k => (match ixN ds.length k with | some j => D.nx (ρ.set i (.ow (ds.set j d))) | none => False) | _ => False)
  | _ => False
def fFreeze (i : Nat) (f : SS) : SS := fun D ρ => match lk ρ i with | .ow ds => f D (ρ.set i (.sh (.list ds))) | _ => False
section
variable {X : Cx} {c : C}
theorem s_freeze (i : Nat) {st : Stmt} {f : SS} (h : PSd X c st f) : PSd X c st (fFreeze i f) := by
  refine ⟨fun D D' ρ l q => ?_, ps_weak h.ps fun D σ H ⟨B, ρ, ok, q⟩ => ?_⟩
  · unfold fFreeze at q ⊢
    split at q <;> first | exact q.elim | exact h.mono _ _ _ l q
  · unfold fFreeze at q
    split at q <;> first | exact q.elim | skip
    rename_i e
    obtain ⟨p, vs, ok', hb⟩ := ok.freeze e
    exact ⟨_, _, ok', h.mono _ _ _ (liftE_le (Evl.Ex.new hb) D) q⟩
theorem s_app (i : Nat) {x : Str} {e : Expr} {fa : SE} {p1 p2 pos pos' : Pos} (ha : PV X c e fa) (hN : X.N[i]? = some x := by rfl) (hv : Vis X.env.scope x := by first | exact Or.inl rfl | exact Or.inr (Or.inl rfl) | exact Or.inr (Or.inr rfl))
    (hd : (x == ("__debug__" : Str)) = false := by decide) (hcd : (x == ("__classdict__" : Str)) = false := by decide)
    (hbase : attributeBase (.Name x p1) "append" X.env (eval (.Name x p1) X.env) = eval (.Name x p1) X.env := by rfl)
    (hfew : ((backTo pos (starEach [e] X.env)).all (fun x => !x.1) && (backToKw pos (keywordEach [] X.env)).all (fun x => x.1.isSome) && decide ([e].length + ([] : List Keyword).length + (if ([] : List Keyword).isEmpty then 0 else 1) < 30)) = true := by rfl)
    (hline : (p2.endLine == pos.line) = true := by rfl) (hst : starEach [e] X.env = (false, eval e X.env) :: starEach [] X.env := by rfl) (hplain : (backTo pos (starEach [] X.env)).any (·.1) = false := by rfl)
    (hs : swapsWith (.Call (.Attribute (.Name x p1) "append" p2) [e] [] pos) none pos'.line X.env = pure false := by rfl) :
    PSd X c (.Expr (.Call (.Attribute (.Name x p1) "append" p2) [e] [] pos) pos') (fApp i fa) := by
  have hpe : PE X (.Call (.Attribute (.Name x p1) "append" p2) [e] [] pos) (tBM X.K "list" rAppend (tVar i) (tCons (toV c fa) tNil)) := pe_bm PySem.F.plainAttrs_list PySem.F.slot_list_append PySem.F.type_list_append mt_append (pe_var hN hv hd hcd) (pa_cons ha.pe pa_nil hst) hbase hfew hline hst hplain
  refine ⟨fun D D' ρ l q => ?_, ps_weak (ps_expr hpe hs) fun D σ H ⟨B, ρ, ok, q⟩ => ?_⟩
  · unfold fApp at q ⊢
    split at q <;> first | exact q.elim | exact ha.mono _ _ _ (fun d hd => ⟨hd.1, l.nx _ hd.2⟩) q
  · unfold fApp at q
    split at q <;> first | exact q.elim | skip
    rename_i ds e1
    obtain ⟨p, vs, k1, k2, k3⟩ := ok.own e1
    refine ⟨_, k1, .inl ⟨rfl, vs, SqL.of k2⟩, B, ρ, ok, ha.mono _ _ _ (fun d hd v B1 H1 g1 r1 => ?_) q⟩
    obtain ⟨p', vs1, m1, m2, m3⟩ := (ok.mono g1).own e1
    rw [k1] at m1
    cases m1
    refine ⟨p, vs1, v, rfl, rfl, m2, ?_, ?_⟩
    · rw [rpa_len m3]; exact most_lt hd.1
    · exact hd.2 σ B1 _ ((ok.mono g1).chg e1 k1 (rpa_app m3 (.cons r1 .nil))) g1.b
theorem s_ext (i : Nat) {x : Str} {e : Expr} {fa : SE} {p1 p2 pos pos' : Pos} (ha : PB X c e fa) (hN : X.N[i]? = some x := by rfl) (hv : Vis X.env.scope x := by first | exact Or.inl rfl | exact Or.inr (Or.inl rfl) | exact Or.inr (Or.inr rfl))
    (hd : (x == ("__debug__" : Str)) = false := by decide) (hcd : (x == ("__classdict__" : Str)) = false := by decide)
    (hbase : attributeBase (.Name x p1) "extend" X.env (eval (.Name x p1) X.env) = eval (.Name x p1) X.env := by rfl)
    (hfew : ((backTo pos (starEach [e] X.env)).all (fun x => !x.1) && (backToKw pos (keywordEach [] X.env)).all (fun x => x.1.isSome) && decide ([e].length + ([] : List Keyword).length + (if ([] : List Keyword).isEmpty then 0 else 1) < 30)) = true := by rfl)
    (hline : (p2.endLine == pos.line) = true := by rfl) (hst : starEach [e] X.env = (false, eval e X.env) :: starEach [] X.env := by rfl) (hplain : (backTo pos (starEach [] X.env)).any (·.1) = false := by rfl)
    (hs : swapsWith (.Call (.Attribute (.Name x p1) "extend" p2) [e] [] pos) none pos'.line X.env = pure false := by rfl) :
    PSd X c (.Expr (.Call (.Attribute (.Name x p1) "extend" p2) [e] [] pos) pos') (fExt i fa) := by
  have hpe : PE X (.Call (.Attribute (.Name x p1) "extend" p2) [e] [] pos) (tBM X.K "list" rExtend (tVar i) (tCons (toB c fa) tNil)) := pe_bm PySem.F.plainAttrs_list PySem.F.slot_list_extend PySem.F.type_list_extend mt_extend (pe_var hN hv hd hcd) (pa_cons ha.pe pa_nil hst) hbase hfew hline hst hplain
  refine ⟨fun D D' ρ l q => ?_, ps_weak (ps_expr hpe hs) fun D σ H ⟨B, ρ, ok, q⟩ => ?_⟩
  · unfold fExt at q ⊢
    split at q <;> first | exact q.elim | skip
    refine ha.mono _ _ _ (fun d hd => ?_) q
    cases d <;> first | exact hd.elim | exact ⟨hd.1, l.nx _ hd.2⟩
  · unfold fExt at q
    split at q <;> first | exact q.elim | skip
    rename_i ds e1
    obtain ⟨p, vs, k1, k2, k3⟩ := ok.own e1
    refine ⟨_, k1, .inl ⟨rfl, vs, SqL.of k2⟩, B, ρ, ok, ha.mono _ _ _ (fun d hd v B1 H1 g1 r1 => ?_) q⟩
    cases d <;> first | exact hd.elim | skip
    obtain ⟨p', vs1, m1, m2, m3⟩ := (ok.mono g1).own e1
    rw [k1] at m1
    cases m1
    obtain ⟨b, zs, rfl, h1, h2⟩ := r1.list g1.w
    refine ⟨p, b, vs1, zs, rfl, rfl, m2, h1, ?_, ?_⟩
    · rw [rpa_len m3, rpa_len h2]; exact most_le hd.1
    · exact hd.2 σ B1 _ ((ok.mono g1).chg e1 k1 (rpa_app m3 h2)) g1.b
theorem rpa_dropLast {B : Hp} {vs : List V} {ds : List D} (h : RpA B vs ds) : RpA B vs.dropLast ds.dropLast := by
  rw [List.dropLast_eq_take, List.dropLast_eq_take, rpa_len h]
  exact rpa_take _ h
theorem s_pop (i : Nat) {x : Str} {tg : Expr} {g : GT} {ks : List Nat} {p1 p2 pos pos' : Pos} (hg : PGd X c tg g ks) (hN : X.N[i]? = some x := by rfl) (hv : Vis X.env.scope x := by first | exact Or.inl rfl | exact Or.inr (Or.inl rfl) | exact Or.inr (Or.inr rfl))
    (hd : (x == ("__debug__" : Str)) = false := by decide) (hcd : (x == ("__classdict__" : Str)) = false := by decide)
    (hbase : attributeBase (.Name x p1) "pop" X.env (eval (.Name x p1) X.env) = eval (.Name x p1) X.env := by rfl) (hline : (p2.endLine == pos.line) = true := by rfl)
    (hs : swapsWithSole [tg] (.Call (.Attribute (.Name x p1) "pop" p2) [] [] pos) pos'.line X.env = pure false := by rfl) (hw : swappedStores [tg] (.Call (.Attribute (.Name x p1) "pop" p2) [] [] pos) X.env = pure none := by rfl)
    (h1 : (assignEach [tg] X.env).map (·.2) = [assign tg X.env] := by rfl) :
    PSd X c (.Assign [tg] (.Call (.Attribute (.Name x p1) "pop" p2) [] [] pos) pos') (fPop i g) := by
  have hpe : PE X (.Call (.Attribute (.Name x p1) "pop" p2) [] [] pos) (tBM0 X.K "list" rPop (tVar i)) := pe_bm0 PySem.F.plainAttrs_list PySem.F.slot_list_pop PySem.F.type_list_pop mt_pop (pe_var hN hv hd hcd) hbase hline
  refine ⟨fun D D' ρ l q => ?_, ps_weak (ps_asg hpe hg.pg hs hw h1) fun D σ H ⟨B, ρ, ok, q⟩ => ?_⟩
  · unfold fPop at q ⊢
    split at q <;> first | exact q.elim | skip
    split at q <;> first | exact q.elim | exact hg.mono _ _ _ _ l.nx q
  · unfold fPop at q
    split at q <;> first | exact q.elim | skip
    split at q <;> first | exact q.elim | skip
    rename_i ds e1 _ d e2
    obtain ⟨p, vs, k1, k2, k3⟩ := ok.own e1
    rw [List.getLast?_eq_getElem?] at e2
    obtain ⟨y, h3, h4⟩ := rpa_get k3 e2
    refine ⟨_, k1, .inl ⟨rfl, vs, SqL.of k2⟩, p, vs, y, rfl, rfl, k2, by rw [rpa_len k3]; exact h3, ?_⟩
    exact ⟨B, _, d, ok.chg e1 k1 (rpa_dropLast k3), h4, hg.mono _ _ _ _ (fun ρ' h' σ' ok' _ => h' σ' B _ ok' (Evl.Ex.refl B)) q⟩
theorem s_setIx (i : Nat) {x : Str} {e idx : Expr} {fa fk : SE} {p1 p2 pos : Pos} (he : PV X c e fa) (hk : PB X c idx fk) (hN : X.N[i]? = some x := by rfl) (hv : Vis X.env.scope x := by first | exact Or.inl rfl | exact Or.inr (Or.inl rfl) | exact Or.inr (Or.inr rfl))
    (hd : (x == ("__debug__" : Str)) = false := by decide) (hcd : (x == ("__classdict__" : Str)) = false := by decide)
    (ha : ∀ v, assign (.Subscript (.Name x p1) idx p2) X.env v = (do
      let ov ← holding [v] (eval (.Name x p1) X.env)
      let iv ← holding [v, ov] (eval idx X.env)
      standAt p2
      holding [v, ov, iv] (setItem ov iv v)
      release [v, ov, iv] []) := by intro _; rfl)
    (hs : swapsWithSole [.Subscript (.Name x p1) idx p2] e pos.line X.env = pure false := by rfl) (hw : swappedStores [.Subscript (.Name x p1) idx p2] e X.env = pure none := by rfl)
    (h1 : (assignEach [.Subscript (.Name x p1) idx p2] X.env).map (·.2) = [assign (.Subscript (.Name x p1) idx p2) X.env] := by rfl) :
    PSd X c (.Assign [.Subscript (.Name x p1) idx p2] e pos) (fSetIx i fa fk) := by
  refine ⟨fun D D' ρ l q => ?_, ps_weak (ps_asg he.pe (pg_sub (pe_var hN hv hd hcd) hk.pe set_list ha) hs hw h1) fun D σ H ⟨B, ρ, ok, q⟩ => ?_⟩
  · unfold fSetIx at q ⊢
    split at q <;> first | exact q.elim | skip
    refine he.mono _ _ _ (fun d hd => hk.mono _ _ _ (fun k hk' => ?_) hd) q
    cases k <;> first | exact hk'.elim | skip
    dsimp only at hk' ⊢
    split at hk' <;> first | exact hk'.elim | exact l.nx _ hk'
  · unfold fSetIx at q
    split at q <;> first | exact q.elim | skip
    rename_i ds e1
    refine ⟨B, ρ, ok, he.mono _ _ _ (fun d hd v B1 H1 g1 r1 => ?_) q⟩
    obtain ⟨p, vs, k1, k2, k3⟩ := (ok.mono g1).own e1
    refine ⟨_, k1, B1, ρ, ok.mono g1, hk.mono _ _ _ (fun k hk' u B2 H2 g2 r2 => ?_) hd⟩
    cases k <;> first | exact hk'.elim | skip
    rename_i k
    dsimp only at hk'
    split at hk' <;> first | exact hk'.elim | skip
    rename_i j e3
    have ok2 := (ok.mono g1).mono g2
    obtain ⟨p', vs1, m1, m2, m3⟩ := ok2.own e1
    rw [k1] at m1
    cases m1
    exact ⟨p, vs1, k, j, rfl, r2.int, m2, by rw [rpa_len m3]; exact e3, hk' σ B2 _ (ok2.chg e1 k1 (rpa_set (rp_mono g2.b r1) j m3)) (g1.b.trans g2.b)⟩
end
/-! ### what is walked -/
abbrev SI := Env → (List D → Prop) → Prop
/-- J yields ds, whatever more may come to stand -/
def ItOk (c : C) (J : It) (B : Hp) (ds : List D) : Prop := ∀ (i : Nat) (B1 H1 : Hp), Ex B B1 → Wd c B1 H1 →
  (ds.length ≤ i → J.stop i H1) ∧ ∀ d, ds[i]? = some d → J.go i H1 ∧ ∀ x H2, J.yld i H1 x H2 → ∃ B2, Gr c B1 H1 B2 H2 ∧ Rp B2 x d
def toI (c : C) (f : SI) : TI := fun σ H R => ∃ B ρ, EOk c B H σ ρ ∧ f ρ fun ds => ∀ J B' H', Gr c B H B' H' → ItOk c J B' ds → R J H'
structure PItd (X : Cx) (c : C) (tg iter : Expr) (f : SI) : Prop where
  mono : MonoL f
  pi : PI X tg iter (toI c f)
theorem pi_weak {X : Cx} {tg iter : Expr} {t t' : TI} (h : PI X tg iter t) (w : ∀ σ H R, t' σ H R → t σ H R) : PI X tg iter t' := ⟨fun pins s σ H R I q => h.run pins s σ H R I (w σ H R q)⟩
section
variable {X : Cx} {c : C} {tg : Expr}
theorem itok_list {B : Hp} {a : Addr} {xs : List V} {ds : List D} (h : B a = some (.lst xs)) (r : RpA B xs ds) : ItOk c (Itl X.K a) B ds := fun i B1 H1 e w => by
  have h1 : H1 a = some (.lst xs) := w.sub _ _ (e _ _ h)
  refine ⟨fun hi => ⟨xs, SqL.of h1, by rw [rpa_len r]; exact hi⟩, fun d hd => ?_⟩
  obtain ⟨v, h2, h3⟩ := rpa_get r hd
  refine ⟨⟨xs, v, SqL.of h1, h2⟩, fun x H2 ⟨e1, y⟩ => ?_⟩
  subst e1
  have := y xs (SqL.of h1)
  rw [h2] at this
  cases this
  exact ⟨B1, Gr.refl w, rp_mono e h3⟩
theorem itok_tup {B : Hp} {a : Addr} {xs : List V} {ds : List D} (h : B a = some (.tup xs)) (r : RpA B xs ds) : ItOk c (Itt X.K a) B ds := fun i B1 H1 e w => by
  have h1 : H1 a = some (.tup xs) := w.sub _ _ (e _ _ h)
  refine ⟨fun hi => ⟨xs, SqT.of h1, by rw [rpa_len r]; exact hi⟩, fun d hd => ?_⟩
  obtain ⟨v, h2, h3⟩ := rpa_get r hd
  refine ⟨⟨xs, v, SqT.of h1, h2⟩, fun x H2 ⟨e1, y⟩ => ?_⟩
  subst e1
  have := y xs (SqT.of h1)
  rw [h2] at this
  cases this
  exact ⟨B1, Gr.refl w, rp_mono e h3⟩
/-- a list or a tuple -/
def iSeqD (K : PySem.W.Frag) (tl : TE) : TI := fun σ H R => tl σ H fun x H1 => ∃ a xs, x = .ref a ∧ ((SqL K H1 a xs ∧ R (Itl K a) H1) ∨ (SqT K H1 a xs ∧ R (Itt K a) H1))
theorem pi_seqD {l : Expr} {tl : TE} (hl : PE X l tl) : PI X tg l (iSeqD X.K tl) := by
  refine ⟨fun pins s σ H R I h => thn (hl.run pins s σ H _ I h) fun v s1 hv => ?_⟩
  obtain ⟨x, H1, I1, r1, a, xs, ex, hq⟩ := hv
  subst ex
  cases r1
  have fr : FpOk X pins H1 s1.heap.objs.size := I1.fpOk (Nat.le_refl _) (I1.hok.fresh (Nat.le_refl _))
  have all : ∀ b ∈ [s1.heap.objs.size], FpOk X pins H1 b := fun b hb => by
    rw [List.mem_singleton] at hb
    rw [hb]; exact fr
  rcases hq with ⟨hq, q⟩ | ⟨hq, q⟩
  · obtain ⟨its, _, p, _⟩ := I1.list hq
    exact wpAny_pyIter_list p.isList ⟨_, _, _, _, H1, rfl, I1.kept (t' := s1.toks) fun _ _ e => Heap.get?_push_of_some _ e, turn_list a _, ⟨_, Heap.get?_push_size _ rfl, rfl, rfl⟩, all, q⟩
  · obtain ⟨its, _, p, _⟩ := I1.tuple hq
    exact wpAny_pyIter_tuple (show s1.heap.IsTuple a its.toArray from p) ⟨_, _, _, _, H1, rfl, I1.kept (t' := s1.toks) fun _ _ e => Heap.get?_push_of_some _ e, turn_tuple a _, ⟨_, Heap.get?_push_size _ rfl, rfl, rfl⟩, all, q⟩
theorem i_seq {e : Expr} {fa : SE} (ha : PV X c e fa) : PItd X c tg e (fSeq fa) := by
  refine ⟨mono_Seq ha.mono, pi_weak (pi_seqD ha.pe) fun σ H R ⟨B, ρ, ok, h⟩ => ⟨B, ρ, ok, ha.mono _ _ _ (fun d hd v B' H' g r => ?_) h⟩⟩
  cases d <;> simp only [seqOf] at hd <;> first | exact hd.elim | skip
  · obtain ⟨a, xs, rfl, h1, h2⟩ := rp_lst r
    exact ⟨a, xs, rfl, .inl ⟨SqL.of (g.w.sub _ _ h1), hd _ B' H' g (itok_list h1 h2)⟩⟩
  · obtain ⟨a, xs, rfl, h1, h2⟩ := rp_tup r
    exact ⟨a, xs, rfl, .inr ⟨SqT.of (g.w.sub _ _ h1), hd _ B' H' g (itok_tup h1 h2)⟩⟩
/-- lo, lo + 1, .. -/
def rng (lo : Int) (n : Nat) : List D := (List.range n).map fun i => .int (lo + (i : Nat))
theorem rng_len (lo : Int) (n : Nat) : (rng lo n).length = n := by unfold rng; rw [List.length_map, List.length_range]
theorem rng_get {lo : Int} {n i : Nat} {d : D} (h : (rng lo n)[i]? = some d) : i < n ∧ d = .int (lo + (i : Nat)) := by
  have hi : i < n := by
    have := (List.getElem?_eq_some_iff.mp h).1
    rw [rng_len] at this; exact this
  refine ⟨hi, ?_⟩
  unfold rng at h
  rw [List.getElem?_map, List.getElem?_range hi] at h
  cases h; rfl
theorem itok_rng {B : Hp} {lo : Int} {n : Nat} : ItOk c (Itr lo n) B (rng lo n) := fun i B1 H1 e w => by
  refine ⟨fun hi => by rw [rng_len] at hi; exact hi, fun d hd => ?_⟩
  obtain ⟨h1, h2⟩ := rng_get hd
  refine ⟨h1, fun x H2 ⟨e1, y⟩ => ?_⟩
  subst e1 y h2
  exact ⟨B1, Gr.refl w, .int _⟩
def fRng1 (fa : SE) : SI := fun ρ Q => fa ρ fun d => match d with | .int j => -(2 ^ 62) ≤ j ∧ j < 2 ^ 62 ∧ Q (rng 0 j.toNat) | _ => False
def fRng2 (fa fb : SE) : SI := fun ρ Q => fa ρ fun d => fb ρ fun e => match d, e with | .int i, .int j => (-(2 ^ 62) ≤ i ∧ i < 2 ^ 62 ∧ -(2 ^ 62) ≤ j ∧ j < 2 ^ 62) ∧ Q (rng i (j - i).toNat) | _, _ => False
theorem i_rng1 {a : Expr} {fa : SE} {p pos : Pos} (hm : X.mg "range" = none) (ha : PB X c a fa) (hg : Gl X "range" := by rfl) (hs : starEach [a] X.env = [(false, eval a X.env)] := by rfl) : PItd X c tg (.Call (.Name "range" p) [a] [] pos) (fRng1 fa) := by
  refine ⟨fun ρ Q Q' k h => ha.mono _ _ _ (fun d hd => ?_) h, pi_weak (pi_range1 hg hm (pa_cons ha.pe pa_nil (by rw [hs]; rfl)) hs) fun σ H R ⟨B, ρ, ok, h⟩ => ⟨B, ρ, ok, ha.mono _ _ _ (fun d hd v B' H' g r => ?_) h⟩⟩
  · cases d <;> first | exact hd.elim | exact ⟨hd.1, hd.2.1, k _ hd.2.2⟩
  · cases d <;> first | exact hd.elim | skip
    rw [r.int]
    exact ⟨_, rfl, hd.1, hd.2.1, hd.2.2 _ B' H' g itok_rng⟩
theorem i_rng2 {a b : Expr} {fa fb : SE} {p pos : Pos} (hm : X.mg "range" = none) (ha : PB X c a fa) (hb : PB X c b fb) (hg : Gl X "range" := by rfl) (hs : starEach [a, b] X.env = [(false, eval a X.env), (false, eval b X.env)] := by rfl) (hs2 : starEach [b] X.env = [(false, eval b X.env)] := by rfl) :
    PItd X c tg (.Call (.Name "range" p) [a, b] [] pos) (fRng2 fa fb) := by
  refine ⟨fun ρ Q Q' k h => ha.mono _ _ _ (fun d hd => hb.mono _ _ _ (fun e he => ?_) hd) h, pi_weak (pi_range2 hg hm (pa_cons ha.pe (pa_cons hb.pe pa_nil (by rw [hs2]; rfl)) (by rw [hs, hs2])) hs hs2) fun σ H R ⟨B, ρ, ok, h⟩ =>
    ⟨B, ρ, ok, ha.mono _ _ _ (fun d hd v B' H' g r => ⟨B', ρ, ok.mono g, hb.mono _ _ _ (fun e he u B2 H2 g2 r2 => ?_) hd⟩) h⟩⟩
  · cases d <;> cases e <;> first | exact he.elim | exact ⟨he.1, k _ he.2⟩
  · cases d <;> cases e <;> first | exact he.elim | skip
    rw [r.int, r2.int]
    exact ⟨_, _, rfl, he.1, he.2 _ B2 H2 (g.trans ok.w g2) itok_rng⟩
/-! ### for, while -/
/-- what a turn is to reach: k, the next turn -/
def loopE (k : Env → Prop) (D : En) : En := { nx := k, rt := D.rt, bk := D.nx, ct := k }
theorem loopE_le {k k' : Env → Prop} {D D' : En} (h : ∀ ρ, k ρ → k' ρ) (l : En.le D D') : En.le (loopE k D) (loopE k' D') := ⟨h, l.rt, l.nx, h⟩
def fFor (g : GT) (body : SS) : List D → SS
  | [] => fun D ρ => D.nx ρ
  | d :: ds => fun D ρ => g d ρ fun ρ' => body (loopE (fFor g body ds D) D) ρ'
theorem mono_For {g : GT} {body : SS} (hg : ∀ d ρ (Q Q' : Env → Prop), (∀ ρ, Q ρ → Q' ρ) → g d ρ Q → g d ρ Q') (hb : MonoS body) : ∀ ds, MonoS (fFor g body ds)
  | [] => fun _ _ _ l h => l.nx _ h
  | _ :: ds => fun D D' ρ l h => hg _ _ _ _ (fun ρ' h' => hb _ _ _ (loopE_le (fun ρ q => mono_For hg hb ds _ _ _ l q) l) h') h
theorem s_for {iter : Expr} {body : List Stmt} {fi : SI} {g : GT} {ks : List Nat} {f : SS} {pos : Pos} (hp : PassesOwn (model X.prog X.w) X.A X.env X.xe) (hc : X.calm = true) (hi : PItd X c tg iter fi) (hg : PGd X c tg g ks) (hb : PSsd X c body f)
    (hs : ∀ x, foldedSetIterable iter X.env x = pure x := by intro _; rfl) : PSd X c (.For tg iter body [] pos) (fun D ρ => fi ρ fun ds => fFor g f ds D ρ) := by
  refine ⟨fun D D' ρ l h => hi.mono _ _ _ (fun ds q => mono_For hg.mono hb.mono ds _ _ _ l q) h, ps_weak (ps_for hp hc hi.pi hg.pg hb.ps hs) fun D σ H ⟨B, ρ, ok, h⟩ => ?_⟩
  refine ⟨B, ρ, ok, hi.mono _ _ _ (fun ds hd J B' H' g' it => ?_) h⟩
  refine ⟨fun i m σ1 H1 => m = ds.length - i ∧ i ≤ ds.length ∧ ∃ B1 ρ1, EOk c B1 H1 σ1 ρ1 ∧ Ex B' B1 ∧ fFor g f (ds.drop i) (liftE c B1 D) ρ1, ⟨ds.length, by simp, Nat.zero_le _, B', ρ, ok.mono g', Evl.Ex.refl _, ?_⟩, ?_⟩
  · rw [List.drop_zero]
    exact mono_For hg.mono hb.mono ds _ _ _ (liftE_le g'.b D) hd
  · rintro i m σ1 H1 ⟨rfl, hi', B1, ρ1, ok1, e1, q⟩
    obtain ⟨i1, i2⟩ := it i B1 H1 e1 ok1.w
    by_cases hlt : i < ds.length
    · refine .inr ?_
      obtain ⟨d, hd⟩ : ∃ d, ds[i]? = some d := ⟨ds[i], by simp [hlt]⟩
      obtain ⟨go, yl⟩ := i2 d hd
      refine ⟨go, fun σ' H' => ∃ B2 ρ2, EOk c B2 H' σ' ρ2 ∧ Ex B' B2 ∧ fFor g f (ds.drop (i + 1)) (liftE c B2 D) ρ2, fun σ' H' ⟨B2, ρ2, k1, k2, k3⟩ => ⟨ds.length - (i + 1), by omega, rfl, hlt, B2, ρ2, k1, k2, k3⟩, fun x H2 hy => ?_⟩
      obtain ⟨B2, g2, r2⟩ := yl x H2 hy
      have ed : ds.drop i = d :: ds.drop (i + 1) := by
        rw [List.drop_eq_getElem_cons hlt]
        congr 1
        have := List.getElem?_eq_getElem hlt
        rw [this] at hd
        exact Option.some.inj hd
      rw [ed] at q
      refine ⟨B2, ρ1, d, ok1.mono g2, r2, hg.mono _ _ _ _ (fun ρ' h' σ' ok' _ => ?_) q⟩
      refine ⟨B2, ρ', ok', hb.mono (loopE (fFor g f (ds.drop (i + 1)) (liftE c B1 D)) (liftE c B1 D)) _ _ ⟨fun ρ3 h3 σ3 B3 H3 ok3 e3 => ?_, fun _ h3 => h3, fun ρ3 h3 σ3 B3 H3 ok3 e3 => ?_, fun ρ3 h3 σ3 B3 H3 ok3 e3 => ?_⟩ h'⟩
      · exact ⟨B3, ρ3, ok3, (e1.trans g2.b).trans e3, mono_For hg.mono hb.mono _ _ _ _ (liftE_le (g2.b.trans e3) D) h3⟩
      · exact h3 σ3 B3 H3 ok3 (g2.b.trans e3)
      · exact ⟨B3, ρ3, ok3, (e1.trans g2.b).trans e3, mono_For hg.mono hb.mono _ _ _ _ (liftE_le (g2.b.trans e3) D) h3⟩
    · refine .inl ⟨i1 (by omega), ?_⟩
      rw [List.drop_eq_nil_of_le (by omega)] at q
      exact q σ1 B1 H1 ok1 (Evl.Ex.refl _)
def fWhN (t : ST) (body : SS) : Nat → SS
  | 0 => fun _ _ => False
  | n + 1 => fun D ρ => t ρ fun b => if b = true then body (loopE (fWhN t body n D) D) ρ else D.nx ρ
theorem mono_WhN {t : ST} {body : SS} (ht : MonoT t) (hb : MonoS body) : ∀ n, MonoS (fWhN t body n)
  | 0 => fun _ _ _ _ h => h
  | n + 1 => fun D D' ρ l h => ht _ _ _ (fun b hb' => by
    cases b with
    | true => exact hb _ _ _ (loopE_le (fun ρ q => mono_WhN ht hb n _ _ _ l q) l) hb'
    | false => exact l.nx _ hb') h
def fWhile (t : ST) (body : SS) : SS := fun D ρ => ∃ n, fWhN t body n D ρ
theorem s_while {cc : Expr} {body : List Stmt} {t : ST} {f : SS} {pos : Pos} (hp : PassesOwn (model X.prog X.w) X.A X.env X.xe) (ht : PTd X c cc t) (hb : PSsd X c body f) : PSd X c (.While cc body [] pos) (fWhile t f) := by
  refine ⟨fun D D' ρ l ⟨n, h⟩ => ⟨n, mono_WhN ht.mono hb.mono n _ _ _ l h⟩, ps_weak (ps_while hp ht.pt hb.ps) fun D σ H ⟨B, ρ, ok, n, h⟩ => ?_⟩
  refine ⟨fun m σ1 H1 => ∃ B1 ρ1, EOk c B1 H1 σ1 ρ1 ∧ fWhN t f m (liftE c B1 D) ρ1, ⟨n, B, ρ, ok, h⟩, ?_⟩
  rintro m σ1 H1 ⟨B1, ρ1, ok1, q⟩
  cases m with
  | zero => exact q.elim
  | succ m =>
    refine ⟨B1, ρ1, ok1, ht.mono _ _ _ (fun b hb' B2 H2 g2 => ?_) q⟩
    cases b with
    | false => exact hb' σ1 B2 H2 (ok1.mono g2) g2.b
    | true =>
      rw [if_pos rfl] at hb' ⊢
      refine ⟨fun σ' H' => ∃ B3 ρ3, EOk c B3 H' σ' ρ3 ∧ fWhN t f m (liftE c B3 D) ρ3, fun σ' H' k => ⟨m, Nat.lt_succ_self _, k⟩, ?_⟩
      refine ⟨B2, ρ1, ok1.mono g2, hb.mono (loopE (fWhN t f m (liftE c B1 D)) (liftE c B1 D)) _ _ ⟨fun ρ3 h3 σ3 B3 H3 ok3 e3 => ?_, fun _ h3 => h3, fun ρ3 h3 σ3 B3 H3 ok3 e3 => ?_, fun ρ3 h3 σ3 B3 H3 ok3 e3 => ?_⟩ hb'⟩
      · exact ⟨B3, ρ3, ok3, mono_WhN ht.mono hb.mono _ _ _ _ (liftE_le (g2.b.trans e3) D) h3⟩
      · exact h3 σ3 B3 H3 ok3 (g2.b.trans e3)
      · exact ⟨B3, ρ3, ok3, mono_WhN ht.mono hb.mono _ _ _ _ (liftE_le (g2.b.trans e3) D) h3⟩
end
/-! ### list comprehensions -/
def wipeE (ρ : Env) : List Nat → Env
  | [] => ρ
  | v :: vs => (wipeE ρ vs).set v .un
theorem EOk.wiped {c : C} {B H : Hp} {σ : St} {ρ : Env} (ok : EOk c B H σ ρ) : ∀ vs : List Nat, EOk c B H (wipe σ vs) (wipeE ρ vs)
  | [] => ok
  | v :: vs => by
    have h := EOk.wiped ok vs
    show EOk c B H ((wipe σ vs).set v none) ((wipeE ρ vs).set v .un)
    have len := h.len
    refine ⟨h.w0, h.w, h.g, by rw [List.length_set, List.length_set]; exact len, fun j s hj => ?_, fun j k p ds es hjk h1 h2 h3 h4 => ?_⟩
    · by_cases e : v = j
      · subst e
        have hl : v < (wipeE ρ vs).length := by
          have := (List.getElem?_eq_some_iff.mp hj).1
          rw [List.length_set] at this; exact this
        rw [List.getElem?_set_self hl] at hj
        cases hj
        trivial
      · rw [List.getElem?_set_ne e] at hj
        exact (h.sl j s hj).congr (List.getElem?_set_ne e)
    · have old : ∀ {y : Nat} {fs : List D}, ((wipeE ρ vs).set v Sl.un)[y]? = some (Sl.ow fs) → v ≠ y ∧ (wipeE ρ vs)[y]? = some (Sl.ow fs) := fun {y fs} hx => by
        by_cases e : v = y
        · subst e
          have hl : v < (wipeE ρ vs).length := by
            have := (List.getElem?_eq_some_iff.mp hx).1
            rw [List.length_set] at this; exact this
          rw [List.getElem?_set_self hl] at hx; cases hx
        · rw [List.getElem?_set_ne e] at hx; exact ⟨e, hx⟩
      obtain ⟨n1, o1⟩ := old h1
      obtain ⟨n2, o2⟩ := old h2
      rw [List.getElem?_set_ne n1] at h3
      rw [List.getElem?_set_ne n2] at h4
      exact h.ap j k p ds es hjk o1 o2 h3 h4
theorem wipe_get {σ : St} : ∀ {vs : List Nat} {j : Nat}, (wipe σ vs)[j]? = if j ∈ vs then (if j < σ.length then some none else none) else σ[j]?
  | [], j => by simp [wipe]
  | v :: vs, j => by
    show ((wipe σ vs).set v none)[j]? = _
    by_cases e : v = j
    · subst e
      by_cases h : v < σ.length
      · rw [List.getElem?_set_self (by rw [wipe_length]; exact h)]
        simp [h]
      · rw [List.getElem?_eq_none (by rw [List.length_set, wipe_length]; omega)]
        simp [h]
    · rw [List.getElem?_set_ne e, wipe_get]
      by_cases h : j ∈ vs
      · simp [h]
      · have : j ∉ v :: vs := by simp only [List.mem_cons, not_or]; exact ⟨fun z => e z.symm, h⟩
        rw [if_neg h, if_neg this]
theorem wipe_off {σ σ' : St} {ks vs : List Nat} (hk : ∀ k ∈ ks, k ∈ vs) (h : Off ks (wipe σ vs) σ') : wipe σ' vs = wipe σ vs := by
  apply List.ext_getElem?
  intro j
  have hl : σ'.length = σ.length := by rw [h.1, wipe_length]
  rw [wipe_get, wipe_get, hl]
  by_cases hj : j ∈ vs
  · rw [if_pos hj, if_pos hj]
  · rw [if_neg hj, if_neg hj, h.2 j (fun z => hj (hk j z)), wipe_get, if_neg hj]
structure PTsd (X : Cx) (c : C) (ifs : List Expr) (t : ST) : Prop where
  mono : MonoT t
  pts : PTs X ifs (toT c t)
def fYes : ST := fun _ Q => Q true
theorem ts_nil {X : Cx} {c : C} : PTsd X c [] fYes := ⟨fun _ _ _ k h => k _ h, ⟨fun pins s σ H Q I h => pts_nil.run pins s σ H Q I (by
  obtain ⟨B, ρ, ok, h⟩ := h
  exact h B H (Gr.refl ok.w))⟩⟩
theorem ts_one {X : Cx} {c : C} {e : Expr} {t : ST} (h : PTd X c e t) : PTsd X c [e] t := ⟨h.mono, pts_one h.pt⟩
def lcRun (g : GT) (t : ST) (e : SE) (ρ : Env) : List D → (List D → Prop) → Prop
  | [], Q => Q []
  | d :: ds, Q => g d ρ fun ρ1 => t ρ1 fun b => if b = true then e ρ1 fun y => lcRun g t e ρ ds fun ys => Q (y :: ys) else lcRun g t e ρ ds Q
theorem mono_lcRun {g : GT} {t : ST} {e : SE} {ρ : Env} (hg : ∀ d ρ (Q Q' : Env → Prop), (∀ ρ, Q ρ → Q' ρ) → g d ρ Q → g d ρ Q') (ht : MonoT t) (he : Mono e) : ∀ (ds : List D) (Q Q' : List D → Prop), (∀ ys, Q ys → Q' ys) → lcRun g t e ρ ds Q → lcRun g t e ρ ds Q'
  | [], _, _, k, h => k _ h
  | _ :: ds, Q, Q', k, h => hg _ _ _ _ (fun ρ1 h1 => ht _ _ _ (fun b hb => by
    cases b with
    | true => exact he _ _ _ (fun y hy => mono_lcRun hg ht he ds _ _ (fun ys h => k _ h) hy) hb
    | false => exact mono_lcRun hg ht he ds _ _ k hb) h1) h
def fLc (vs : List Nat) (fi : SI) (g : GT) (t : ST) (e : SE) : SL := fun ρ Q => fi ρ fun ds => ds.length ≤ most ∧ lcRun g t e (wipeE ρ vs) ds Q
theorem Gr.upN {c : C} {B H B' H' : Hp} (w : Wd c B H) (g : Gr c B H B' H') {p : Addr} {o : HO} (h0 : H p = none) (h1 : B' p = none) : Gr c B H B' (upd H' p o) := by
  have nb : ¬ c.isBag p := fun z => w.there z h0
  refine ⟨g.b, fun a u na e => ?_, g.n, fun a u e => ?_, g.w.bag.keep fun a ha => ⟨rfl, upd_ne fun z => nb (z ▸ ha)⟩⟩
  · rw [upd_ne (ne_of_none e h0)]; exact g.h a u na e
  · rw [upd_ne (ne_of_none e h1)]; exact g.w.sub a u e
section
variable {X : Cx} {c : C}
theorem lc_go {vs ks : List Nat} {fi : SI} {g : GT} {t : ST} {e : SE} (hk : ∀ k ∈ ks, k ∈ vs) (hi : MonoL fi) (hg : ∀ d ρ (Q Q' : Env → Prop), (∀ ρ, Q ρ → Q' ρ) → g d ρ Q → g d ρ Q') (ht : MonoT t) (he : Mono e)
    (σ : St) (H : Hp) (Q : VK) (h : toN c (fLc vs fi g t e) σ H Q) : tLc (toI c fi) (toG c g ks) (toT c t) (toV c e) vs σ H Q := by
  obtain ⟨B, ρ, ok, h⟩ := h
  refine ⟨B, ρ, ok, hi _ _ _ (fun ds hd J B1 H1 g1 it Dl hD => ?_) h⟩
  obtain ⟨hm, hd⟩ := hd
  have ok1 := ok.mono g1
  refine ⟨fun i m H2 => m = ds.length - i ∧ i ≤ ds.length ∧ ∃ B2 acc ad, Gr c B1 H1 B2 H2 ∧ B2 Dl = none ∧ H2 Dl = some (.lst acc) ∧ RpA B2 acc ad ∧ ad.length ≤ i ∧
    lcRun g t e (wipeE ρ vs) (ds.drop i) fun ys => ∀ p ws B' H', Gr c B H B' H' → H p = none → B' p = none → H' p = some (.lst ws) → RpA B' ws (ad ++ ys) → Q (.ref p) H', ⟨ds.length, by simp, Nat.zero_le _, B1, [], [], ?_, ?_, upd_same, .nil, Nat.le_refl _, ?_⟩, ?_⟩
  · exact Gr.newO g1.w hD
  · exact Evl.fresh_back g1.w.sub hD
  · rw [List.drop_zero]; exact hd
  · rintro i m H2 ⟨rfl, hi', B2, acc, ad, g2, k1, k2, k3, k4, q⟩
    obtain ⟨i1, i2⟩ := it i B2 H2 g2.b g2.w
    by_cases hlt : i < ds.length
    · refine .inr ?_
      obtain ⟨d, hd'⟩ : ∃ d, ds[i]? = some d := ⟨ds[i], by simp [hlt]⟩
      obtain ⟨go, yl⟩ := i2 d hd'
      refine ⟨go, fun H' => ∃ B2 acc ad, Gr c B1 H1 B2 H' ∧ B2 Dl = none ∧ H' Dl = some (.lst acc) ∧ RpA B2 acc ad ∧ ad.length ≤ i + 1 ∧
        lcRun g t e (wipeE ρ vs) (ds.drop (i + 1)) fun ys => ∀ p ws B' H', Gr c B H B' H' → H p = none → B' p = none → H' p = some (.lst ws) → RpA B' ws (ad ++ ys) → Q (.ref p) H', fun H' hn => ⟨ds.length - (i + 1), by omega, rfl, hlt, hn⟩, fun x H3 hy => ?_⟩
      obtain ⟨B3, g3, r3⟩ := yl x H3 hy
      have ed : ds.drop i = d :: ds.drop (i + 1) := by
        rw [List.drop_eq_getElem_cons hlt]
        congr 1
        have := List.getElem?_eq_getElem hlt
        rw [this] at hd'
        exact Option.some.inj hd'
      rw [ed] at q
      have stay : ∀ {B4 H4 : Hp}, Gr c B2 H2 B4 H4 → B4 Dl = none ∧ H4 Dl = some (.lst acc) := fun {B4 H4} g4 => by
        have hne : H2 Dl ≠ none := by rw [k2]; exact fun z => nomatch z
        refine ⟨by rw [g4.n Dl hne]; exact k1, g4.h Dl _ (fun z => g1.w.there z hD) k2⟩
      have okw := ((ok1.mono g2).mono g3).wiped vs
      refine ⟨B3, wipeE ρ vs, d, okw, r3, hg _ _ _ _ (fun ρ1 h1 σ1 okg off => ?_) q⟩
      refine ⟨wipe_off hk off, B3, ρ1, okg, ht _ _ _ (fun b hb B4 H4 g4 => ?_) h1⟩
      have g34 := g3.trans g2.w g4
      cases b with
      | true =>
        refine ⟨B4, ρ1, okg.mono g4, he _ _ _ (fun y hy v B5 H5 g5 r5 => ?_) hb⟩
        have g35 := g34.trans g2.w g5
        obtain ⟨s1, s2⟩ := stay g35
        refine ⟨acc, s2, ?_, B5, acc ++ [v], ad ++ [y], Gr.upN g1.w (g2.trans g1.w g35) hD s1, s1, upd_same, rpa_app (rpa_mono g35.b k3) (.cons r5 .nil), ?_, ?_⟩
        · rw [rpa_len k3]; exact most_lt (by omega)
        · rw [List.length_append, List.length_singleton]; omega
        · refine mono_lcRun hg ht he _ _ _ (fun ys hq p ws B' H' a1 a2 a3 a4 a5 => hq p ws B' H' a1 a2 a3 a4 ?_) hy
          rw [List.append_assoc] at a5
          exact a5
      | false =>
        obtain ⟨s1, s2⟩ := stay g34
        exact ⟨B4, acc, ad, g2.trans g1.w g34, s1, s2, rpa_mono g34.b k3, by omega, hb⟩
    · refine .inl ⟨i1 (by omega), ?_⟩
      rw [List.drop_eq_nil_of_le (by omega)] at q
      have hH : H Dl = none := g1.back hD
      refine q Dl acc B2 H2 (g1.trans ok.w g2) hH k1 k2 ?_
      rw [List.append_nil]; exact k3
theorem mono_Lc {vs : List Nat} {fi : SI} {g : GT} {t : ST} {e : SE} (hi : MonoL fi) (hg : ∀ d ρ (Q Q' : Env → Prop), (∀ ρ, Q ρ → Q' ρ) → g d ρ Q → g d ρ Q') (ht : MonoT t) (he : Mono e) : MonoL (fLc vs fi g t e) := fun ρ Q Q' k h => hi _ _ _ (fun ds q => ⟨q.1, mono_lcRun hg ht he _ _ _ k q.2⟩) h
/-- the block's derivations: for each entry -/
abbrev Blk (X : Cx) (scope : Scope) (P : Cx → Prop) : Prop := ∀ (s : Shared) (H : Hp) (Ca : Addr) (cl : List (Str × Addr)) (fp : List Addr), P (X.blk s H scope (compEnvC scope cl Ca X.env) fp)
theorem n_lc {elt tg iter : Expr} {ifs : List Expr} {scope : Scope} {own : List (Str × Nat)} {pos : Pos} {fi : SI} {g : GT} {ks : List Nat} {t : ST} {fe : SE} (hc : X.calm = true) (hN : X.N.Nodup) (ok : blkC X.N X.env.scope scope own = true) (hi : PItd X c tg iter fi)
    (hg : Blk X scope fun Y => PGd Y c tg g ks) (ht : Blk X scope fun Y => PTsd Y c ifs t) (he : Blk X scope fun Y => PV Y c elt fe) (hk : ∀ k ∈ ks, k ∈ own.map (·.2) := by decide) (hs : ∀ x, foldedSetIterable iter X.env x = pure x := by intro _; rfl) :
    PN X c (.ListComp elt [⟨tg, iter, ifs, 0⟩] scope pos) (fLc (own.map (·.2)) fi g t fe) := by
  have m1 := (hg ({} : Shared) (fun _ => none) 0 [] []).mono
  have m2 := (ht ({} : Shared) (fun _ => none) 0 [] []).mono
  have m3 := (he ({} : Shared) (fun _ => none) 0 [] []).mono
  exact ⟨mono_Lc hi.mono m1 m2 m3, pe_weak (pe_lc hc hN hi.pi (blkOk_by ok) (fun s H C cl fp => (hg s H C cl fp).pg) (fun s H C cl fp => (ht s H C cl fp).pts) (fun s H C cl fp => (he s H C cl fp).pe) hs) (lc_go hk hi.mono m1 m2 m3)⟩
/-- name = [..] on one line, the name a local -/
theorem s_lc (i : Nat) {y : Str} {py : Pos} {elt tg iter : Expr} {ifs : List Expr} {scope : Scope} {own : List (Str × Nat)} {pos spos : Pos} {fi : SI} {g : GT} {ks : List Nat} {t : ST} {fe : SE} (hc : X.calm = true) (hN : X.N.Nodup) (ok : blkC X.N X.env.scope scope own = true) (hi : PItd X c tg iter fi)
    (hg : Blk X scope fun Y => PGd Y c tg g ks) (ht : Blk X scope fun Y => PTsd Y c ifs t) (he : Blk X scope fun Y => PV Y c elt fe) (hk : ∀ k ∈ ks, k ∈ own.map (·.2) := by decide) (hy : X.N[i]? = some y := by rfl) (hyl : X.env.scope.names.lookup y = some .local := by rfl)
    (hsw : swapsWith (.ListComp elt [⟨tg, iter, ifs, 0⟩] scope pos) (some (.Name y py)) spos.line X.env = pure true := by exact sw_true rfl rfl rfl (by decide +kernel)) (hs : ∀ x, foldedSetIterable iter X.env x = pure x := by intro _; rfl) :
    PSd X c (.Assign [.Name y py] (.ListComp elt [⟨tg, iter, ifs, 0⟩] scope pos) spos) (fSetN i (fLc (own.map (·.2)) fi g t fe)) := by
  have m1 := (hg ({} : Shared) (fun _ => none) 0 [] []).mono
  have m2 := (ht ({} : Shared) (fun _ => none) 0 [] []).mono
  have m3 := (he ({} : Shared) (fun _ => none) 0 [] []).mono
  have m := mono_Lc (vs := own.map (·.2)) hi.mono m1 m2 m3
  refine ⟨mono_SetN m, ps_weak (ps_setLc hc hN hy hyl hsw hi.pi (blkOk_by ok) (fun s H C cl fp => (hg s H C cl fp).pg) (fun s H C cl fp => (ht s H C cl fp).pts) (fun s H C cl fp => (he s H C cl fp).pe) hs) fun D σ H q => ?_⟩
  exact lc_go hk hi.mono m1 m2 m3 σ H _ (setN_go m D σ H q)
end
end DL
namespace DL
open PySem L2 PyProof.Rows
/-! ### defs, with what guards stand around told -/
abbrev Spec := List Sl → (D → Prop) → Prop
def toSp (G : C → Prop) (S : Spec) : Sp := fun vs H Q _ => ∃ c : C, G c ∧ c.H0 = H ∧ Wd c c.B0 H ∧ ∃ ss, ArgsOk c c.B0 H vs ss ∧ S ss fun d => ∀ v B' H', Gr c c.B0 H B' H' → Rp B' v d → Q v H'
theorem ArgsOk.len {c : C} {B H : Hp} : ∀ {vs : List V} {ss : List Sl}, ArgsOk c B H vs ss → vs.length = ss.length
  | [], [], _ => rfl
  | _ :: _, _ :: _, h => by rw [List.length_cons, List.length_cons, ArgsOk.len h.2]
  | [], _ :: _, h => h.elim
  | _ :: _, [], h => h.elim
theorem ArgsOk.get {c : C} {B H : Hp} : ∀ {vs : List V} {ss : List Sl} {i : Nat} {s : Sl}, ArgsOk c B H vs ss → ss[i]? = some s → ∃ v, vs[i]? = some v ∧ ArgOk c B H v s
  | _ :: _, _ :: _, 0, _, h, e => by
    simp at e
    subst e
    exact ⟨_, rfl, h.1⟩
  | _ :: _, _ :: _, i + 1, s, h, e => by
    obtain ⟨v, h1, h2⟩ := ArgsOk.get (i := i) h.2 (by simpa using e)
    exact ⟨v, by simpa using h1, h2⟩
  | [], [], _, _, _, e => by simp at e
  | [], _ :: _, _, _, h, _ => h.elim
  | _ :: _, [], _, _, h, _ => h.elim
structure FnG (G : C → Prop) (P : Program) (w : World) (K : PySem.W.Frag) (mg : Str → Option Value) (base : Heap) (k : Nat) (f : Addr) (fd : FuncData) (ps : List Str) (S : Spec) : Prop where
  mono : ∀ ss (Q Q' : D → Prop), (∀ d, Q d → Q' d) → S ss Q → S ss Q'
  len : ∀ ss Q, S ss Q → ss.length = ps.length
  run : ∀ (A : Around) (outer : List PySem.Env) (s : Shared) (H : Hp) (args : Args) (us : List Value) (vs : List V) (Q : VK), A.guards = some [] → Room k A → Env0 P w K mg base A outer s H →
    BindsTo s fd args (ps.zip us) → Vals vs us → toSp G S vs H Q E0 → codeAny (model P w) A (.call (.ref f) args) (CR CX0 outer P w H s Q E0) s
theorem FnG.up {G : C → Prop} {P : Program} {w : World} {K : PySem.W.Frag} {mg : Str → Option Value} {base : Heap} {j k : Nat} {f : Addr} {fd : FuncData} {ps : List Str} {S : Spec} (F : FnG G P w K mg base j f fd ps S) (h : j ≤ k) : FnG G P w K mg base k f fd ps S :=
  ⟨F.mono, F.len, fun A outer s H args us vs Q hg hr => F.run A outer s H args us vs Q hg (hr.mono h)⟩
/-- the slots at the entry -/
def initE (N : List Str) (ss : List Sl) : Env := ss ++ List.replicate (N.length - ss.length) .un
theorem EOk.init {c : C} {N : List Str} {vs : List V} {ss : List Sl} (w : Wd c c.B0 c.H0) (h : ArgsOk c c.B0 c.H0 vs ss) : EOk c c.B0 c.H0 (L2.start N vs) (initE N ss) := by
  have hl := h.len
  have key : ∀ {i : Nat} {s : Sl}, (initE N ss)[i]? = some s → s ≠ .un → ∃ v, (L2.start N vs)[i]? = some (some v) ∧ ArgOk c c.B0 c.H0 v s := fun {i s} e n => by
    unfold initE at e
    unfold L2.start
    by_cases hi : i < ss.length
    · rw [List.getElem?_append_left hi] at e
      obtain ⟨v, h1, h2⟩ := h.get e
      refine ⟨v, ?_, h2⟩
      rw [List.getElem?_append_left (by rw [List.length_map]; omega), List.getElem?_map, h1]
      rfl
    · rw [List.getElem?_append_right (by omega), List.getElem?_replicate] at e
      split at e
      · cases e; exact absurd rfl n
      · cases e
  refine ⟨w, w, Gr.refl w, ?_, fun i s e => ?_, fun i j p ds es _ h1 _ _ _ => ?_⟩
  · unfold initE L2.start
    rw [List.length_append, List.length_append, List.length_replicate, List.length_replicate, List.length_map, hl]
  · cases s with
    | un => trivial
    | sh d => exact key e (fun z => nomatch z)
    | bg =>
      obtain ⟨v, h1, h2⟩ := key e (fun z => nomatch z)
      have h3 : v = .ref c.pb := h2
      rw [h3] at h1
      exact h1
    | ow ds =>
      obtain ⟨v, _, h2⟩ := key e (fun z => nomatch z)
      exact h2.elim
  · obtain ⟨v, _, h2⟩ := key h1 (fun z => nomatch z)
    exact h2.elim
/-- a def's end -/
def endsOf (Q : D → Prop) : En := ⟨fun _ => Q .none, Q, fun _ => False, fun _ => False⟩
section
variable {G : C → Prop} {P : Program} {w : World} {K : PySem.W.Frag} {mg : Str → Option Value} {base : Heap}
/-- THE RULE for a def -/
theorem fng_of {x qual : Str} {st : Stmt} {f : Addr} {fd : FuncData} {N ps : List Str} {k : Nat} {S : Spec} (F : Fun K x qual st f fd) (sc : FnScope N ps (defScope st)) (mono : ∀ ss (Q Q' : D → Prop), (∀ d, Q d → Q' d) → S ss Q → S ss Q') (len : ∀ ss Q, S ss Q → ss.length = ps.length)
    (body : ∀ (cdv : Value) (A : Around) (outer : List PySem.Env) (s : Shared) (c : C), G c → A.guards = some [] → Room k (A.deeper (envOfC qual (defScope st) s.heap.objs.size f cdv)) →
      ∃ g, PSsd (cxOf CX0 P w K mg base N qual (defScope st) f cdv A outer s c.H0 E0).nox c (defBody st) g ∧ ∀ ss Q, S ss Q → g (endsOf Q) (initE N ss)) : FnG G P w K mg base (k + 1) f fd ps S := by
  obtain ⟨oc, od, kV, doc, pm, an, cdv, ct, osl, rfl, lk', hcd⟩ := F.ex
  refine ⟨mono, len, ?_⟩
  intro A outer s H args us vs Q hg hr e0 hb r hsp
  obtain ⟨c, hG, hH, wd, ss, ha, hS⟩ := hsp
  subst hH
  have hvl : vs.length = ps.length := by rw [ha.len]; exact len _ _ hS
  have stands : ∀ b o, base.get? b = some o → s.heap.get? b = some o := fun b o z => (e0.bs b o z).1
  have KX : K.In s.heap := e0.mod.kin.keeps stands
  refine codeAny_call_function hr.depth (KX _ _ lk') rfl sc.co sc.gen rfl (PySem.W.codeRec_of KX hcd) (hb _ _ _ _ (wpAny_newFunctionEnv_cells sc.kind ?_ ?_))
  · rintro ⟨n, v⟩ hy
    rcases sc.par n (List.of_mem_zip hy).1 with q | q
    · exact Or.inl q
    · exact Or.inr ⟨q, PySem.W.cellsFrom_some _ _ _ (Or.inl q)⟩
  · intro env he s1 x
    subst he
    refine ⟨(e0.mod.nolimit.keeps stands).keeps x.toInCall.keep, codeAny_func ?_⟩
    obtain ⟨g, hg1, hg2⟩ := body cdv A outer s c hG hg (hr.deeper _)
    have I := inv_start (CX := CX0) (E := E0) (qual := qual) sc hr.hd e0 hvl r x
    have ok := EOk.init (N := N) wd ha
    have goal := hg1.ps.nox.run [] s1 (L2.start N vs) c.H0 { nx := fun _ H' => Q .non H', rt := Q } I ⟨c.B0, initE N ss, ok, hg1.mono (endsOf fun d => ∀ v B' H', Gr c c.B0 c.H0 B' H' → Rp B' v d → Q v H') _ _ ⟨fun ρ h σ' B' H' ok' _ => h .non B' H' ok'.g .non, fun _ h => h, fun _ h => h.elim, fun _ h => h.elim⟩ (hg2 ss _ hS)⟩
    refine wpAny_mono goal (fun fl s' hs => ?_) fun _ _ z => z
    cases fl with
    | ret u =>
      obtain ⟨v, σ', H', J, rv, q⟩ := hs
      exact ⟨v, H', J.os, J.bare, J.base, J.hok, rv, q⟩
    | next =>
      obtain ⟨σ', H', J, q⟩ := hs
      exact ⟨.non, H', J.os, J.bare, J.base, J.hok, rfl, q⟩
    | brk => exact hs.elim fun _ z => z.elim fun _ y => y.2.elim
    | cont => exact hs.elim fun _ z => z.elim fun _ y => y.2.elim
end
/-! ### calls of defs -/
def fCall (S : Spec) (fa : SA) : SE := fun ρ Q => fa ρ fun ss => S ss Q
section
variable {G : C → Prop} {X : Cx} {c : C} {k : Nat} {f : Addr} {fd : FuncData} {ps : List Str} {S : Spec}
theorem run_fng {pins : List (Addr × Obj)} {σ : St} {H : Hp} {s : Shared} {Q : VK} {args : Args} {us : List Value} {vs : List V} (F : FnG G X.prog X.w X.K X.mg X.base k f fd ps S) (hgd : X.A.guards = some []) (hr : Room k X.A) (I : Inv X pins σ H s)
    (hb : BindsTo s fd args (ps.zip us)) (r : Vals vs us) (h : toSp G S vs H Q E0) : codeAny (model X.prog X.w) X.A (.call (.ref f) args) (wants (EP X pins σ Q) X.xe) s := by
  refine codeAny_mono (F.run X.A X.stack s H args us vs Q hgd hr I.env0 hb r h) fun z s' hq => ?_
  cases z with
  | error e => exact False.elim hq
  | ok fl => cases fl <;> first | exact I.after hq | exact False.elim hq
theorem BagOk.again {c : C} {B0 H0 B H : Hp} (b : BagOk c B H) : BagOk { c with B0 := B0, H0 := H0 } B H := ⟨b.out, b.here, b.ok⟩
theorem toSp_of {B H B1 H1 : Hp} {Q : VK} {vs : List V} {ss : List Sl} (hG : ∀ B1 H1, G { c with B0 := B1, H0 := H1 }) (w0 : Wd c B H) (g : Gr c B H B1 H1) (F : FnG G X.prog X.w X.K X.mg X.base k f fd ps S) (r : ArgsOk c B1 H1 vs ss) (h : S ss fun d => ∀ v B' H', Gr c B H B' H' → Rp B' v d → Q v H') : toSp G S vs H1 Q E0 :=
  ⟨{ c with B0 := B1, H0 := H1 }, hG _ _, rfl, ⟨g.w.sub, g.w.bag.again⟩, ss, by
    have conv : ∀ {vs : List V} {ss : List Sl}, ArgsOk c B1 H1 vs ss → ArgsOk { c with B0 := B1, H0 := H1 } B1 H1 vs ss := by
      intro vs
      induction vs with
      | nil => intro ss h; cases ss with
        | nil => trivial
        | cons _ _ => exact h
      | cons v vs ih => intro ss h; cases ss with
        | nil => exact h
        | cons s ss => exact ⟨by cases s <;> exact h.1, ih h.2⟩
    exact conv r, F.mono _ _ _ (fun d hd v B' H' g2 r2 => hd v B' H' (g.trans w0 ⟨g2.b, g2.h, g2.n, ⟨g2.w.sub, ⟨g2.w.bag.out, g2.w.bag.here, g2.w.bag.ok⟩⟩⟩) r2) h⟩
theorem v_call {x : Str} {p pos : Pos} {e : Expr} {es : List Expr} {fa : SA} (F : FnG G X.prog X.w X.K X.mg X.base k f fd ps S) (hG : ∀ B1 H1, G { c with B0 := B1, H0 := H1 }) (hgd : X.A.guards = some []) (hr : Room k X.A) (hm : X.mg x = some (.ref f)) (hk : PySem.W.keepIn X.K (.ref f) = true) (hb : Binds X.K fd ps []) (ha : PAd X c (e :: es) fa)
    (hg : Gl X x := by rfl) (hdb : (x == ("__debug__" : Str)) = false := by decide) (he : starEach (e :: es) X.env = (false, eval e X.env) :: starEach es X.env := by rfl) (hpl : (backTo pos (starEach es X.env)).any (·.1) = false := by rfl) :
    PV X c (.Call (.Name x p) (e :: es) [] pos) (fCall S fa) := by
  refine ⟨fun ρ Q Q' k h => ha.mono _ _ _ (fun ss hs => F.mono _ _ _ k hs) h, ⟨fun pins s σ H Q I ⟨B, ρ, ok, h⟩ => wpAny_Call_Name_kw (ld_glob I hg hm (PySem.W.callWith_K (h₀ := X.base) I.ok.mod.kin hk (wpAny_mono (ha.pa.run pos pins s σ H
    (fun vs H1 => ∃ B1 ss, Gr c B H B1 H1 ∧ ArgsOk c B1 H1 vs ss ∧ S ss fun d => ∀ v B' H', Gr c B H B' H' → Rp B' v d → Q v H') I ⟨B, ρ, ok, ha.mono _ _ _ (fun ss hs vs B1 H1 g r => ⟨B1, ss, g, r, hs⟩) h⟩) (fun us s1 hv => ?_) fun _ _ z => z) he hpl) hdb)⟩⟩
  obtain ⟨vs, H1, I1, rv, B1, ss, g, ra, hS⟩ := hv
  have hl : us.length = ps.length := by rw [← rv.length, ra.len]; exact F.len _ _ hS
  refine ⟨I1.kIn, wpAny_call (run_fng F hgd hr I1 ?_ rv (toSp_of hG ok.w g F ra hS))⟩
  have := hb s1 us I1.kIn (by rw [List.append_nil]; exact hl)
  rw [List.append_nil] at this
  exact this
/-- keywords -/
structure PKd (X : Cx) (c : C) (kws : List Keyword) (f : SA) : Prop where
  mono : MonoA f
  pk : PK X kws (toA c f)
  len : ∀ ρ Q, f ρ Q → f ρ fun ss => Q ss ∧ ss.length = kws.length
theorem pk_weak {kws : List Keyword} {t t' : TA} (h : PK X kws t) (w : ∀ σ H Q, t' σ H Q → t σ H Q) : PK X kws t' := ⟨fun pos pins s σ H Q I q => h.run pos pins s σ H Q I (w σ H Q q)⟩
theorem k_nil : PKd X c [] fAN := ⟨fun _ _ _ k h => k _ h, pk_weak pk_nil fun σ H Q ⟨B, ρ, ok, h⟩ => h [] B H (Gr.refl ok.w) trivial, fun _ _ h => ⟨h, rfl⟩⟩
theorem k_cons {nm : Option Str} {kpos : Pos} {e : Expr} {kws : List Keyword} {fa : SE} {fr : SA} (ha : PV X c e fa) (hr : PKd X c kws fr) : PKd X c (⟨nm, e, kpos⟩ :: kws) (fAC fa fr) := by
  refine ⟨fun ρ Q Q' k h => ha.mono _ _ _ (fun d hd => hr.mono _ _ _ (fun ds he => k _ he) hd) h, pk_weak (pk_cons ha.pe hr.pk) fun σ H Q ⟨B, ρ, ok, h⟩ => ?_, fun ρ Q h => ha.mono _ _ _ (fun d hd => hr.mono _ _ _ (fun ss q => ⟨q.1, by rw [List.length_cons, List.length_cons, q.2]⟩) (hr.len _ _ hd)) h⟩
  refine ⟨B, ρ, ok, ha.mono _ _ _ (fun d hd v B1 H1 g1 r1 => ?_) h⟩
  exact ⟨B1, ρ, ok.mono g1, hr.mono _ _ _ (fun ds he vs B2 H2 g2 r2 => he _ B2 H2 (g1.trans ok.w g2) ⟨rp_mono g2.b r1, r2⟩) hd⟩
/-- how n keywords' values come to the parameters: is tells which of them each parameter takes -/
def perm {α : Type} (is : List Nat) (ws : List α) : List α := is.filterMap fun i => ws[i]?
structure KwB (K : PySem.W.Frag) (fd : FuncData) (ps ks : List Str) (is : List Nat) : Prop where
  to : ∀ (s : Shared) (ws : List Value), K.In s.heap → ws.length = ks.length → BindsTo s fd ⟨[], ks.zip ws⟩ (ps.zip (perm is ws))
theorem perm_vals {vs : List V} {us : List Value} (r : Vals vs us) : ∀ is : List Nat, Vals (perm is vs) (perm is us)
  | [] => .nil
  | i :: is => by
    unfold perm
    rw [List.filterMap_cons, List.filterMap_cons]
    cases e : vs[i]? with
    | none =>
      rw [r.none_of e]
      exact perm_vals r is
    | some v =>
      obtain ⟨u, h1, h2⟩ := r.get e
      rw [h1]
      exact .cons h2 (perm_vals r is)
theorem perm_args {B H : Hp} {vs : List V} {ss : List Sl} (r : ArgsOk c B H vs ss) : ∀ is : List Nat, ArgsOk c B H (perm is vs) (perm is ss)
  | [] => trivial
  | i :: is => by
    unfold perm
    rw [List.filterMap_cons, List.filterMap_cons]
    cases e : ss[i]? with
    | none =>
      have : vs[i]? = none := List.getElem?_eq_none_iff.mpr (by rw [r.len]; exact List.getElem?_eq_none_iff.mp e)
      rw [this]
      exact perm_args r is
    | some s =>
      obtain ⟨v, h1, h2⟩ := r.get e
      rw [h1]
      exact ⟨h2, perm_args r is⟩
def fCallK (S : Spec) (is : List Nat) (fa : SA) : SE := fun ρ Q => fa ρ fun ss => S (perm is ss) Q
theorem v_callK {x : Str} {p pos : Pos} {kws : List Keyword} {ks : List Str} {is : List Nat} {fa : SA} (F : FnG G X.prog X.w X.K X.mg X.base k f fd ps S) (hG : ∀ B1 H1, G { c with B0 := B1, H0 := H1 }) (hgd : X.A.guards = some []) (hr : Room k X.A) (hm : X.mg x = some (.ref f)) (hk : PySem.W.keepIn X.K (.ref f) = true) (hb : KwB X.K fd ps ks is) (ha : PKd X c kws fa)
    (hn : kws.length = ks.length := by rfl) (hg : Gl X x := by rfl) (hdb : (x == ("__debug__" : Str)) = false := by decide) (hall : (backToKw pos (keywordEach kws X.env)).all (·.1.isSome) = true := by rfl) (hks : (backToKw pos (keywordEach kws X.env)).filterMap (·.1) = ks := by rfl)
    (hpl : ((backTo pos (starEach [] X.env)).any (·.1) || (backToKw pos (keywordEach kws X.env)).any (·.1.isNone)) = false := by rfl) :
    PV X c (.Call (.Name x p) [] kws pos) (fCallK S is fa) := by
  refine ⟨fun ρ Q Q' k h => ha.mono _ _ _ (fun ss hs => F.mono _ _ _ k hs) h, ⟨fun pins s σ H Q I ⟨B, ρ, ok, h⟩ => wpAny_Call_Name_kw (ld_glob I hg hm (PySem.W.callWith_KW0 (h₀ := X.base) I.ok.mod.kin hk hall (wpAny_mono (ha.pk.run pos pins s σ H
    (fun vs H1 => ∃ B1 ss, Gr c B H B1 H1 ∧ ArgsOk c B1 H1 vs ss ∧ ss.length = kws.length ∧ S (perm is ss) fun d => ∀ v B' H', Gr c B H B' H' → Rp B' v d → Q v H') I ⟨B, ρ, ok, ha.mono _ _ _ (fun ss hs vs B1 H1 g r => ⟨B1, ss, g, r, hs.2, hs.1⟩) (ha.len _ _ h)⟩) (fun us s1 hv => ?_) fun _ _ z => z) hpl) hdb)⟩⟩
  obtain ⟨vs, H1, I1, rv, B1, ss, g, ra, hsl, hS⟩ := hv
  rw [hks]
  exact ⟨I1.kIn, wpAny_call (run_fng F hgd hr I1 (hb.to s1 us I1.kIn (by rw [← rv.length, ra.len, hsl, hn])) (perm_vals rv is) (toSp_of hG ok.w g F (perm_args ra is) hS))⟩
/-! ### repr -/
def bRepr : GB := fun ds Q => match ds with | [d] => PyData.showable d = true ∧ PyData.hasDict d = false ∧ (PyData.shown d).length ≤ sizeLine ∧ PyData.depth d ≤ 60 ∧ Q (.str (PyData.shown d)) | _ => False
theorem m_Repr : MonoB bRepr := fun ds Q Q' k h => by
  unfold bRepr at h ⊢
  split at h <;> first | exact h.elim | exact ⟨h.1, h.2.1, h.2.2.1, h.2.2.2.1, k _ h.2.2.2.2⟩
mutual
theorem rp_reads {pins : List (Addr × Obj)} {σ : St} {H : Hp} {s : Shared} (I : Inv X pins σ H s) : ∀ (d : D) (v : V) (u : Value), d.hasDict = false → Rp H v d → RelV v u → ∃ as, Reads s.heap u d as
  | .none, _, _, _, .non, r => by
    cases r
    exact ⟨_, Reads.none⟩
  | .bool b, _, _, _, .bl _, r => by
    cases r
    exact ⟨_, Reads.bool b⟩
  | .int i, _, _, _, .int _, r => by
    obtain ⟨t, rfl⟩ := r
    exact ⟨_, Reads.int i t⟩
  | .str x, _, _, _, .str _, r => by
    obtain ⟨t, rfl⟩ := r
    exact ⟨_, Reads.str x t⟩
  | .list ds, _, _, hd, .lst h1 h2, r => by
    cases r
    obtain ⟨its, rv, ⟨o, n, ho, hc, _, hdt⟩, _⟩ := I.list (SqL.of h1)
    obtain ⟨as, hr⟩ := rpa_reads I ds _ its (by simpa [PyData.hasDict] using hd) h2 rv
    exact ⟨_, Reads.list ho hc hdt hr⟩
  | .tuple ds, _, _, hd, .tup h1 h2, r => by
    cases r
    obtain ⟨its, rv, ⟨o, ho, hc, n, hdt⟩, _⟩ := I.tuple (SqT.of h1)
    obtain ⟨as, hr⟩ := rpa_reads I ds _ its (by simpa [PyData.hasDict] using hd) h2 rv
    exact ⟨_, Reads.tuple ho hc hdt hr⟩
  | .dict _, _, _, hd, _, _ => by simp [PyData.hasDict] at hd
theorem rpa_reads {pins : List (Addr × Obj)} {σ : St} {H : Hp} {s : Shared} (I : Inv X pins σ H s) : ∀ (ds : List D) (vs : List V) (us : List Value), PyData.hasDictAll ds = false → RpA H vs ds → Vals vs us → ∃ as, ReadsAll s.heap us ds as
  | [], _, _, _, .nil, r => by
    cases r
    exact ⟨_, ReadsAll.nil⟩
  | d :: ds, _, _, hd, .cons h1 h2, r => by
    have hd' := hd
    simp only [PyData.hasDictAll, Bool.or_eq_false_iff] at hd'
    cases r with
    | cons r1 r2 =>
      obtain ⟨as, q1⟩ := rp_reads I d _ _ hd'.1 h1 r1
      obtain ⟨bs, q2⟩ := rpa_reads I ds _ _ hd'.2 h2 r2
      exact ⟨_, ReadsAll.cons q1 q2⟩
end
theorem c_repr (hgd : X.A.guards = some []) (hu : X.A.units + 64 < cLine) : CallD X c (.builtin "repr") bRepr := by
  refine ⟨m_Repr, fun pins s σ H xs us Q I rv ⟨B, ds, w, ra, q⟩ => ?_⟩
  cases ds with
  | nil => exact q.elim
  | cons d r0 =>
  cases r0 with
  | cons _ _ => exact q.elim
  | nil =>
  obtain ⟨q1, q2, q3, q4, q⟩ : PyData.showable d = true ∧ PyData.hasDict d = false ∧ (PyData.shown d).length ≤ sizeLine ∧ PyData.depth d ≤ 60 ∧ ∀ v B' H', Gr c B H B' H' → Rp B' v (.str (PyData.shown d)) → Q v H' := q
  obtain ⟨v, e, r⟩ := ra.one
  subst e
  obtain ⟨u, rfl, ru⟩ := vals1 rv
  have fin : ∀ {h' : Heap} {tk : Tok} {t : Nat}, (∀ b o, s.heap.get? b = some o → h'.get? b = some o) → EP X pins σ Q (.str (PyData.shown d) tk) { s with heap := h', toks := t } := fun {h' tk t} hk => ⟨.str (PyData.shown d), H, I.kept hk, ⟨tk, rfl⟩, q _ B H (Gr.refl w) (.str _)⟩
  have here : ∀ {tk : Tok} {t : Nat}, EP X pins σ Q (.str (PyData.shown d) tk) { s with toks := t } := fun {tk t} => ⟨.str (PyData.shown d), H, I.tok _, ⟨tk, rfl⟩, q _ B H (Gr.refl w) (.str _)⟩
  cases d with
  | dict kvs => simp [PyData.hasDict] at q2
  | list ds =>
    obtain ⟨as, rd⟩ := rp_reads I _ v u q2 (r.rp w) ru
    obtain ⟨a, ys, rfl, _, _⟩ := r.list w
    cases ru
    exact repr_of_reads' rd q1 (PyData.noDict_hsm q2) hgd (by omega) (fun _ _ z => z) (fun h' tk t hk => fin hk) q3
  | tuple ds =>
    obtain ⟨as, rd⟩ := rp_reads I _ v u q2 (r.rp w) ru
    obtain ⟨a, ys, rfl, _, _⟩ := r.tup w
    cases ru
    exact repr_of_reads' rd q1 (PyData.noDict_hsm q2) hgd (by omega) (fun _ _ z => z) (fun h' tk t hk => fin hk) q3
  | int i =>
    have e := r.int
    subst e
    obtain ⟨t, rfl⟩ := ru
    simp only [PyData.shown] at here
    exact PySem.P.repr_of_int (by simpa [PyData.showable] using q1) here
  | none =>
    have e := r.non
    subst e
    cases ru
    simp only [PyData.shown] at here
    exact PySem.P.repr_of_none here
  | bool b =>
    have e := r.bl
    subst e
    cases ru
    simp only [PyData.shown] at here
    exact PySem.P.repr_of_bool here
  | str x =>
    have e := r.str
    subst e
    obtain ⟨t, rfl⟩ := ru
    simp only [PyData.shown] at here q3
    exact PySem.P.repr_of_str here q3
end
end DL
namespace DL
open PySem L2 PyProof.Rows
/-! ### list(reversed(a list)) -/
section
variable {prog : Program} {w : World} {A : Around} {E : Value → Shared → Prop} {s : Shared}
theorem list_rev_call {it l : Addr} {items : Array Value} {Q : Value → Shared → Prop} (hh : A.handled = none) (hit : s.heap.IsRevIter it l ((items.size : Int) - 1)) (hl : s.heap.IsList l items) (hne : l ≠ it) (hn : items.size ≤ sizeLine)
    (hQ : ∀ (h' : Heap) (tk : Nat) (acc : Array Value) (c' : Nat), (∀ b o, b ≠ it → s.heap.get? b = some o → h'.get? b = some o) → h'.get? s.heap.objs.size = some { cls := .type "list", data := .seq acc c' } →
      ItemsOf (fun i v => items[items.size - 1 - i]? = some v) acc items.size → Q (.ref s.heap.objs.size) { s with heap := h', toks := tk }) : wpAny (model prog w) A (call (.type "list") [.ref it]) Q E s := by
  have hil : it < s.heap.objs.size := by
    obtain ⟨oi, hoi, _⟩ := id hit
    exact Heap.lt_size hoi
  have hll : l < s.heap.objs.size := by
    obtain ⟨ol, hol, _⟩ := id hl
    exact Heap.lt_size hol
  have n1 : s.heap.objs.size ≠ it := Nat.ne_of_gt hil
  have n2 : s.heap.objs.size ≠ l := Nat.ne_of_gt hll
  refine callType_codes (Q₁ := fun obj s₁ => obj = .ref s.heap.objs.size ∧ s₁ = { s with heap := s.heap.push { cls := .type "list", data := .seq #[] } }) PySem.F.called_list (PySem.F.typeCall_list_1 _) PySem.F.entry_list_init
    (code_list_new _ ⟨rfl, rfl⟩) ?_
  rintro obj s₁ ⟨rfl, rfl⟩
  have new : (s.heap.push { cls := .type "list", data := .seq #[] }).get? s.heap.objs.size = some { cls := .type "list", data := .seq #[] } := Heap.get?_push_size _ rfl
  refine ⟨⟨_, new, rfl⟩, PySem.F.args_list_init_2 _ _, ?_⟩
  show wpAny _ _ (do let old ← Builtin.List.listItems (.ref s.heap.objs.size); Builtin.List.listUpdate (.ref s.heap.objs.size) (fun _ => #[]); letGo old.toList.reverse; Builtin.List.listExtendWith (.ref s.heap.objs.size) (.ref it) .none) _ _ _
  unfold Builtin.List.listItems
  refine wpAny_bind (wpAny_bind (wpAny_seqItems new rfl (wpAny_pure (wpAny_bind ?_))))
  show wpAny _ _ (updateSeq s.heap.objs.size (fun _ => #[])) _ _ _
  refine wpAny_updateSeq new rfl (wpAny_bind (wpAny_letGo ?_))
  generalize hgen : (s.heap.push { cls := .type "list", data := .seq #[] }).update s.heap.objs.size (Obj.mapSeq fun _ => (#[] : Array Value)) = h1
  have fresh : h1.get? s.heap.objs.size = some (Obj.mapSeq (fun _ => (#[] : Array Value)) { cls := .type "list", data := .seq #[] }) := by
    rw [← hgen]
    exact Heap.get?_update_self (Obj.mapSeq fun _ => (#[] : Array Value)) new rfl
  have stay : ∀ b o, b ≠ s.heap.objs.size → s.heap.get? b = some o → h1.get? b = some o := fun b o hb e => by
    rw [← hgen]
    exact (Heap.get?_update_other _ _ (Ne.symm hb)).trans (Heap.get?_push_of_some _ e)
  have hit1 : h1.IsRevIter it l ((items.size : Int) - 1) := hit.at fun o e => stay _ _ (Ne.symm n1) e
  have hl1 : h1.IsList l items := by
    obtain ⟨o, e, r⟩ := hl
    exact ⟨o, stay _ _ (Ne.symm n2) e, r⟩
  have ty : ({ s with heap := h1 } : Shared).TypeIs (.ref it) "list_reverseiterator" := Heap.IsRevIter.typeIs (s := { s with heap := h1 }) hit1
  have same : Builtin.List.listSameRef (.ref s.heap.objs.size) (.ref it) = false := by simp [Builtin.List.listSameRef, n1]
  unfold Builtin.List.listExtendWith
  refine wpAny_bind (wpAny_typeOf ty ?_)
  rw [if_neg (by rw [same]; decide)]
  refine wpAny_bind (wpAny_pyIter_revIter (s := { s with heap := h1 }) hit1 (wpAny_bind (wpAny_holding ?_)))
  unfold Builtin.List.listLengthHint
  refine wpAny_bind (wpAny_specialOf ty RT.nolen_lri ?_)
  show wpAny _ _ (specialOf (Value.ref it) (Str.ofString "__length_hint__") >>= _) _ _ _
  refine wpAny_bind (wpAny_specialOf ty RT.hint_lri ?_)
  generalize hid : ("list_reverseiterator.__length_hint__" : String) = id0
  wp_delta
  have sp : splitId id0 = some ("list_reverseiterator", "__length_hint__") := by
    subst hid
    decide +kernel
  rw [sp]
  subst hid
  refine wpAny_bind (wpAny_isInstance (b := true) ty (by rw [isSubtype_type]; kernel_rfl) (wpAny_pure ?_))
  rw [if_neg (by decide)]
  have W := (Walks.listRev (prog := prog) (w := w) (A := A.in1.in1) hh it l hne items).toS
  have out : s.heap.objs.size ∉ [it, l] := by
    intro z
    rcases List.mem_cons.mp z with z | z
    · exact n1 z
    · exact n2 (List.mem_singleton.mp z)
  refine wpAny_pure ⟨plainId_quiet F.plain_extend_loop _, codeAny_extend_loopS W hn _ out _ items.size 0 _ _ _ rfl (Nat.zero_le _) ⟨Nat.zero_le _, ?_, hl1⟩ fresh (ItemsOf.nil _) fun s' acc' c' hm hS' hacc => ?_⟩
  · have e0 : ((items.size : Nat) : Int) - 1 - ((0 : Nat) : Int) = (items.size : Int) - 1 := by omega
    rw [e0]
    exact hit1
  · rw [Moved.eq_with hm]
    refine ⟨rfl, hQ s'.heap s'.toks acc' c' (fun b o hb e => ?_) hS' hacc⟩
    have nb : b ≠ s.heap.objs.size := Nat.ne_of_lt (Heap.lt_size e)
    refine hm.heap b o (fun hmem => ?_) (stay b o nb e)
    rcases List.mem_cons.mp hmem with z | z
    · exact nb z
    · exact hb (List.mem_singleton.mp z)
end
end DL
namespace DL
open PySem L2 PyProof.Rows
section
variable {X : Cx} {c : C}
/-- list(reversed(x)), x a list -/
def tListRev (K : PySem.W.Frag) (te : TE) : TE := fun σ H Q => te σ H fun v H1 => ∃ (a : Addr) (xs : List V), v = .ref a ∧ SqL K H1 a xs ∧ ∀ q, H1 q = none → Q (.ref q) (upd H1 q (.lst xs.reverse))
theorem pe_listRev {e : Expr} {te : TE} {p p2 pos pos2 : Pos} (hc : X.calm = true) (hm : X.mg "list" = none) (hm2 : X.mg "reversed" = none) (he : PE X e te) (hg : Gl X "list") (hg2 : Gl X "reversed")
    (hs : starEach [e] X.env = (false, eval e X.env) :: starEach [] X.env) (hs2 : starEach [.Call (.Name "reversed" p2) [e] [] pos2] X.env = (false, eval (.Call (.Name "reversed" p2) [e] [] pos2) X.env) :: starEach [] X.env) :
    PE X (.Call (.Name "list" p) [.Call (.Name "reversed" p2) [e] [] pos2] [] pos) (tListRev X.K te) := by
  refine ⟨fun pins s σ H Q I h => ?_⟩
  have inner : ∀ {R : Value → Shared → Prop}, wpAny (model X.prog X.w) X.A (eval e X.env) (fun u s1 => wpAny (model X.prog X.w) X.A (call (.type "reversed") [u]) R X.xe s1) X.xe s → wpAny (model X.prog X.w) X.A (eval (.Call (.Name "reversed" p2) [e] [] pos2) X.env) R X.xe s := fun hh =>
    Call_ (ld_blt I hg2 hm2 PyProof.Rows.boot_reversed (PyProof.Rows.callWith_type1 (args_cons (thn hh fun u s1 q => args_nil q) hs) hs rfl))
  refine Call_ (ld_blt I hg hm boot_list (PyProof.Rows.callWith_type1 (args_cons (inner (thn (he.run pins s σ H _ I h) fun u s1 hv => ?_)) hs2) hs2 rfl))
  obtain ⟨v, H1, I1, r1, a, xs, ev, hq, q⟩ := hv
  subst ev
  obtain rfl : u = Value.ref a := r1
  obtain ⟨its, rv, p', hz⟩ := I1.list hq
  have hl := p'.isList
  refine call_reversed_list hl (args_nil ?_)
  have I2 : Inv X pins σ H1 { s1 with heap := s1.heap.push (revObj a ((its.toArray.size : Int) - 1)) } := I1.kept (t' := s1.toks) fun _ _ z => Heap.get?_push_of_some _ z
  obtain ⟨f0, f1, f2, f3, f4, f5⟩ := I1.fpOk (H' := H1) (b := s1.heap.objs.size) (Nat.le_refl _) (I1.hok.fresh (Nat.le_refl _))
  have hal : a ≠ s1.heap.objs.size := by
    obtain ⟨ol, hol, _⟩ := id hl
    exact Nat.ne_of_lt (Heap.lt_size hol)
  refine list_rev_call (s := { s1 with heap := s1.heap.push (revObj a ((its.toArray.size : Int) - 1)) }) (I1.ok.hd hc) ⟨_, Heap.get?_push_size _ rfl, rfl, rfl⟩ (hl.push _) hal (by rw [List.size_toArray, ← rv.length]; exact hz) fun h' tk acc c' hk hn hi => ?_
  have I3 : Inv X pins σ H1 { s1 with heap := h', toks := tk } := I2.turned (t' := tk) (fun b o hb z => hk b o hb z) f0 f1 f3 f4 f5
  have fr : H1 (s1.heap.push (revObj a ((its.toArray.size : Int) - 1))).objs.size = none := I2.hok.fresh (Nat.le_refl _)
  have obj : ObjOk X.prog X.w (upd H1 (s1.heap.push (revObj a ((its.toArray.size : Int) - 1))).objs.size (.lst xs.reverse)) h' (s1.heap.push (revObj a ((its.toArray.size : Int) - 1))).objs.size (.lst xs.reverse) :=
    ⟨by rw [List.length_reverse]; exact hz, acc.toList, c', RT.vals_rev rv hi, by rw [Array.toArray_toList]; exact hn⟩
  have I4 : Inv X pins σ (upd H1 (s1.heap.push (revObj a ((its.toArray.size : Int) - 1))).objs.size (.lst xs.reverse)) { s1 with heap := h', toks := tk } := by
    refine I2.turnedNew (ch := [s1.heap.objs.size]) (fun b ob hb z => hk b ob (fun y => hb (by simp [y])) z) (fun b hb => ?_) (Nat.le_refl _) obj
    rw [List.mem_singleton.mp hb]
    exact ⟨f0, f1, f2, f3, f4, f5⟩
  exact ⟨.ref (s1.heap.push (revObj a ((its.toArray.size : Int) - 1))).objs.size, _, I4, rfl, q _ fr⟩
def fLRev (fa : SE) : SL := fun ρ Q => fa ρ fun d => match d with | .list ds => Q ds.reverse | _ => False
def fTRev (fa : SE) : SE := fun ρ Q => fa ρ fun d => match d with | .list ds => Q (.tuple ds.reverse) | _ => False
theorem n_listRev {e : Expr} {fa : SE} {p p2 pos pos2 : Pos} (hc : X.calm = true) (hm : X.mg "list" = none) (hm2 : X.mg "reversed" = none) (ha : PB X c e fa) (hg : Gl X "list" := by rfl) (hg2 : Gl X "reversed" := by rfl)
    (hs : starEach [e] X.env = (false, eval e X.env) :: starEach [] X.env := by rfl) (hs2 : starEach [.Call (.Name "reversed" p2) [e] [] pos2] X.env = (false, eval (.Call (.Name "reversed" p2) [e] [] pos2) X.env) :: starEach [] X.env := by rfl) :
    PN X c (.Call (.Name "list" p) [.Call (.Name "reversed" p2) [e] [] pos2] [] pos) (fLRev fa) := by
  refine ⟨fun ρ Q Q' k h => ha.mono _ _ _ (fun d hd => ?_) h, pe_weak (pe_listRev hc hm hm2 ha.pe hg hg2 hs hs2) fun σ H Q ⟨B, ρ, ok, h⟩ => ⟨B, ρ, ok, ha.mono _ _ _ (fun d hd v B1 H1 g1 r1 => ?_) h⟩⟩
  · cases d <;> first | exact hd.elim | exact k _ hd
  · cases d <;> first | exact hd.elim | skip
    obtain ⟨a, xs, rfl, h1, h2⟩ := r1.list g1.w
    refine ⟨a, xs, rfl, SqL.of h1, fun l hl => ?_⟩
    have g2 := Gr.newO (o := .lst xs.reverse) g1.w hl
    exact hd l _ B1 _ (g1.trans ok.w g2) (g1.back hl) (Evl.fresh_back g1.w.sub hl) upd_same (rpa_rev h2)
theorem v_tupRev {e : Expr} {fa : SE} {p p2 pos pos2 : Pos} (hc : X.calm = true) (hm : X.mg "tuple" = none) (hm2 : X.mg "reversed" = none) (ha : PB X c e fa) (hg : Gl X "tuple" := by rfl) (hg2 : Gl X "reversed" := by rfl)
    (hs : starEach [e] X.env = (false, eval e X.env) :: starEach [] X.env := by rfl) (hs2 : starEach [.Call (.Name "reversed" p2) [e] [] pos2] X.env = (false, eval (.Call (.Name "reversed" p2) [e] [] pos2) X.env) :: starEach [] X.env := by rfl) :
    PV X c (.Call (.Name "tuple" p) [.Call (.Name "reversed" p2) [e] [] pos2] [] pos) (fTRev fa) := by
  refine ⟨fun ρ Q Q' k h => ha.mono _ _ _ (fun d hd => ?_) h, pe_weak (RT.pe_tupRev hc hg hm hg2 hm2 ha.pe hs hs2) fun σ H Q ⟨B, ρ, ok, h⟩ => ⟨B, ρ, ok, ha.mono _ _ _ (fun d hd v B1 H1 g1 r1 => ?_) h⟩⟩
  · cases d <;> first | exact hd.elim | exact k _ hd
  · cases d <;> first | exact hd.elim | skip
    obtain ⟨a, xs, rfl, h1, h2⟩ := r1.list g1.w
    refine ⟨a, xs, rfl, SqL.of h1, fun l hl => ?_⟩
    have g2 := Gr.new (o := .tup xs.reverse) g1.w hl
    exact hd _ _ _ (g1.trans ok.w g2) (.tup upd_same (rpa_mono g2.b (rpa_rev h2)))
/-- list(range(..)) -/
theorem rng_rgV {B : Hp} (a b : Int) : RpA B (rgV a b) (rng a (b - a).toNat) := by
  unfold rgV rng
  generalize List.range (b - a).toNat = l
  induction l with
  | nil => exact .nil
  | cons i l ih => exact .cons (.int _) ih
def fLRng1 (fa : SE) : SL := fun ρ Q => fa ρ fun d => match d with | .int j => RgOk 0 j ∧ Q (rng 0 (j - 0).toNat) | _ => False
def fLRng2 (fa fb : SE) : SL := fun ρ Q => fa ρ fun d => fb ρ fun e => match d, e with | .int i, .int j => RgOk i j ∧ Q (rng i (j - i).toNat) | _, _ => False
theorem n_lrng1 {a : Expr} {fa : SE} {p p2 pos pos2 : Pos} (hc : X.calm = true) (hm : X.mg "list" = none) (hm2 : X.mg "range" = none) (ha : PB X c a fa) (hg : Gl X "list" := by rfl) (hg2 : Gl X "range" := by rfl)
    (na : starEach [a] X.env = (false, eval a X.env) :: starEach [] X.env := by rfl) (na2 : starEach [.Call (.Name "range" p2) [a] [] pos2] X.env = (false, eval (.Call (.Name "range" p2) [a] [] pos2) X.env) :: starEach [] X.env := by rfl) :
    PN X c (.Call (.Name "list" p) [.Call (.Name "range" p2) [a] [] pos2] [] pos) (fLRng1 fa) := by
  refine ⟨fun ρ Q Q' k h => ha.mono _ _ _ (fun d hd => ?_) h, pe_weak (pe_listRg hc hg hm (prg_1 hg2 hm2 ha.pe na) na2) fun σ H Q ⟨B, ρ, ok, h⟩ => ⟨B, ρ, ok, ha.mono _ _ _ (fun d hd v B1 H1 g1 r1 => ?_) h⟩⟩
  · cases d <;> first | exact hd.elim | exact ⟨hd.1, k _ hd.2⟩
  · cases d <;> first | exact hd.elim | skip
    rename_i j
    rw [r1.int]
    refine ⟨j, rfl, hd.1, fun l hl => ?_⟩
    have g2 := Gr.newO (o := .lst (rgV 0 j)) g1.w hl
    exact hd.2 l _ B1 _ (g1.trans ok.w g2) (g1.back hl) (Evl.fresh_back g1.w.sub hl) upd_same (rng_rgV _ _)
theorem n_lrng2 {a b : Expr} {fa fb : SE} {p p2 pos pos2 : Pos} (hc : X.calm = true) (hm : X.mg "list" = none) (hm2 : X.mg "range" = none) (ha : PB X c a fa) (hb : PB X c b fb) (hg : Gl X "list" := by rfl) (hg2 : Gl X "range" := by rfl)
    (na : starEach [a, b] X.env = (false, eval a X.env) :: starEach [b] X.env := by rfl) (nb : starEach [b] X.env = (false, eval b X.env) :: starEach [] X.env := by rfl)
    (hp : (backTo pos2 (starEach [b] X.env)).any (·.1) = false := by rfl) (na2 : starEach [.Call (.Name "range" p2) [a, b] [] pos2] X.env = (false, eval (.Call (.Name "range" p2) [a, b] [] pos2) X.env) :: starEach [] X.env := by rfl) :
    PN X c (.Call (.Name "list" p) [.Call (.Name "range" p2) [a, b] [] pos2] [] pos) (fLRng2 fa fb) := by
  refine ⟨fun ρ Q Q' k h => ha.mono _ _ _ (fun d hd => hb.mono _ _ _ (fun e he => ?_) hd) h, pe_weak (pe_listRg hc hg hm (prg_2 hg2 hm2 ha.pe hb.pe na nb hp) na2) fun σ H Q ⟨B, ρ, ok, h⟩ =>
    ⟨B, ρ, ok, ha.mono _ _ _ (fun d hd v B1 H1 g1 r1 => ⟨B1, ρ, ok.mono g1, hb.mono _ _ _ (fun e he u B2 H2 g2 r2 => ?_) hd⟩) h⟩⟩
  · cases d <;> cases e <;> first | exact he.elim | exact ⟨he.1, k _ he.2⟩
  · cases d <;> cases e <;> first | exact he.elim | skip
    rename_i i j
    rw [r1.int, r2.int]
    refine ⟨i, j, rfl, rfl, he.1, fun l hl => ?_⟩
    have g3 := Gr.newO (o := .lst (rgV i j)) g2.w hl
    exact he.2 l _ B2 _ ((g1.trans ok.w g2).trans ok.w g3) ((g1.trans ok.w g2).back hl) (Evl.fresh_back g2.w.sub hl) upd_same (rng_rgV _ _)
/-- x.bit_length() -/
def fBits (fa : SE) : SE := fun ρ Q => fa ρ fun d => match d with | .int i => Q (.int (Builtin.Int.intBits i : Nat)) | _ => False
theorem v_bits {o : Expr} {fa : SE} {apos pos : Pos} (ha : PB X c o fa) (hbase : attributeBase o "bit_length" X.env (eval o X.env) = eval o X.env := by rfl) (hline : (apos.endLine == pos.line) = true := by rfl) : PV X c (.Call (.Attribute o "bit_length" apos) [] [] pos) (fBits fa) := by
  refine ⟨fun ρ Q Q' k h => ha.mono _ _ _ (fun d hd => ?_) h, pe_weak (pe_bits ha.pe hbase hline) fun σ H Q ⟨B, ρ, ok, h⟩ => ⟨B, ρ, ok, ha.mono _ _ _ (fun d hd v B1 H1 g1 r1 => ?_) h⟩⟩
  · cases d <;> first | exact hd.elim | exact k _ hd
  · cases d <;> first | exact hd.elim | skip
    exact ⟨_, r1.int, hd _ B1 H1 g1 (.int _)⟩
/-- 1 << k of any size -/
def gShlW : G2 | .int i, .int j, Q => CShl i j ∧ Q (.int (i * 2 ^ j.toNat)) | _, _, _ => False
theorem m_ShlW : MonoG gShlW := fun d e Q Q' k h => by cases d <;> cases e <;> first | exact ⟨h.1, k _ h.2⟩ | exact h.elim
theorem o_shlW : OpD X c (binaryOp .LShift) gShlW := opd_int op_shlW (fun d e Q h => by cases d <;> cases e <;> first | exact ⟨_, _, rfl, rfl, h.1, h.2⟩ | exact h.elim) m_ShlW
/-! ### a tuple or a list unpacked -/
theorem PG.or {tg : Expr} {t t' : TG} (h : PG X tg t) (h' : PG X tg t') : PG X tg fun v σ H Q => t v σ H Q ∨ t' v σ H Q := ⟨fun pins s σ H v u Q I r q => q.elim (h.run pins s σ H v u Q I r) (h'.run pins s σ H v u Q I r)⟩
def gSq (n : Nat) (gs : GTs) : GT := fun d ρ Q => match seqOf d with | some ds => ds.length = n ∧ gs ds ρ Q | none => False
theorem g_sq {es : List Expr} {k : Nat} {gs : GTs} {ks : List Nat} {pos : Pos} (hc : X.calm = true) (h : PGsd X c es gs ks) {n : Nat} (hn : (assignEach es X.env).length = n := by rfl) (hst : (assignEach es X.env).findIdx? (·.1) = none := by rfl) :
    PGd X c (.Tuple es k pos) (gSq n gs) ks := by
  refine ⟨fun d ρ Q Q' k h' => ?_, pg_weak (PG.or (pg_tup hc h.pg hn hst) (pg_unl hc h.pg hn hst)) fun v σ H Q ⟨B, ρ, d, ok, r, h'⟩ => ?_⟩
  · unfold gSq at h' ⊢
    split at h' <;> first | exact h'.elim | exact ⟨h'.1, h.mono _ _ _ _ k h'.2⟩
  · unfold gSq at h'
    cases d <;> simp only [seqOf] at h' <;> first | exact h'.elim | skip
    · obtain ⟨a, xs, rfl, h1, h2⟩ := rp_lst r
      exact .inr ⟨a, xs, rfl, SqL.of (ok.w.sub _ _ h1), by rw [rpa_len h2]; exact h'.1, B, ρ, _, ok, h2, h'.2⟩
    · obtain ⟨a, xs, rfl, h1, h2⟩ := rp_tup r
      exact .inl ⟨a, xs, rfl, SqT.of (ok.w.sub _ _ h1), by rw [rpa_len h2]; exact h'.1, B, ρ, _, ok, h2, h'.2⟩
/-! ### enumerate(list), zip -/
variable {elts : List Expr} {kk : Nat} {tpos : Pos}
def enumD : Nat → List D → List D
  | _, [] => []
  | k, d :: ds => .tuple [.int (k : Nat), d] :: enumD (k + 1) ds
theorem enumD_len : ∀ (k : Nat) (ds : List D), (enumD k ds).length = ds.length
  | _, [] => rfl
  | k, _ :: ds => by simp only [enumD, List.length_cons, enumD_len (k + 1) ds]
theorem enumD_get : ∀ {k : Nat} {ds : List D} {i : Nat} {d : D}, (enumD k ds)[i]? = some d → ∃ e, ds[i]? = some e ∧ d = .tuple [.int ((k + i : Nat) : Int), e]
  | _, [], _, _, h => by simp [enumD] at h
  | k, e :: ds, 0, d, h => by
    simp [enumD] at h
    exact ⟨e, rfl, h.symm⟩
  | k, e :: ds, i + 1, d, h => by
    simp only [enumD, List.getElem?_cons_succ] at h
    obtain ⟨x, h1, h2⟩ := enumD_get h
    refine ⟨x, by simpa using h1, ?_⟩
    rw [h2]
    have e : k + 1 + i = k + (i + 1) := by omega
    rw [e]
def fEnum (fa : SE) : SI := fun ρ Q => fa ρ fun d => match d with | .list ds => Q (enumD 0 ds) | _ => False
theorem i_enum {e : Expr} {fa : SE} {p pos : Pos} (hm : X.mg "enumerate" = none) (ha : PV X c e fa) (hg : Gl X "enumerate" := by rfl) (hs : starEach [e] X.env = [(false, eval e X.env)] := by rfl) : PItd X c (.Tuple elts kk tpos) (.Call (.Name "enumerate" p) [e] [] pos) (fEnum fa) := by
  refine ⟨fun ρ Q Q' k h => ha.mono _ _ _ (fun d hd => ?_) h, pi_weak (pi_enum hg hm (pa_cons ha.pe pa_nil (by rw [hs]; rfl)) hs) fun σ H R ⟨B, ρ, ok, h⟩ => ⟨B, ρ, ok, ha.mono _ _ _ (fun d hd v B' H' g r => ?_) h⟩⟩
  · cases d <;> first | exact hd.elim | exact k _ hd
  · cases d <;> first | exact hd.elim | skip
    rename_i ds
    obtain ⟨a, xs, rfl, h1, h2⟩ := rp_lst r
    refine ⟨a, xs, rfl, SqL.of (g.w.sub _ _ h1), hd _ B' H' g fun i B1 H1 e1 w => ?_⟩
    have h3 : H1 a = some (.lst xs) := w.sub _ _ (e1 _ _ h1)
    refine ⟨fun hi => ⟨xs, SqL.of h3, by rw [rpa_len h2]; rw [enumD_len] at hi; exact hi⟩, fun d hd' => ?_⟩
    obtain ⟨x, h4, h5⟩ := enumD_get hd'
    obtain ⟨y, h6, h7⟩ := rpa_get h2 h4
    refine ⟨⟨xs, y, SqL.of h3, h6⟩, fun z H2 ⟨T, u, e2, hT, e3, hy⟩ => ?_⟩
    subst e2 e3 h5
    have hu := hy xs (SqL.of h3)
    rw [h6] at hu
    cases hu
    have g4 := Gr.new (o := .tup [.int (i : Nat), y]) w hT
    refine ⟨_, g4, .tup upd_same (.cons ?_ (.cons (rp_mono g4.b (rp_mono e1 h7)) .nil))⟩
    rw [Nat.zero_add]
    exact .int _
def zipD : List D → List D → List D
  | a :: as, b :: bs => .tuple [a, b] :: zipD as bs
  | _, _ => []
theorem zipD_get : ∀ {as bs : List D} {i : Nat} {d : D}, (zipD as bs)[i]? = some d → ∃ a b, as[i]? = some a ∧ bs[i]? = some b ∧ d = .tuple [a, b]
  | a :: as, b :: bs, 0, d, h => by
    simp [zipD] at h
    exact ⟨a, b, rfl, rfl, h.symm⟩
  | a :: as, b :: bs, i + 1, d, h => by
    simp only [zipD, List.getElem?_cons_succ] at h
    obtain ⟨x, y, h1, h2, h3⟩ := zipD_get h
    exact ⟨x, y, by simpa using h1, by simpa using h2, h3⟩
  | [], _, _, _, h => by simp [zipD] at h
  | _ :: _, [], _, _, h => by simp [zipD] at h
theorem zipD_len : ∀ (as bs : List D), (zipD as bs).length = min as.length bs.length
  | a :: as, b :: bs => by simp only [zipD, List.length_cons, zipD_len as bs]; omega
  | [], bs => by simp [zipD]
  | _ :: _, [] => by simp [zipD]
def fZip (fa fb : SE) : SI := fun ρ Q => fa ρ fun d => fb ρ fun e => match d, e with | .list as, .list bs => Q (zipD as bs) | .tuple as, .tuple bs => Q (zipD as bs) | _, _ => False
theorem i_zip {e e2 : Expr} {fa fb : SE} {p pos : Pos} (hm : X.mg "zip" = none) (ha : PV X c e fa) (hb : PV X c e2 fb) (hg : Gl X "zip" := by rfl) (hs : starEach [e, e2] X.env = (false, eval e X.env) :: starEach [e2] X.env := by rfl) (hs2 : starEach [e2] X.env = (false, eval e2 X.env) :: starEach [] X.env := by rfl)
    (hpl : (backTo pos (starEach [e2] X.env)).any (·.1) = false := by rfl) : PItd X c (.Tuple elts kk tpos) (.Call (.Name "zip" p) [e, e2] [] pos) (fZip fa fb) := by
  refine ⟨fun ρ Q Q' k h => ha.mono _ _ _ (fun d hd => hb.mono _ _ _ (fun e he => ?_) hd) h, pi_weak (RZ.pi_zipA hg hm (pa_cons ha.pe (pa_cons hb.pe pa_nil hs2) hs) hs hpl) fun σ H R ⟨B, ρ, ok, h⟩ =>
    ⟨B, ρ, ok, ha.mono _ _ _ (fun d hd v B' H' g r => ⟨B', ρ, ok.mono g, hb.mono _ _ _ (fun e he u B2 H2 g2 r2 => ?_) hd⟩) h⟩⟩
  · cases d <;> cases e <;> first | exact he.elim | exact k _ he
  · have r' := rp_mono g2.b r
    have gg := g.trans ok.w g2
    cases d <;> cases e <;> first | exact he.elim | skip
    · obtain ⟨a, xs, rfl, h1, h2⟩ := rp_lst r'
      obtain ⟨b, ys, rfl, h3, h4⟩ := rp_lst r2
      refine ⟨a, b, xs, ys, rfl, .inl ⟨SqL.of (g2.w.sub _ _ h1), SqL.of (g2.w.sub _ _ h3), he _ B2 H2 gg fun i B1 H1 e1 w => ?_⟩⟩
      have k1 : H1 a = some (.lst xs) := w.sub _ _ (e1 _ _ h1)
      have k2 : H1 b = some (.lst ys) := w.sub _ _ (e1 _ _ h3)
      refine ⟨fun hi => ⟨xs, ys, SqL.of k1, SqL.of k2, by rw [rpa_len h2, rpa_len h4]; rw [zipD_len] at hi; omega⟩, fun d hd' => ?_⟩
      obtain ⟨p, q, m1, m2, m3⟩ := zipD_get hd'
      obtain ⟨x, n1, n2⟩ := rpa_get h2 m1
      obtain ⟨y, n3, n4⟩ := rpa_get h4 m2
      refine ⟨⟨xs, ys, x, y, SqL.of k1, SqL.of k2, n1, n3⟩, fun z H3 ⟨T, x', y', e2, hT, e3, hx, hy⟩ => ?_⟩
      subst e2 e3 m3
      have hx := hx xs (SqL.of k1)
      have hy := hy ys (SqL.of k2)
      rw [n1] at hx
      rw [n3] at hy
      cases hx
      cases hy
      have g4 := Gr.new (o := .tup [x, y]) w hT
      exact ⟨_, g4, .tup upd_same (.cons (rp_mono g4.b (rp_mono e1 n2)) (.cons (rp_mono g4.b (rp_mono e1 n4)) .nil))⟩
    · obtain ⟨a, xs, rfl, h1, h2⟩ := rp_tup r'
      obtain ⟨b, ys, rfl, h3, h4⟩ := rp_tup r2
      refine ⟨a, b, xs, ys, rfl, .inr ⟨SqT.of (g2.w.sub _ _ h1), SqT.of (g2.w.sub _ _ h3), he _ B2 H2 gg fun i B1 H1 e1 w => ?_⟩⟩
      have k1 : H1 a = some (.tup xs) := w.sub _ _ (e1 _ _ h1)
      have k2 : H1 b = some (.tup ys) := w.sub _ _ (e1 _ _ h3)
      refine ⟨fun hi => ⟨xs, ys, SqT.of k1, SqT.of k2, by rw [rpa_len h2, rpa_len h4]; rw [zipD_len] at hi; omega⟩, fun d hd' => ?_⟩
      obtain ⟨p, q, m1, m2, m3⟩ := zipD_get hd'
      obtain ⟨x, n1, n2⟩ := rpa_get h2 m1
      obtain ⟨y, n3, n4⟩ := rpa_get h4 m2
      refine ⟨⟨xs, ys, x, y, SqT.of k1, SqT.of k2, n1, n3⟩, fun z H3 ⟨T, x', y', e2, hT, e3, hx, hy⟩ => ?_⟩
      subst e2 e3 m3
      have hx := hx xs (SqT.of k1)
      have hy := hy ys (SqT.of k2)
      rw [n1] at hx
      rw [n3] at hy
      cases hx
      cases hy
      have g4 := Gr.new (o := .tup [x, y]) w hT
      exact ⟨_, g4, .tup upd_same (.cons (rp_mono g4.b (rp_mono e1 n2)) (.cons (rp_mono g4.b (rp_mono e1 n4)) .nil))⟩
end
end DL
namespace DL
open PySem L2 PyProof.Rows
/-! ### bags: none; a list of a list of ints and two ints -/
def noBag (a : Addr) : Bg := ⟨a, fun _ => False, fun _ => True, fun _ _ _ _ => trivial⟩
/-- the bag's words -/
structure BagW (pb pc : Addr) (H : Hp) (cs : List Int) (d m : Int) : Prop where
  ne : pb ≠ pc
  b : H pb = some (.lst [.ref pc, .int d, .int m])
  c : H pc = some (.lst (cs.map V.int))
  cs0 : ∀ x ∈ cs, 0 ≤ x
  d0 : 0 ≤ d
  m0 : 0 ≤ m
  m1 : m < 2147483647
def lstBag (pb pc : Addr) : Bg where
  pb := pb
  mem := fun a => a = pb ∨ a = pc
  ok := fun H => ∃ cs d m, BagW pb pc H cs d m
  loc := fun H H' k ⟨cs, d, m, w⟩ => ⟨cs, d, m, w.ne, by rw [k pb (.inl rfl)]; exact w.b, by rw [k pc (.inr rfl)]; exact w.c, w.cs0, w.d0, w.m0, w.m1⟩
def IsLst (c : C) : Prop := ∃ pb pc, c.toBg = lstBag pb pc
theorem IsLst.up {c : C} (h : IsLst c) : ∀ B1 H1, IsLst { c with B0 := B1, H0 := H1 } := fun _ _ => h
/-- the bag's own objects changed -/
theorem Gr.bag {c : C} {B H H' : Hp} (w : Wd c B H) (k : ∀ a, ¬ c.isBag a → H' a = H a) (h : ∀ a, c.isBag a → H' a ≠ none) (ok : c.ok H') : Gr c B H B H' := by
  refine ⟨Evl.Ex.refl B, fun a o n e => by rw [k a n]; exact e, fun _ _ => rfl, fun a o e => ?_, w.bag.out, h, ok⟩
  rw [k a (w.nb e)]; exact w.sub a o e
/-! ### ints read without a change -/
abbrev RI := St → Hp → Int → Prop
structure PI (X : Cx) (e : Expr) (f : RI) : Prop where
  pe : PE X e (fun σ H Q => ∃ i, f σ H i ∧ Q (.int i) H)
section
variable {X : Cx}
theorem PI.of {e : Expr} {f : RI} {t : TE} (h : PE X e t) (w : ∀ σ H Q i, f σ H i → Q (.int i) H → t σ H Q) : PI X e f := ⟨pe_weak h fun σ H Q ⟨i, h1, h2⟩ => w σ H Q i h1 h2⟩
theorem pi_nm (i : Nat) {x : Str} {pos : Pos} (hN : X.N[i]? = some x := by rfl) (hv : Vis X.env.scope x := by first | exact Or.inl rfl | exact Or.inr (Or.inl rfl) | exact Or.inr (Or.inr rfl))
    (hd : (x == ("__debug__" : Str)) = false := by decide) (hcd : (x == ("__classdict__" : Str)) = false := by decide) : PI X (.Name x pos) (fun σ _ j => σ[i]? = some (some (.int j))) :=
  .of (pe_var hN hv hd hcd) fun σ H Q j h q => ⟨_, h, q⟩
theorem pi_c {i : Int} {j : Nat} {pos : Pos} : PI X (.Constant (.int i) j pos) (fun _ _ k => k = i) := .of pe_int fun σ H Q k h q => by
  subst h; exact q
theorem pi_bin {op : Operator} {C : Int → Int → Prop} {g : Int → Int → Int} {a b : Expr} {fa fb : RI} {pos : Pos} (ho : OpR X (binaryOp op) (rI C fun i j => .int (g i j))) (ha : PI X a fa) (hb : PI X b fb) :
    PI X (.BinOp a op b pos) (fun σ H k => ∃ i j, fa σ H i ∧ fb σ H j ∧ C i j ∧ k = g i j) :=
  .of (pe_op ho ha.pe hb.pe) fun σ H Q k ⟨i, j, h1, h2, h3, h4⟩ q => ⟨i, h1, j, h2, i, j, rfl, rfl, h3, by rw [h4] at q; exact q⟩
theorem iop_add : OpR X (binaryOp .Add) (rI (fun _ _ => True) fun i j => .int (i + j)) := rI0_I op_add
theorem pi_int {e : Expr} {f : RI} {p pos : Pos} (hm : X.mg "int" = none) (he : PI X e f) (hg : Gl X "int" := by rfl) (hs : starEach [e] X.env = (false, eval e X.env) :: starEach [] X.env := by rfl) (hpl : (backTo pos (starEach [] X.env)).any (·.1) = false := by rfl) :
    PI X (.Call (.Name "int" p) [e] [] pos) f :=
  .of (pe_callTy call_int1 hg hm (by decide +kernel) (pa_cons he.pe pa_nil hs) (by decide) (by decide) hs hpl) fun σ H Q k h q => ⟨k, h, .inl ⟨k, rfl, q⟩⟩
/-- bag[k], k ≥ 1 -/
theorem pi_bag (i : Nat) {x : Str} {k : Int} {jj : Nat} {p1 p2 pos : Pos} (hN : X.N[i]? = some x := by rfl) (hv : Vis X.env.scope x := by first | exact Or.inl rfl | exact Or.inr (Or.inl rfl) | exact Or.inr (Or.inr rfl))
    (hd : (x == ("__debug__" : Str)) = false := by decide) (hcd : (x == ("__classdict__" : Str)) = false := by decide) :
    PI X (.Subscript (.Name x p1) (.Constant (.int k) jj p2) pos) (fun σ H j => ∃ p xs, σ[i]? = some (some (.ref p)) ∧ H p = some (.lst xs) ∧ atI xs k = some (.int j)) :=
  .of (pe_ix ix_seq (pe_var hN hv hd hcd) pe_int (fun _ _ => rfl)) fun σ H Q j ⟨p, xs, h1, h2, h3⟩ q => ⟨_, h1, .inl ⟨p, xs, k, .int j, rfl, rfl, SqL.of h2, h3, q⟩⟩
/-- a test of two ints -/
theorem pt_i {op : CmpOp} {g : Int → Int → Bool} {a b : Expr} {fa fb : RI} {pos : Pos} (ho : OpR X (compareOp op) (rI0 fun i j => .bl (g i j))) (ha : PI X a fa) (hb : PI X b fb) (hm : behindInMarks op b = false := by first | exact nomark _ | rfl) :
    PT X (.Compare a [op] [b] pos) (fun σ H Q => ∃ i j, fa σ H i ∧ fb σ H j ∧ Q (g i j) H) := by
  refine pt_weak (pt_cmpR ho ha.pe hb.pe hm) fun σ H Q ⟨i, j, h1, h2, h3⟩ => ?_
  exact ⟨i, h1, j, h2, i, j, rfl, rfl, _, rfl, h3⟩
theorem iop_eq : OpR X (compareOp .Eq) (rI0 fun i j => .bl (decide (i = j))) := opr_weak op_eq fun x y H Q ⟨i, j, e1, e2, q⟩ => by
  subst e1 e2
  refine ⟨rfl, ?_⟩
  have e : decide (V.int i = V.int j) = decide (i = j) := by simp
  rw [e]; exact q
/-- bag[0], a list of ints, is not [] -/
theorem shaped_ints : ∀ cs : List Int, SeqAt.shaped (.list (cs.map PyData.int)) = true := by
  intro cs
  have h1 : ∀ cs : List Int, PyData.canLayAll0 (cs.map PyData.int) = true := fun cs => by
    induction cs with
    | nil => rfl
    | cons c cs ih => simp [PyData.canLayAll0, PyData.canLay0, ih]
  have h2 : ∀ cs : List Int, PyData.depthAll (cs.map PyData.int) ≤ 1 := fun cs => by
    induction cs with
    | nil => simp [PyData.depthAll]
    | cons c cs ih => simp [PyData.depthAll, PyData.depth, ih]
  have := h2 cs
  have e : (PyData.list (cs.map PyData.int)).depth ≤ 64 := by
    simp only [PyData.depth]
    omega
  unfold SeqAt.shaped
  rw [decide_eq_true e]
  simp only [PyData.canLay0, h1, Bool.and_self]
theorem dp_ints {K : PySem.W.Frag} {H : Hp} {p : Addr} {cs : List Int} (h : H p = some (.lst (cs.map V.int))) : Dp K H (.ref p) (.list (cs.map PyData.int)) :=
  rp_dp (B := H) (.lst h (rpa_of_ints cs)) (SeqAt.canLay_of_shaped (shaped_ints cs))
theorem eqv_nil (cs : List Int) : (!PyData.eqv (.list (cs.map PyData.int)) (.list [])) = !cs.isEmpty := by
  cases cs <;> simp [PyData.eqv, PyData.eqvAll]
theorem pt_full (i : Nat) {x : Str} {j0 : Nat} {p1 p2 p3 p4 pos : Pos} (hu : X.A.units + 64 < cLine) (hN : X.N[i]? = some x := by rfl) (hv : Vis X.env.scope x := by first | exact Or.inl rfl | exact Or.inr (Or.inl rfl) | exact Or.inr (Or.inr rfl))
    (hd : (x == ("__debug__" : Str)) = false := by decide) (hcd : (x == ("__classdict__" : Str)) = false := by decide) :
    PT X (.Compare (.Subscript (.Name x p1) (.Constant (.int 0) j0 p2) p3) [.NotEq] [.List [] p4] pos)
      (fun σ H Q => ∃ p xs q, ∃ cs : List Int, σ[i]? = some (some (.ref p)) ∧ H p = some (.lst xs) ∧ atI xs 0 = some (.ref q) ∧ H q = some (.lst (cs.map V.int)) ∧ ∀ H', (∀ a, H a ≠ none → H' a = H a) → Q (!cs.isEmpty) H') := by
  refine pt_weak (pt_cmpR (op_neD hu) (pe_ix ix_seq (pe_var hN hv hd hcd) pe_int (fun _ _ => rfl)) (pe_lst pa_nil) (by rfl)) fun σ H Q ⟨p, xs, q, cs, h1, h2, h3, h4, k⟩ => ?_
  refine ⟨_, h1, .inl ⟨p, xs, 0, .ref q, rfl, rfl, SqL.of h2, h3, ?_⟩⟩
  refine ⟨by decide, fun l hl => ?_⟩
  have nq : q ≠ l := ne_of_none h4 hl
  refine ⟨_, _, dp_ints (cs := cs) (by rw [upd_ne nq]; exact h4), dp_ints (cs := []) upd_same, shaped_ints cs, shaped_ints [], _, rfl, ?_⟩
  rw [show (List.map PyData.int ([] : List Int)) = [] from rfl, eqv_nil]
  exact k _ fun a ha => upd_ne fun z => ha (by rw [z]; exact hl)
/-- bag[k] = e -/
theorem ps_bag (i : Nat) {x : Str} {e : Expr} {f : RI} {k : Int} {j0 : Nat} {p1 p2 p3 pos : Pos} (he : PI X e f) (hN : X.N[i]? = some x := by rfl) (hv : Vis X.env.scope x := by first | exact Or.inl rfl | exact Or.inr (Or.inl rfl) | exact Or.inr (Or.inr rfl))
    (hd : (x == ("__debug__" : Str)) = false := by decide) (hcd : (x == ("__classdict__" : Str)) = false := by decide)
    (ha : ∀ v, assign (.Subscript (.Name x p1) (.Constant (.int k) j0 p2) p3) X.env v = (do
      let ov ← holding [v] (eval (.Name x p1) X.env)
      let iv ← holding [v, ov] (eval (.Constant (.int k) j0 p2) X.env)
      standAt p3
      holding [v, ov, iv] (setItem ov iv v)
      release [v, ov, iv] []) := by intro _; rfl)
    (hs : swapsWithSole [.Subscript (.Name x p1) (.Constant (.int k) j0 p2) p3] e pos.line X.env = pure false := by rfl) (hw : swappedStores [.Subscript (.Name x p1) (.Constant (.int k) j0 p2) p3] e X.env = pure none := by rfl)
    (h1 : (assignEach [.Subscript (.Name x p1) (.Constant (.int k) j0 p2) p3] X.env).map (·.2) = [assign (.Subscript (.Name x p1) (.Constant (.int k) j0 p2) p3) X.env] := by rfl) :
    PS X (.Assign [.Subscript (.Name x p1) (.Constant (.int k) j0 p2) p3] e pos) (fun D σ H => ∃ v p xs j, f σ H v ∧ σ[i]? = some (some (.ref p)) ∧ H p = some (.lst xs) ∧ ixN xs.length k = some j ∧ D.nx σ (upd H p (.lst (xs.set j (.int v))))) :=
  ps_weak (ps_asg he.pe (pg_sub (pe_var hN hv hd hcd) pe_int set_list ha) hs hw h1) fun D σ H ⟨v, p, xs, j, q1, q2, q3, q4, q⟩ => ⟨v, q1, _, q2, p, xs, k, j, rfl, rfl, q3, q4, q⟩
/-- cell = bag[0].pop() -/
theorem ps_bagPop (i j : Nat) {x y : Str} {j0 : Nat} {p0 p1 p2 p3 p4 p5 pos : Pos} (hNd : X.N.Nodup) (hN : X.N[i]? = some x := by rfl) (hv : Vis X.env.scope x := by first | exact Or.inl rfl | exact Or.inr (Or.inl rfl) | exact Or.inr (Or.inr rfl))
    (hd : (x == ("__debug__" : Str)) = false := by decide) (hcd : (x == ("__classdict__" : Str)) = false := by decide) (hj : X.N[j]? = some y := by rfl) (hy : Loc X.env.scope y := by first | exact Or.inl rfl | exact Or.inr rfl)
    (hf : X.fn y = true ∨ X.env.scope.names.lookup y = some .local := by first | exact .inl rfl | exact .inr rfl | assumption)
    (hbase : attributeBase (.Subscript (.Name x p1) (.Constant (.int 0) j0 p2) p3) "pop" X.env (eval (.Subscript (.Name x p1) (.Constant (.int 0) j0 p2) p3) X.env) = eval (.Subscript (.Name x p1) (.Constant (.int 0) j0 p2) p3) X.env := by rfl) (hline : (p4.endLine == p5.line) = true := by rfl)
    (hs : swapsWith (.Call (.Attribute (.Subscript (.Name x p1) (.Constant (.int 0) j0 p2) p3) "pop" p4) [] [] p5) (some (.Name y p0)) pos.line X.env = pure false := by rfl) :
    PS X (.Assign [.Name y p0] (.Call (.Attribute (.Subscript (.Name x p1) (.Constant (.int 0) j0 p2) p3) "pop" p4) [] [] p5) pos)
      (fun D σ H => ∃ p xs q ys v, σ[i]? = some (some (.ref p)) ∧ H p = some (.lst xs) ∧ atI xs 0 = some (.ref q) ∧ H q = some (.lst ys) ∧ ys[ys.length - 1]? = some v ∧ D.nx (σ.set j (some v)) (upd H q (.lst ys.dropLast))) :=
  ps_weak (ps_set hNd hj hy (pe_bm0 PySem.F.plainAttrs_list PySem.F.slot_list_pop PySem.F.type_list_pop mt_pop (pe_ix ix_seq (pe_var hN hv hd hcd) pe_int (fun _ _ => rfl)) hbase hline) hs hf) fun D σ H ⟨p, xs, q, ys, v, q1, q2, q3, q4, q5, k⟩ =>
    ⟨_, q1, .inl ⟨p, xs, 0, .ref q, rfl, rfl, SqL.of q2, q3, .inl ⟨rfl, ys, SqL.of q4⟩, q, ys, v, rfl, rfl, q4, q5, k⟩⟩
theorem pi_if {cc a b : Expr} {t : TT} {fa fb : RI} {pos : Pos} {r : St → Hp → Bool → Prop} (hc : PT X cc t) (w : ∀ σ H b Q, r σ H b → Q b H → t σ H Q) (ha : PI X a fa) (hb : PI X b fb) :
    PI X (.IfExp cc a b pos) (fun σ H i => ∃ k, r σ H k ∧ (if k = true then fa σ H i else fb σ H i)) :=
  .of (pe_ifExp hc ha.pe hb.pe) fun σ H Q i ⟨k, h1, h2⟩ q => w _ _ _ _ h1 (by
    cases k with
    | true => exact ⟨i, h2, q⟩
    | false => exact ⟨i, h2, q⟩)
theorem ps_retI {e : Expr} {f : RI} {pos : Pos} (he : PI X e f) : PS X (.Return (some e) pos) (fun D σ H => ∃ i, f σ H i ∧ D.rt (.int i) H) := ps_weak (ps_ret he.pe) fun D σ H h => h
theorem ps_setI (i : Nat) {x : Str} {e : Expr} {f : RI} {pos pos' : Pos} (hN : X.N.Nodup) (he : PI X e f) (hi : X.N[i]? = some x := by rfl) (hx : Loc X.env.scope x := by first | exact Or.inl rfl | exact Or.inr rfl)
    (hs : swapsWith e (some (.Name x pos')) pos.line X.env = pure false := by rfl) (hf : X.fn x = true ∨ X.env.scope.names.lookup x = some .local := by first | exact .inl rfl | exact .inr rfl | assumption) :
    PS X (.Assign [.Name x pos'] e pos) (fun D σ H => ∃ v, f σ H v ∧ D.nx (σ.set i (some (.int v))) H) := ps_weak (ps_set hN hi hx he.pe hs hf) fun D σ H ⟨v, h1, h2⟩ => ⟨v, h1, h2⟩
end
/-! ### the draw -/
abbrev rBg (k : Int) : RI := fun σ H j => ∃ p xs, σ[0]? = some (some (.ref p)) ∧ H p = some (.lst xs) ∧ atI xs k = some (.int j)
abbrev rNm (i : Nat) : RI := fun σ _ j => σ[i]? = some (some (.int j))
abbrev rK (i : Int) : RI := fun _ _ k => k = i
abbrev rBin (C : Int → Int → Prop) (g : Int → Int → Int) (fa fb : RI) : RI := fun σ H k => ∃ i j, fa σ H i ∧ fb σ H j ∧ C i j ∧ k = g i j
abbrev rMul := rBin CMulW fun i j => i * j
abbrev rAdd := rBin (fun _ _ => True) fun i j => i + j
abbrev rMod := rBin (fun _ j => 0 < j) fun i j => i % j
def CDv (i j : Int) : Prop := 0 < j ∧ j.natAbs.log2 < 9000
theorem iop_div {X : Cx} : OpR X (binaryOp .FloorDiv) (rI CDv fun i j => .int (i / j)) := opr_weak op_fdivA fun x y H Q ⟨i, j, e1, e2, h, q⟩ => by
  refine ⟨i, j, e1, e2, ⟨by have := h.1; omega, h.2⟩, ?_⟩
  show Q (V.int (i.fdiv j)) H
  rw [Int.fdiv_eq_ediv_of_nonneg _ (Int.le_of_lt h.1)]
  exact q
abbrev rDiv := rBin CDv fun i j => i / j
abbrev rPow := rBin CPow fun i j => i ^ j.toNat
abbrev tIt (g : Int → Int → Bool) (fa fb : RI) : TT := fun σ H Q => ∃ i j, fa σ H i ∧ fb σ H j ∧ Q (g i j) H
abbrev tFull : TT := fun σ H Q => ∃ p xs q, ∃ cs : List Int, σ[0]? = some (some (.ref p)) ∧ H p = some (.lst xs) ∧ atI xs 0 = some (.ref q) ∧ H q = some (.lst (cs.map V.int)) ∧ ∀ H', (∀ a, H a ≠ none → H' a = H a) → Q (!cs.isEmpty) H'
abbrev tPut (k : Int) (f : RI) : TS := fun D σ H => ∃ v p xs j, f σ H v ∧ σ[0]? = some (some (.ref p)) ∧ H p = some (.lst xs) ∧ ixN xs.length k = some j ∧ D.nx σ (upd H p (.lst (xs.set j (.int v))))
abbrev tPopB : TS := fun D σ H => ∃ p xs q ys v, σ[0]? = some (some (.ref p)) ∧ H p = some (.lst xs) ∧ atI xs 0 = some (.ref q) ∧ H q = some (.lst ys) ∧ ys[ys.length - 1]? = some v ∧ D.nx (σ.set 2 (some v)) (upd H q (.lst ys.dropLast))
abbrev rIfI (g : Int → Int → Bool) (c1 c2 fa fb : RI) : RI := fun σ H i => ∃ k, (∃ x y, c1 σ H x ∧ c2 σ H y ∧ k = g x y) ∧ (if k = true then fa σ H i else fb σ H i)
abbrev tSetI (i : Nat) (f : RI) : TS := fun D σ H => ∃ v, f σ H v ∧ D.nx (σ.set i (some (.int v))) H
abbrev tRetI (f : RI) : TS := fun D σ H => ∃ i, f σ H i ∧ D.rt (.int i) H
abbrev gEqI (i j : Int) : Bool := decide (i = j)
abbrev gGtI (i j : Int) : Bool := decide (j < i)
def tDraw (a b q : Int) : TS :=
  tSeq (tWhile (tAnd (tIt gEqI (rBg 1) (rK 0)) tFull) (tSeq tPopB (tPut 1 (rIfI gGtI (rNm 2) (rPow (rK 10) (rK 9)) (rNm 2) (rK 0)))))
    (tSeq (tIfS (tIt gGtI (rBg 1) (rK 0)) (tSeq (tSetI 3 (rMod (rBg 1) (rNm 1))) (tSeq (tPut 1 (rDiv (rBg 1) (rNm 1))) (tRetI (rNm 3)))) tNext)
      (tSeq (tPut 2 (rMod (rAdd (rMul (rBg 2) (rK a)) (rK b)) (rK 2147483647))) (tRetI (rMod (rDiv (rMod (rMul (rBg 2) (rBg 2)) (rK 2147483629)) (rK q)) (rNm 1)))))
def spDraw : Spec := fun ss Q => ∃ n : Int, ss = [.bg, .sh (.int n)] ∧ 0 < n ∧ n.natAbs.log2 < 9000 ∧ ∀ r : Int, 0 ≤ r → r < n → Q (.int r)
/-! what the draw does -/
theorem BagW.keep {pb pc : Addr} {H H' : Hp} {cs : List Int} {d m : Int} (w : BagW pb pc H cs d m) (k : ∀ a, H a ≠ none → H' a = H a) : BagW pb pc H' cs d m :=
  ⟨w.ne, by rw [k _ (by rw [w.b]; exact fun z => nomatch z)]; exact w.b, by rw [k _ (by rw [w.c]; exact fun z => nomatch z)]; exact w.c, w.cs0, w.d0, w.m0, w.m1⟩
theorem BagW.put1 {pb pc : Addr} {H : Hp} {cs : List Int} {d m : Int} (w : BagW pb pc H cs d m) {e : Int} (he : 0 ≤ e) : BagW pb pc (upd H pb (.lst ([V.ref pc, .int d, .int m].set 1 (.int e)))) cs e m :=
  ⟨w.ne, upd_same, by rw [upd_ne (Ne.symm w.ne)]; exact w.c, w.cs0, he, w.m0, w.m1⟩
theorem BagW.put2 {pb pc : Addr} {H : Hp} {cs : List Int} {d m : Int} (w : BagW pb pc H cs d m) {e : Int} (he : 0 ≤ e) (h1 : e < 2147483647) : BagW pb pc (upd H pb (.lst ([V.ref pc, .int d, .int m].set 2 (.int e)))) cs d e :=
  ⟨w.ne, upd_same, by rw [upd_ne (Ne.symm w.ne)]; exact w.c, w.cs0, w.d0, he, h1⟩
theorem BagW.pop {pb pc : Addr} {H : Hp} {cs : List Int} {d m : Int} (w : BagW pb pc H cs d m) : BagW pb pc (upd H pc (.lst (cs.map V.int).dropLast)) cs.dropLast d m :=
  ⟨w.ne, by rw [upd_ne w.ne]; exact w.b, by rw [upd_same, List.map_dropLast], fun x hx => w.cs0 x (List.dropLast_subset _ hx), w.d0, w.m0, w.m1⟩
theorem getLast_at {cs : List Int} (h : cs ≠ []) : ∃ x ∈ cs, (cs.map V.int)[(cs.map V.int).length - 1]? = some (.int x) := by
  refine ⟨cs.getLast h, List.getLast_mem h, ?_⟩
  rw [List.length_map, List.getElem?_map, ← List.getLast?_eq_getElem?, List.getLast?_eq_getLast h]
  rfl
/-- between two states: only the bag's objects have changed, and new ones came -/
def BagTo (pb pc : Addr) (H H' : Hp) : Prop := ∀ a, a ≠ pb → a ≠ pc → H a ≠ none → H' a = H a
theorem BagTo.refl {pb pc : Addr} {H : Hp} : BagTo pb pc H H := fun _ _ _ _ => rfl
theorem BagTo.keep {pb pc : Addr} {H H1 H2 : Hp} (t : BagTo pb pc H H1) (k : ∀ a, H1 a ≠ none → H2 a = H1 a) : BagTo pb pc H H2 := fun a h1 h2 h3 => by
  have e := t a h1 h2 h3
  rw [k a (by rw [e]; exact h3), e]
theorem BagTo.pb {pb pc : Addr} {H H1 : Hp} {o : HO} (t : BagTo pb pc H H1) : BagTo pb pc H (upd H1 pb o) := fun a h1 h2 h3 => by rw [upd_ne h1]; exact t a h1 h2 h3
theorem BagTo.pc {pb pc : Addr} {H H1 : Hp} {o : HO} (t : BagTo pb pc H H1) : BagTo pb pc H (upd H1 pc o) := fun a h1 h2 h3 => by rw [upd_ne h2]; exact t a h1 h2 h3
theorem draw_run {a b q n : Int} {pb pc : Addr} {D : Ends} {σ : L2.St} {H : Hp} {cs : List Int} {d m : Int} (hq : 0 < q ∧ q < 1000) (ha : 0 ≤ a ∧ a < 4294967296) (hb : 0 ≤ b) (hn : 0 < n) (hn2 : n.natAbs.log2 < 9000)
    (w : BagW pb pc H cs d m) (h0 : σ[0]? = some (some (.ref pb))) (h1 : σ[1]? = some (some (.int n))) (hl : σ.length = 4)
    (h : ∀ r : Int, 0 ≤ r → r < n → ∀ H', BagTo pb pc H H' → (∃ cs d m, BagW pb pc H' cs d m) → D.rt (.int r) H') : tDraw a b q D σ H := by
  have ml : ∀ {x y : Int}, 0 ≤ x → x < 4294967296 → 0 ≤ y → y < 4294967296 → CMulW x y := fun {x y} g1 g2 g3 g4 =>
    wide_mul (a := 32) (b := 32) (by omega) (by omega) (by decide) (by decide) (by decide)
  refine ⟨fun k σ' H' => σ'[0]? = some (some (.ref pb)) ∧ σ'[1]? = some (some (.int n)) ∧ σ'.length = 4 ∧ BagTo pb pc H H' ∧ ∃ cs d m, BagW pb pc H' cs d m ∧ cs.length = k, ⟨cs.length, h0, h1, hl, BagTo.refl, cs, d, m, w, rfl⟩, ?_⟩
  rintro k σ1 H1 ⟨g0, g1, gl, gt, cs, d, m, w, rfl⟩
  -- what comes behind the loop
  have rest : ∀ {H2 : Hp} {cs : List Int} {d m : Int} {σ1 : L2.St}, σ1[0]? = some (some (.ref pb)) → σ1[1]? = some (some (.int n)) → σ1.length = 4 → BagTo pb pc H H2 → BagW pb pc H2 cs d m →
      (tSeq (tIfS (tIt gGtI (rBg 1) (rK 0)) (tSeq (tSetI 3 (rMod (rBg 1) (rNm 1))) (tSeq (tPut 1 (rDiv (rBg 1) (rNm 1))) (tRetI (rNm 3)))) tNext)
      (tSeq (tPut 2 (rMod (rAdd (rMul (rBg 2) (rK a)) (rK b)) (rK 2147483647))) (tRetI (rMod (rDiv (rMod (rMul (rBg 2) (rBg 2)) (rK 2147483629)) (rK q)) (rNm 1))))) D σ1 H2 := by
    intro H2 cs d m σ1 g0 g1 gl gt w
    have b1 : rBg 1 σ1 H2 d := ⟨pb, _, g0, w.b, rfl⟩
    have b2 : rBg 2 σ1 H2 m := ⟨pb, _, g0, w.b, rfl⟩
    refine ⟨d, 0, b1, rfl, ?_⟩
    by_cases hd : 0 < d
    · rw [show gGtI d 0 = true from decide_eq_true hd]; dsimp only; rw [if_pos rfl]
      have r0 := Int.emod_nonneg d (Int.ne_of_gt hn)
      have r1 := Int.emod_lt_of_pos d hn
      refine ⟨d % n, ⟨d, n, b1, g1, hn, rfl⟩, ?_⟩
      have s0 : (σ1.set 3 (some (.int (d % n))))[0]? = some (some (.ref pb)) := by rw [List.getElem?_set_ne (by decide)]; exact g0
      have s1 : (σ1.set 3 (some (.int (d % n))))[1]? = some (some (.int n)) := by rw [List.getElem?_set_ne (by decide)]; exact g1
      refine ⟨d / n, pb, _, 1, ⟨d, n, ⟨pb, _, s0, w.b, rfl⟩, s1, ⟨hn, hn2⟩, rfl⟩, s0, w.b, rfl, ?_⟩
      refine ⟨d % n, ?_, h _ r0 r1 _ gt.pb ⟨cs, _, _, w.put1 (Int.ediv_nonneg w.d0 (Int.le_of_lt hn))⟩⟩
      show (σ1.set 3 (some (.int (d % n))))[3]? = _
      rw [List.getElem?_set_self (by omega)]
    · rw [show gGtI d 0 = false from decide_eq_false hd]; dsimp only; rw [if_neg (by decide)]
      have m0 := w.m0
      have m1 := w.m1
      have n0 := Int.emod_nonneg (m * a + b) (b := 2147483647) (by decide)
      have n1 := Int.emod_lt_of_pos (m * a + b) (b := 2147483647) (by decide)
      refine ⟨(m * a + b) % 2147483647, pb, _, 2, ⟨_, _, ⟨m * a, b, ⟨m, a, b2, rfl, ml m0 (by omega) ha.1 ha.2, rfl⟩, rfl, trivial, rfl⟩, rfl, show (0 : Int) < 2147483647 by decide, rfl⟩, g0, w.b, rfl, ?_⟩
      have w2 := w.put2 n0 n1
      generalize (m * a + b) % 2147483647 = z at n0 n1 w2
      have b3 : rBg 2 σ1 (upd H2 pb (.lst ([V.ref pc, .int d, .int m].set 2 (.int z)))) z := ⟨pb, _, g0, w2.b, rfl⟩
      have q0 : (0 : Int) < q := hq.1
      refine ⟨z * z % 2147483629 / q % n, ⟨_, n, ⟨_, q, ⟨_, _, ⟨z, z, b3, b3, ml n0 (by omega) n0 (by omega), rfl⟩, rfl, show (0 : Int) < 2147483629 by decide, rfl⟩, rfl, ⟨q0, ?_⟩, rfl⟩, g1, hn, rfl⟩, ?_⟩
      · have : q.natAbs < 2 ^ 10 := by omega
        by_cases z0 : q.natAbs = 0
        · rw [z0]; decide
        · exact Nat.lt_trans ((Nat.log2_lt z0).mpr this) (by decide)
      · exact h _ (Int.emod_nonneg _ (Int.ne_of_gt hn)) (Int.emod_lt_of_pos _ hn) _ gt.pb ⟨_, _, _, w2⟩
  refine ⟨d, 0, ⟨pb, _, g0, w.b, rfl⟩, rfl, ?_⟩
  by_cases hd : d = 0
  · rw [show gEqI d 0 = true from decide_eq_true hd]; dsimp only; rw [if_pos rfl]
    refine ⟨pb, _, pc, cs, g0, w.b, rfl, w.c, fun H2 k2 => ?_⟩
    have w2 := w.keep k2
    by_cases hc : cs = []
    · subst hc
      exact rest g0 g1 gl (gt.keep k2) w2
    · rw [show (!cs.isEmpty) = true by cases cs <;> first | exact absurd rfl hc | rfl]; dsimp only; rw [if_pos rfl]
      refine ⟨fun σ' H' => σ'[0]? = some (some (.ref pb)) ∧ σ'[1]? = some (some (.int n)) ∧ σ'.length = 4 ∧ BagTo pb pc H H' ∧ ∃ cs' d m, BagW pb pc H' cs' d m ∧ cs'.length < cs.length, fun σ' H' ⟨a0, a1, a2, a3, cs', d', m', a4, a5⟩ => ⟨_, a5, a0, a1, a2, a3, cs', d', m', a4, rfl⟩, ?_⟩
      obtain ⟨x, hx, hx2⟩ := getLast_at hc
      refine ⟨pb, _, pc, _, .int x, g0, w2.b, rfl, w2.c, hx2, ?_⟩
      have s0 : (σ1.set 2 (some (.int x)))[0]? = some (some (.ref pb)) := by rw [List.getElem?_set_ne (by decide)]; exact g0
      have s1 : (σ1.set 2 (some (.int x)))[1]? = some (some (.int n)) := by rw [List.getElem?_set_ne (by decide)]; exact g1
      have s2 : (σ1.set 2 (some (.int x)))[2]? = some (some (.int x)) := List.getElem?_set_self (by omega)
      have w3 := w2.pop
      have x0 := w2.cs0 x hx
      have len : cs.dropLast.length < cs.length := by
        rw [List.length_dropLast]
        have : 0 < cs.length := List.length_pos_iff.mpr hc
        omega
      refine ⟨if 10 ^ (9 : Int).toNat < x then x else 0, pb, _, 1, ⟨gGtI x (10 ^ (9 : Int).toNat), ⟨x, _, s2, ⟨10, 9, rfl, rfl, ⟨by decide, by decide, by decide⟩, rfl⟩, rfl⟩, ?_⟩, s0, w3.b, rfl, s0, s1, by rw [List.length_set]; exact gl, (gt.keep k2).pc.pb, _, _, _, w3.put1 ?_, len⟩
      · unfold gGtI
        by_cases e : (10 : Int) ^ (9 : Int).toNat < x
        · rw [decide_eq_true e, if_pos rfl, if_pos e]; exact s2
        · rw [decide_eq_false e, if_neg (by decide), if_neg e]
      · split
        · exact x0
        · exact Int.le_refl 0
  · rw [show gEqI d 0 = false from decide_eq_false hd]; dsimp only; rw [if_neg (by decide)]
    exact rest g0 g1 gl gt w
theorem BagTo.gr {c : C} {B H H' : Hp} {pb pc : Addr} (w : Wd c B H) (hc : c.toBg = lstBag pb pc) (t : BagTo pb pc H H') (k : ∃ cs d m, BagW pb pc H' cs d m) : Gr c B H B H' := by
  have hm : ∀ a, c.isBag a ↔ (a = pb ∨ a = pc) := fun a => by
    unfold C.isBag
    rw [hc]; exact Iff.rfl
  have hok : c.ok H' := by rw [hc]; exact k
  refine ⟨Evl.Ex.refl B, fun a o n e => ?_, fun _ _ => rfl, fun a o e => ?_, w.bag.out, fun a ha => ?_, hok⟩
  · rw [t a (fun z => n ((hm a).mpr (.inl z))) (fun z => n ((hm a).mpr (.inr z))) (by rw [e]; exact fun z => nomatch z)]; exact e
  · have n := w.nb e
    have e' := w.sub a o e
    rw [t a (fun z => n ((hm a).mpr (.inl z))) (fun z => n ((hm a).mpr (.inr z))) (by rw [e']; exact fun z => nomatch z)]; exact e'
  · obtain ⟨cs, d, m, v⟩ := k
    rcases (hm a).mp ha with z | z
    · rw [z, v.b]; exact fun q => nomatch q
    · rw [z, v.c]; exact fun q => nomatch q
def gDraw : SS := fun D ρ => ∃ n : Int, ρ = [.bg, .sh (.int n), .un, .un] ∧ 0 < n ∧ n.natAbs.log2 < 9000 ∧ ∀ r : Int, 0 ≤ r → r < n → D.rt (.int r)
theorem mono_Draw : MonoS gDraw := fun D D' ρ l ⟨n, h1, h2, h3, h4⟩ => ⟨n, h1, h2, h3, fun r a b => l.rt _ (h4 r a b)⟩
theorem draw_ss {X : Cx} {c : C} {sts : List Stmt} {a b q : Int} (hG : IsLst c) (hq : 0 < q ∧ q < 1000) (ha : 0 ≤ a ∧ a < 4294967296) (hb : 0 ≤ b) (h : PSs X sts (tDraw a b q)) : PSsd X c sts gDraw := by
  obtain ⟨pb, pc, hc⟩ := hG
  refine ⟨mono_Draw, pss_weak h fun D σ H ⟨B, ρ, ok, n, e1, h2, h3, h4⟩ => ?_⟩
  subst e1
  have s0 : SlOk c B H σ 0 .bg := ok.sl 0 _ rfl
  obtain ⟨v, s1, s2⟩ : SlOk c B H σ 1 (.sh (.int n)) := ok.sl 1 _ rfl
  rw [rp_int s2] at s1
  have s0' : σ[0]? = some (some (.ref c.pb)) := s0
  have hp : c.pb = pb := by
    have : c.toBg.pb = (lstBag pb pc).pb := by rw [hc]
    exact this
  rw [hp] at s0'
  have okk : c.ok H := ok.w.bag.ok
  rw [hc] at okk
  obtain ⟨cs, d, m, w⟩ : ∃ cs d m, BagW pb pc H cs d m := okk
  exact draw_run hq ha hb h2 h3 w s0' s1 (by rw [← ok.len]; rfl) fun r r0 r1 H' t k => h4 r r0 r1 _ B H' (ok.g.trans ok.w0 (t.gr ok.w hc k)) (.int r)
theorem spDraw_mono : ∀ ss (Q Q' : D → Prop), (∀ d, Q d → Q' d) → spDraw ss Q → spDraw ss Q' := fun ss Q Q' k ⟨n, h1, h2, h3, h4⟩ => ⟨n, h1, h2, h3, fun r a b => k _ (h4 r a b)⟩
theorem spDraw_len : ∀ ss Q, spDraw ss Q → ss.length = 2 := fun ss Q ⟨n, h1, _⟩ => by rw [h1]; rfl
theorem spDraw_go {N : List Str} (hN : N.length = 4) : ∀ ss (Q : D → Prop), spDraw ss Q → gDraw (endsOf Q) (initE N ss) := fun ss Q ⟨n, h1, h2, h3, h4⟩ => ⟨n, by
  subst h1
  unfold initE
  rw [hN]; rfl, h2, h3, h4⟩
end DL
namespace DL
open PySem L2 PyProof.Rows
/-! ### the script, cut -/
def GOwn (K : PySem.W.Frag) (c : C) : Prop := ∃ ns : List Int, ns.length ≤ most ∧ SqL K c.H0 c.pb (ns.map V.int) ∧ ∀ a, ¬ c.isBag a
theorem sql_up {K : PySem.W.Frag} {H H' : Hp} {a : Addr} {xs : List V} (k : ∀ a o, H a = some o → H' a = some o) (h : SqL K H a xs) : SqL K H' a xs := by
  rcases h with h | h
  · rcases h with h | ⟨ob, h⟩
    · exact .inl (.inl (k _ _ h))
    · exact .inl (.inr ⟨ob, k _ _ h⟩)
  · exact .inr h
theorem cut_map {α β : Type} (f : α → β) (ns : List α) (lo hi : Option Int) : ∃ ms : List α, ms.length ≤ ns.length ∧ (((ns.map f).drop (HT.sIx (ns.map f).length 0 lo)).take (HT.sIx (ns.map f).length (ns.map f).length hi - HT.sIx (ns.map f).length 0 lo)) = ms.map f :=
  ⟨(ns.drop (HT.sIx (ns.map f).length 0 lo)).take (HT.sIx (ns.map f).length (ns.map f).length hi - HT.sIx (ns.map f).length 0 lo), by rw [List.length_take, List.length_drop]; omega, by rw [List.map_take, List.map_drop]⟩
/-- script[a:b] -/
def fScr : SL := fun ρ Q => lk ρ 0 = .bg ∧ ∀ ms : List Int, ms.length ≤ most → Q (ms.map PyData.int)
theorem n_script {X : Cx} {c : C} {x : Str} {p1 p2 pos : Pos} {lo hi : Option Expr} {l h : Option Int} (hG : GOwn X.K c) (hl : POd X c lo fun _ Q => Q l) (hh : POd X c hi fun _ Q => Q h) (hN : X.N[0]? = some x := by rfl) (hv : Vis X.env.scope x := by first | exact Or.inl rfl | exact Or.inr (Or.inl rfl) | exact Or.inr (Or.inr rfl))
    (hd : (x == ("__debug__" : Str)) = false := by decide) (hcd : (x == ("__classdict__" : Str)) = false := by decide) : PN X c (.Subscript (.Name x p1) (.Slice lo hi none p2) pos) fScr := by
  obtain ⟨ns, hl0, hS, hno⟩ := hG
  refine ⟨fun ρ Q Q' k ⟨h1, h2⟩ => ⟨h1, fun ms hm => k _ (h2 ms hm)⟩, pe_weak (pe_slice sl_list (pe_var hN hv hd hcd) hl.po hh.po) fun σ H Q ⟨B, ρ, ok, e, q⟩ => ?_⟩
  have s0 : SlOk c B H σ 0 .bg := ok.sl 0 _ (lk_get e fun z => nomatch z)
  refine ⟨.ref c.pb, s0, B, ρ, ok, fun B1 H1 g1 => ⟨B1, ρ, ok.mono g1, fun B2 H2 g2 => ?_⟩⟩
  have g := g1.trans ok.w g2
  have S2 : SqL X.K H2 c.pb (ns.map V.int) := sql_up (fun a o e => g.h a o (hno a) (ok.g.h a o (hno a) e)) hS
  refine ⟨c.pb, _, rfl, S2, fun t ht => ?_⟩
  obtain ⟨ms, hml, hm⟩ := cut_map V.int ns l h
  have e2 : cutV (ns.map V.int) l h = ms.map V.int := hm
  have g3 := Gr.newO (o := .lst (cutV (ns.map V.int) l h)) g.w ht
  refine q ms (Nat.le_trans hml hl0) t _ B2 _ (g.trans ok.w g3) (g.back ht) (Evl.fresh_back g.w.sub ht) upd_same ?_
  rw [e2]; exact rpa_of_ints ms
end DL
namespace DL
open PySem L2 PySem.Spec PyProof.Rows
/-- try: a body that raises nothing -/
theorem s_tryN {X : Cx} {c : C} {body : List Stmt} {h : ExceptHandler} {hs : List ExceptHandler} {f : SS} {pos : Pos} (hn : ∀ e s, ¬ X.xe e s) (hb : PSsd X c body f) : PSd X c (.Try body (h :: hs) [] [] pos) f :=
  ⟨hb.mono, ps_weak (ps_try_never (u := tNext) hn hb.ps pss_nil) fun D σ H q => q⟩
/-! ### the bag is made -/
def spOwn : Spec := fun ss Q => ss = [.bg] ∧ ∀ (cs : List Int) (m : Int), (∀ x ∈ cs, 0 ≤ x) → 0 ≤ m → m < 2147483647 → Q (.list [.list (cs.map PyData.int), .int 0, .int m])
theorem spOwn_mono : ∀ ss (Q Q' : D → Prop), (∀ d, Q d → Q' d) → spOwn ss Q → spOwn ss Q' := fun ss Q Q' k ⟨h1, h2⟩ => ⟨h1, fun cs m a b e => k _ (h2 cs m a b e)⟩
theorem spOwn_len : ∀ ss Q, spOwn ss Q → ss.length = 1 := fun ss Q ⟨h, _⟩ => by rw [h]; rfl
theorem bag_of {B H : Hp} {v : V} {cs : List Int} {m : Int} (x : Ex B H) (r : Rp B v (.list [.list (cs.map PyData.int), .int 0, .int m])) (h1 : ∀ x ∈ cs, 0 ≤ x) (h2 : 0 ≤ m) (h3 : m < 2147483647) : ∃ pb pc, v = .ref pb ∧ BagW pb pc H cs 0 m := by
  obtain ⟨pb, xs, rfl, e1, r1⟩ := rp_lst r
  cases r1 with
  | cons r1 r2 =>
    cases r2 with
    | cons r2 r3 =>
      cases r3 with
      | cons r3 r4 =>
        cases r4
        obtain ⟨pc, ys, rfl, e2, r5⟩ := rp_lst r1
        have e3 := rp_int r2
        have e4 := rp_int r3
        subst e3 e4
        have e5 := rpa_ints r5
        subst e5
        refine ⟨pb, pc, rfl, fun z => ?_, x _ _ e1, x _ _ e2, h1, Int.le_refl 0, h2, h3⟩
        subst z
        rw [e1] at e2
        cases cs with
        | nil => cases e2
        | cons c cs => cases e2
section
variable {X : Cx} {k : Nat} {f : Addr} {fd : FuncData} {ps : List Str}
def tOwn (K : PySem.W.Frag) : TE := fun σ H Q => ∃ a, ∃ ns : List Int, σ[0]? = some (some (.ref a)) ∧ ns.length ≤ most ∧ SqL K H a (ns.map V.int) ∧ ∀ pb pc cs m H', BagW pb pc H' cs 0 m → Q (.ref pb) H'
theorem pe_own {x y : Str} {p p1 pos : Pos} {ps : List Str} (F : FnG (GOwn X.K) X.prog X.w X.K X.mg X.base k f fd ps spOwn) (hgd : X.A.guards = some []) (hr : Room k X.A) (hm : X.mg x = some (.ref f)) (hk : PySem.W.keepIn X.K (.ref f) = true) (hb : Binds X.K fd ps [])
    (hN : X.N[0]? = some y := by rfl) (hv : Vis X.env.scope y := by first | exact Or.inl rfl | exact Or.inr (Or.inl rfl) | exact Or.inr (Or.inr rfl)) (hd : (y == ("__debug__" : Str)) = false := by decide) (hcd : (y == ("__classdict__" : Str)) = false := by decide)
    (hg : Gl X x := by rfl) (hdb : (x == ("__debug__" : Str)) = false := by decide) (he : starEach [.Name y p1] X.env = (false, eval (.Name y p1) X.env) :: starEach [] X.env := by rfl) (hpl : (backTo pos (starEach [] X.env)).any (·.1) = false := by rfl) :
    PE X (.Call (.Name x p) [.Name y p1] [] pos) (tOwn X.K) := by
  refine ⟨fun pins s σ H Q I ⟨a, ns, h0, hl0, hS, q⟩ => wpAny_Call_Name_kw (ld_glob I hg hm (PySem.W.callWith_K (h₀ := X.base) I.ok.mod.kin hk (wpAny_mono ((pa_cons (pe_var hN hv hd hcd) pa_nil he).run pos pins s σ H (fun vs H1 => vs = [.ref a] ∧ H1 = H) I ⟨_, h0, rfl, rfl⟩) (fun us s1 hv => ?_) fun _ _ z => z) he hpl) hdb)⟩
  obtain ⟨vs, H1, I1, rv, e1, e2⟩ := hv
  subst e1 e2
  refine ⟨I1.kIn, wpAny_call ?_⟩
  have hl : us.length = ps.length := by
    rw [← rv.length]
    exact (F.len [.bg] (fun _ => True) ⟨rfl, fun _ _ _ _ _ => trivial⟩)
  have hbb := hb s1 us I1.kIn (by rw [List.append_nil]; exact hl)
  rw [List.append_nil] at hbb
  refine run_fng F hgd hr I1 hbb rv ⟨{ toBg := noBag a, B0 := fun _ => none, H0 := H1 }, ⟨ns, hl0, hS, fun _ z => z⟩, rfl, ⟨(fun _ _ z => nomatch z), ⟨fun _ z => z.elim, fun _ z => z.elim, trivial⟩⟩, [.bg], ⟨rfl, trivial⟩, rfl, fun cs m a1 a2 a3 v B' H' g r => ?_⟩
  obtain ⟨pb, pc, e, w⟩ := bag_of g.w.sub r a1 a2 a3
  subst e
  exact q pb pc cs m H' w
end
/-- the law's body: the bag, then the rest -/
def gLaw (n : Nat) (g : SS) : Prop := g ⟨fun _ => False, fun d => d = .bool true, fun _ => False, fun _ => False⟩ (.un :: .bg :: List.replicate n .un)
theorem law_ss {X : Cx} {st : Stmt} {rest : List Stmt} {g : SS} {n : Nat} (h0 : PS X st (tAsg (tOwn X.K) (gName 1))) (h : ∀ c, IsLst c → PSsd X c rest g) (hg : gLaw n g) :
    PSs X (st :: rest) (fun D σ H => (∀ H', D.rt (.bl true) H') ∧ ∃ a, ∃ ns : List Int, σ = some (.ref a) :: List.replicate (n + 1) none ∧ ns.length ≤ most ∧ SqL X.K H a (ns.map V.int)) := by
  refine ⟨fun pins s σ H D I ⟨k, a, ns, e, hl0, hS⟩ => ?_⟩
  subst e
  have hr : PSs X rest (fun D σ H => (∀ H', D.rt (.bl true) H') ∧ ∃ pb pc cs m, BagW pb pc H cs 0 m ∧ σ[1]? = some (some (.ref pb)) ∧ σ.length = n + 2) := by
    refine ⟨fun pins s σ H D I ⟨k, pb, pc, cs, m, w, e1, e2⟩ => ?_⟩
    let c : C := { toBg := lstBag pb pc, B0 := fun _ => none, H0 := H }
    have hw : Wd c c.B0 H := ⟨(fun _ _ z => nomatch z), (fun _ _ => rfl), fun a ha => by
      rcases ha with z | z
      · rw [z, w.b]; exact fun q => nomatch q
      · rw [z, w.c]; exact (fun q => nomatch q), ⟨cs, 0, m, w⟩⟩
    refine (h c ⟨pb, pc, rfl⟩).ps.run pins s σ H D I ⟨c.B0, .un :: .bg :: List.replicate n .un, ⟨hw, hw, Gr.refl hw, by simp [e2], fun i s hi => ?_, fun i j p ds es _ hi _ _ => ?_⟩, (h c ⟨pb, pc, rfl⟩).mono _ _ _ ⟨fun _ z => False.elim z, fun d hd v B' H' g r => ?_, fun _ z => False.elim z, fun _ z => False.elim z⟩ hg⟩
    · match i with
      | 0 => cases hi; trivial
      | 1 => cases hi; exact e1
      | i + 2 =>
        simp only [List.getElem?_cons_succ, List.getElem?_replicate] at hi
        split at hi
        · cases hi; trivial
        · cases hi
    · match i with
      | 0 => cases hi
      | 1 => cases hi
      | i + 2 =>
        simp only [List.getElem?_cons_succ, List.getElem?_replicate] at hi
        split at hi <;> cases hi
    · subst hd
      rw [rp_bl r]; exact k H'
  exact (pss_cons h0 hr).run pins s _ H D I ⟨a, ns, rfl, hl0, hS, fun pb pc cs m H' w => ⟨k, pb, pc, cs, m, w, rfl, by simp⟩⟩
/-- the law's own promise: at the law's call, the guards empty -/
structure FnL (P : Program) (w : World) (K : PySem.W.Frag) (mg : Str → Option Value) (base : Heap) (f : Addr) : Prop where
  run : ∀ (s : Shared) (H : Hp) (a : Addr) (ns : List Int), Env0 P w K mg base callerA [] s H → ns.length ≤ most → SqL K H a (ns.map V.int) →
    codeAny (model P w) callerA (.call (.ref f) ⟨[.ref a], []⟩) (CR CX0 [] P w H s (fun v _ => v = .bl true) E0) s
theorem fnl_of {P : Program} {w : World} {K : PySem.W.Frag} {mg : Str → Option Value} {base : Heap} {x qual : Str} {st : Stmt} {f : Addr} {fd : FuncData} {y : Str} {N : List Str} {n k : Nat} (F : Fun K x qual st f fd) (sc : FnScope N [y] (defScope st)) (hN : N.length = n + 2) (hr : Room (k + 1) callerA)
    (body : ∀ (cdv : Value) (s : Shared) (H : Hp), Room k (callerA.deeper (envOfC qual (defScope st) s.heap.objs.size f cdv)) →
      PSs (cxOf CX0 P w K mg base N qual (defScope st) f cdv callerA [] s H E0).nox (defBody st) (fun D σ H => (∀ H', D.rt (.bl true) H') ∧ ∃ a, ∃ ns : List Int, σ = some (.ref a) :: List.replicate (n + 1) none ∧ ns.length ≤ most ∧ SqL K H a (ns.map V.int)))
    (hbind : ∀ (s : Shared) (u : Value), BindsTo s fd ⟨[u], []⟩ [(y, u)]) : FnL P w K mg base f := by
  obtain ⟨oc, od, kV, doc, pm, an, cdv, ct, osl, rfl, lk', hcd⟩ := F.ex
  refine ⟨fun s H a ns e0 hl0 hS => ?_⟩
  have stands : ∀ b o, base.get? b = some o → s.heap.get? b = some o := fun b o z => (e0.bs b o z).1
  have inK : K.In s.heap := e0.mod.kin.keeps stands
  have r : Vals [V.ref a] [Value.ref a] := .cons rfl .nil
  refine codeAny_call_function hr.depth (inK _ _ lk') rfl sc.co sc.gen rfl (PySem.W.codeRec_of inK hcd) ((hbind s (.ref a)) _ _ _ _ (wpAny_newFunctionEnv_cells sc.kind ?_ ?_))
  · rintro ⟨m, v⟩ hy
    have hm : m ∈ [y] := by
      rw [List.mem_singleton] at hy
      cases hy
      exact List.mem_singleton.mpr rfl
    exact (sc.par m hm).elim .inl fun q => .inr ⟨q, PySem.W.cellsFrom_some _ _ _ (.inl q)⟩
  · intro env he s1 hx
    subst he
    refine ⟨(e0.mod.nolimit.keeps stands).keeps hx.toInCall.keep, codeAny_func ?_⟩
    have I := inv_start (CX := CX0) (E := E0) (qual := qual) (vs := [V.ref a]) (us := [Value.ref a]) sc hr.hd e0 rfl r hx
    have go := (body cdv s H (hr.deeper _)).nox.run [] s1 (L2.start N [V.ref a]) H { nx := fun _ _ => False, rt := fun v _ => v = .bl true } I ⟨fun _ => rfl, a, ns, ?_, hl0, hS⟩
    · refine wpAny_mono go (fun fl s' hs => ?_) fun _ _ z => z
      cases fl with
      | ret u =>
        obtain ⟨v, σ', H', J, rv, q⟩ := hs
        exact ⟨v, H', J.os, J.bare, J.base, J.hok, rv, q⟩
      | next =>
        obtain ⟨σ', H', J, q⟩ := hs
        exact q.elim
      | brk => exact hs.elim fun _ z => z.elim fun _ y => y.2.elim
      | cont => exact hs.elim fun _ z => z.elim fun _ y => y.2.elim
    · unfold L2.start
      rw [hN]
      simp only [List.map_cons, List.map_nil, List.length_cons, List.length_nil]
      rfl
end DL
namespace DL
open PySem L2 PySem.Spec PyProof.Rows
/-- the state at the law's call: the script alone is tracked, or nothing is -/
structure Call0 (P : Program) (w : World) (K : PySem.W.Frag) (s : Shared) (a : Addr) (ns : List Int) (H : Hp) : Prop where
  only : Only H
  sql : SqL K H a (ns.map V.int)
  hok : HOk P w H s.heap
  just : ∀ b, b ≠ a → H b = none
  free : H a ≠ none → K.lookup a = none
theorem call0 {P : Program} {w : World} {K : PySem.W.Frag} {s : Shared} {a : Addr} {vs : List Value} {ns : List Int} (inK : K.In s.heap) (ha : s.heap.get? a = some { cls := .type "list", data := .seq vs.toArray }) (hi : IntsAre vs ns) (hl : ns.length ≤ sizeLine) : ∃ H, Call0 P w K s a ns H := by
  have vv := vals_ints hi
  cases hk : K.lookup a with
  | some ob =>
    have e := inK a ob hk
    rw [ha] at e
    cases e
    refine ⟨fun _ => none, fun _ => .inl rfl, .inr ⟨_, vs.toArray, _, hk, rfl, rfl, rfl, ?_, by simpa using vv⟩, fun b u z => ?_, fun _ _ => rfl, fun z => absurd rfl z⟩
    · rw [List.size_toArray, hi.length]; exact hl
    · exact nomatch (show (none : Option HO) = some u from z)
  | none =>
    have at_ : ∀ {b : Addr}, b = a → (if b = a then some (HO.frz { cls := .type "list", data := .seq vs.toArray } (.lst (ns.map V.int))) else none) = some (HO.frz { cls := .type "list", data := .seq vs.toArray } (.lst (ns.map V.int))) := fun e => if_pos e
    have off : ∀ {b : Addr}, b ≠ a → (if b = a then some (HO.frz { cls := .type "list", data := .seq vs.toArray } (.lst (ns.map V.int))) else none) = none := fun e => if_neg e
    refine ⟨fun b => if b = a then some (.frz { cls := .type "list", data := .seq vs.toArray } (.lst (ns.map V.int))) else none, fun b => ?_, .inl (.inr ⟨_, at_ rfl⟩), fun b u z => ?_, fun b e => off e, fun _ => hk⟩
    · by_cases e : b = a
      · exact .inr ⟨_, _, at_ e⟩
      · exact .inl (off e)
    · by_cases e : b = a
      · have z1 := (at_ e).symm.trans z
        cases z1
        subst e
        exact ⟨ha, by rw [List.length_map]; exact hl, vs, _, vv, ha⟩
      · exact nomatch ((off e).symm.trans z)
theorem law_run {P : Program} {w : World} {K : PySem.W.Frag} {mg mb : Str → Option Value} {f a : Addr} {s : Shared} {vs : List Value} {ns : List Int}
    (inK : K.In s.heap) (gl : s.heap.Ns mainGlobals mg) (bn : s.heap.Ns builtinsNs mb) (bb : ∀ x : Str, x ≠ "__name__" → mb x = bootBuiltins x) (lim : s.heap.NoLimit) (gn : s.gens = #[])
    (ha : s.heap.get? a = some { cls := .type "list", data := .seq vs.toArray }) (hi : IntsAre vs ns) (hm : ns.length ≤ most) (F : ∀ base : Heap, K.In base → base.Ns mainGlobals mg → FnL P w K mg base f) :
    codeAny (model P w) callerA (.call (.ref f) ⟨[.ref a], []⟩) (fun r s' => r = .ok (.ret (.bool true)) ∧ OldK s.heap s'.heap ∧ s'.os = s.os ∧ AllBare s'.gens) s := by
  obtain ⟨H, c⟩ := call0 (P := P) (w := w) inK ha hi (most_le hm)
  have hid : ∀ {b : Addr} {ob : Obj}, s.heap.get? b = some ob → H b = none → (hidT s.heap H).get? b = some ob := fun e n => hidT_get e n
  have there : ∀ {b : Addr} {ob : Obj}, b ≠ a → s.heap.get? b = some ob → (hidT s.heap H).get? b = some ob := fun ne e => hid e (c.just _ ne)
  have ns_ : ∀ {b : Addr} {m : Str → Option Value}, s.heap.Ns b m → (hidT s.heap H).Ns b m := fun {b m} ⟨ob, es, ep, e, d, r⟩ => by
    refine ⟨ob, es, ep, there (fun z => ?_) e, d, r⟩
    subst z
    rw [ha] at e
    cases e
    exact nomatch (show Data.seq vs.toArray _ = Data.dict es ep from d)
  have inB : K.In (hidT s.heap H) := fun b ob e => hid (inK b ob e) (by
    by_cases z : b = a
    · subst z
      cases q : H b with
      | none => rfl
      | some u => rw [c.free (by rw [q]; exact fun z => nomatch z)] at e; cases e
    · exact c.just b z)
  have env : Env0 P w K mg (hidT s.heap H) callerA [] s H :=
    ⟨rfl, ⟨inB, ns_ gl, ⟨mb, ns_ bn, bb⟩, lim.elim fun mc h => ⟨mc, ns_ h.1, h.2⟩⟩, fun b ob e => of_hidT e, Nat.le_of_eq (hidT_size _ _), trivial, (fun b hb => absurd (show b ∈ ([] : List Addr) from hb) (by simp)), c.hok, .of_eq gn⟩
  refine codeAny_mono ((F _ inB (ns_ gl)).run s H a ns env hm c.sql) fun r s' hh => ?_
  cases r with
  | error e => exact hh.elim
  | ok fl =>
    cases fl with
    | ret u =>
      obtain ⟨v, H', hos, bare, un, hok', rv, e⟩ := hh
      subst e
      have e2 : u = Value.bool true := rv
      subst e2
      refine ⟨rfl, OldK.of_keep fun b ob e => ?_, hos, bare⟩
      cases q : H b with
      | none => exact un.keep b ob e q (fun z => absurd (show b ∈ ([] : List Addr) from z) (by simp)) (by simp)
      | some u =>
        rcases c.only b with z | ⟨ox, xs, z⟩
        · rw [q] at z; cases z
        · have old := (c.hok b _ z).1
          rw [e] at old
          cases old
          exact (hok' b _ (un.frzs b _ _ z)).1
    | next => exact hh.elim
    | brk => exact hh.elim
    | cont => exact hh.elim
theorem walk_law {l : PySem.W.OpenLaw} {n : Nat} {q : Program} {loose : List Str} {XP : (Str → Option Value) → Heap → Prop} {YP : World → Heap → Prop} {d : DefRec} (hn : l.most = some n) (hn2 : n ≤ most) (hdf : d.params.defaults = [])
    (F : ∀ (w : World) (mg : Str → Option Value) (f : Addr) (h : Heap), YP w h → h.Ns mainGlobals mg → mg d.name = some (.ref f) → ∃ K : PySem.W.Frag, K.In h ∧ ∀ base : Heap, K.In base → base.Ns mainGlobals mg → FnL l.prog w K mg base f) :
    PySem.W.WalkO q loose XP YP l.row.toRowW d [] (fun f vs => PySem.call f vs) := by
  refine Att.attach_call hn hdf fun w s₀ s mg mb f ob pm cd doc a vs ns G Y _ _ _ hmg hobj hints hlen hg => ?_
  obtain ⟨K, inK, hF⟩ := F w mg f _ Y G.T.g hmg
  exact law_run inK G.T.g G.T.b G.T.builtins G.T.nolimit hg hobj hints (Nat.le_trans hlen hn2) hF
end DL
namespace DL
open PySem L2 PySem.Spec PyProof.Rows
/-- a def known by its name -/
def Kn (P : Program) (w : World) (K : PySem.W.Frag) (mg : Str → Option Value) (base : Heap) (k : Nat) (x : Str) (ps : List Str) (S : Spec) : Prop :=
  ∃ f fd, FnG IsLst P w K mg base k f fd ps S ∧ mg x = some (.ref f) ∧ PySem.W.keepIn K (.ref f) = true ∧ Binds K fd ps []
def KnK (P : Program) (w : World) (K : PySem.W.Frag) (mg : Str → Option Value) (base : Heap) (k : Nat) (x : Str) (ps ks : List Str) (is : List Nat) (S : Spec) : Prop :=
  ∃ f fd, FnG IsLst P w K mg base k f fd ps S ∧ mg x = some (.ref f) ∧ PySem.W.keepIn K (.ref f) = true ∧ KwB K fd ps ks is
theorem Kn.up {P : Program} {w : World} {K : PySem.W.Frag} {mg : Str → Option Value} {base : Heap} {j k : Nat} {x : Str} {ps : List Str} {S : Spec} (h : Kn P w K mg base j x ps S) (l : j ≤ k) : Kn P w K mg base k x ps S :=
  let ⟨f, fd, h1, h2⟩ := h
  ⟨f, fd, h1.up l, h2⟩
theorem KnK.up {P : Program} {w : World} {K : PySem.W.Frag} {mg : Str → Option Value} {base : Heap} {j k : Nat} {x : Str} {ps ks : List Str} {is : List Nat} {S : Spec} (h : KnK P w K mg base j x ps ks is S) (l : j ≤ k) : KnK P w K mg base k x ps ks is S :=
  let ⟨f, fd, h1, h2⟩ := h
  ⟨f, fd, h1.up l, h2⟩
section
variable {X : Cx} {c : C} {k : Nat} {ps : List Str} {S : Spec}
theorem v_callX {x : Str} {p pos : Pos} {e : Expr} {es : List Expr} {fa : SA} (F : Kn X.prog X.w X.K X.mg X.base k x ps S) (hG : IsLst c) (hgd : X.A.guards = some []) (hr : Room k X.A) (ha : PAd X c (e :: es) fa)
    (hg : Gl X x := by rfl) (hdb : (x == ("__debug__" : Str)) = false := by decide) (he : starEach (e :: es) X.env = (false, eval e X.env) :: starEach es X.env := by rfl) (hpl : (backTo pos (starEach es X.env)).any (·.1) = false := by rfl) :
    PV X c (.Call (.Name x p) (e :: es) [] pos) (fCall S fa) := by
  obtain ⟨f, fd, h1, h2, h3, h4⟩ := F
  exact v_call h1 hG.up hgd hr h2 h3 h4 ha hg hdb he hpl
theorem v_callKX {x : Str} {p pos : Pos} {kws : List Keyword} {ks : List Str} {is : List Nat} {fa : SA} (F : KnK X.prog X.w X.K X.mg X.base k x ps ks is S) (hG : IsLst c) (hgd : X.A.guards = some []) (hr : Room k X.A) (ha : PKd X c kws fa)
    (hn : kws.length = ks.length := by rfl) (hg : Gl X x := by rfl) (hdb : (x == ("__debug__" : Str)) = false := by decide) (hall : (backToKw pos (keywordEach kws X.env)).all (·.1.isSome) = true := by rfl) (hks : (backToKw pos (keywordEach kws X.env)).filterMap (·.1) = ks := by rfl)
    (hpl : ((backTo pos (starEach [] X.env)).any (·.1) || (backToKw pos (keywordEach kws X.env)).any (·.1.isNone)) = false := by rfl) :
    PV X c (.Call (.Name x p) [] kws pos) (fCallK S is fa) := by
  obtain ⟨f, fd, h1, h2, h3, h4⟩ := F
  exact v_callK h1 hG.up hgd hr h2 h3 h4 ha hn hg hdb hall hks hpl
/-- freeze, whether it is one's own or shared already -/
def fFrz (i : Nat) (f : SS) : SS := fun D ρ => match lk ρ i with | .ow ds => f D (ρ.set i (.sh (.list ds))) | .sh _ => f D ρ | _ => False
theorem s_frz (i : Nat) {st : Stmt} {f : SS} (h : PSd X c st f) : PSd X c st (fFrz i f) := by
  have h2 := s_freeze i h
  refine ⟨fun D D' ρ l q => ?_, ⟨fun pins s σ H D I ⟨B, ρ, ok, q⟩ => ?_⟩⟩
  · unfold fFrz at q ⊢
    split at q <;> first | exact q.elim | exact h.mono _ _ _ l q
  · unfold fFrz at q
    cases e : lk ρ i with
    | ow ds =>
      rw [e] at q
      refine h2.ps.run pins s σ H D I ⟨B, ρ, ok, ?_⟩
      unfold fFreeze
      rw [e]; exact q
    | sh d =>
      rw [e] at q
      exact h.ps.run pins s σ H D I ⟨B, ρ, ok, q⟩
    | un => rw [e] at q; exact q.elim
    | bg => rw [e] at q; exact q.elim
end
/-! ### specs -/
/-- n arguments; what they must be; what comes back -/
def sp (n : Nat) (pre : List Sl → Prop) (R : List Sl → D → Prop) : Spec := fun ss Q => ss.length = n ∧ pre ss ∧ ∀ d, R ss d → Q d
theorem sp_mono {n : Nat} {pre : List Sl → Prop} {R : List Sl → D → Prop} : ∀ ss (Q Q' : D → Prop), (∀ d, Q d → Q' d) → sp n pre R ss Q → sp n pre R ss Q' := fun ss Q Q' k h => ⟨h.1, h.2.1, fun d r => k d (h.2.2 d r)⟩
theorem sp_len {n : Nat} {pre : List Sl → Prop} {R : List Sl → D → Prop} : ∀ ss (Q : D → Prop), sp n pre R ss Q → ss.length = n := fun ss Q h => h.1
/-! ### reading what a suite does -/
theorem at0 {α : Type} (a : α) (r : List α) : atI (a :: r) 0 = some a := by
  unfold atI ixN
  rw [if_pos (by omega), if_pos (by rw [List.length_cons]; omega)]
  rfl
theorem at1 {α : Type} (a b : α) (r : List α) : atI (a :: b :: r) 1 = some b := by
  unfold atI ixN
  rw [if_pos (by omega), if_pos (by rw [List.length_cons, List.length_cons]; omega)]
  rfl
theorem at2 {α : Type} (a b c : α) (r : List α) : atI (a :: b :: c :: r) 2 = some c := by
  unfold atI ixN
  rw [if_pos (by omega), if_pos (by simp only [List.length_cons]; omega)]
  rfl
theorem at3 {α : Type} (a b c d : α) (r : List α) : atI (a :: b :: c :: d :: r) 3 = some d := by
  unfold atI ixN
  rw [if_pos (by omega), if_pos (by simp only [List.length_cons]; omega)]
  rfl
theorem at4 {α : Type} (a b c d e : α) (r : List α) : atI (a :: b :: c :: d :: e :: r) 4 = some e := by
  unfold atI ixN
  rw [if_pos (by omega), if_pos (by simp only [List.length_cons]; omega)]
  rfl
theorem ix0 (n : Nat) : ixN (n + 1) 0 = some 0 := by
  unfold ixN
  rw [if_pos (by omega), if_pos (by omega)]; rfl
theorem ix1 (n : Nat) : ixN (n + 2) 1 = some 1 := by
  unfold ixN
  rw [if_pos (by omega), if_pos (by omega)]; rfl
theorem ix2 (n : Nat) : ixN (n + 3) 2 = some 2 := by
  unfold ixN
  rw [if_pos (by omega), if_pos (by omega)]; rfl
theorem ix3 (n : Nat) : ixN (n + 4) 3 = some 3 := by
  unfold ixN
  rw [if_pos (by omega), if_pos (by omega)]; rfl
theorem lg2 : ((2 : Int).natAbs.log2 < 9000) = True := eq_true (by decide)
theorem lk_z (s : Sl) (r : Env) : lk (s :: r) 0 = s := rfl
theorem lk_s (s : Sl) (r : Env) (i : Nat) : lk (s :: r) (i + 1) = lk r i := rfl
theorem ifS {f g : SS} {b : Bool} {D : En} {ρ : Env} (h1 : b = true → f D ρ) (h2 : b = false → g D ρ) : (if b = true then f D ρ else g D ρ) := by
  cases b with
  | true => exact h1 rfl
  | false => exact h2 rfl
/-- if x == '..': .. , not taken -/
theorem skip_str {i : Nat} {x y : Str} {A B : SS} {E : En} {ρ : Env} (h : lk ρ i = .sh (.str y)) (ne : ¬ y = x) (k : B E ρ) : fSeqS (fIfS (fCmp gEq (fN i) (fC (.str x))) A fNext) B E ρ := by
  simp only [fSeqS, fIfS, fCmp, fN, h, fC, gEq, decide_eq_false ne, fNext]
  rw [if_neg (by decide)]
  exact k
theorem take_str {i : Nat} {x : Str} {A B : SS} {E : En} {ρ : Env} (h : lk ρ i = .sh (.str x)) (k : A ⟨B E, E.rt, E.bk, E.ct⟩ ρ) : fSeqS (fIfS (fCmp gEq (fN i) (fC (.str x))) A fNext) B E ρ := by
  simp only [fSeqS, fIfS, fCmp, fN, h, fC, gEq, decide_true, if_true]
  exact k
/-- a loop by an invariant: m falls -/
theorem while_of {t : ST} {body : SS} {E : En} (I : Nat → Env → Prop) (turn : ∀ m ρ, I m ρ → ∀ K : Env → Prop, (∀ m' ρ', m' < m → I m' ρ' → K ρ') → t ρ fun b => if b = true then body ⟨K, E.rt, E.nx, K⟩ ρ else E.nx ρ) (m : Nat) (ρ : Env) (h : I m ρ) : fWhile t body E ρ := by
  have key : ∀ n m ρ, m < n → I m ρ → fWhN t body n E ρ := by
    intro n
    induction n with
    | zero => intro m ρ l; omega
    | succ n ih => exact fun m ρ l h => turn m ρ h (fWhN t body n E) fun m' ρ' l' h' => ih m' ρ' (by omega) h'
  exact ⟨m + 1, key (m + 1) m ρ (Nat.lt_succ_self m) h⟩
/-- a for by an invariant of what is left -/
theorem for_of {g : GT} {body : SS} {E : En} (I : List D → Env → Prop) (turn : ∀ d ds ρ, I (d :: ds) ρ → ∀ K : Env → Prop, (∀ ρ', I ds ρ' → K ρ') → g d ρ fun ρ' => body ⟨K, E.rt, E.nx, K⟩ ρ') (last : ∀ ρ, I [] ρ → E.nx ρ) : ∀ ds ρ, I ds ρ → fFor g body ds E ρ
  | [], ρ, h => last ρ h
  | d :: ds, ρ, h => turn d ds ρ h (fFor g body ds E) fun ρ' h' => for_of I turn last ds ρ' h'
theorem rng_succ (lo : Int) (n : Nat) : rng lo (n + 1) = .int lo :: rng (lo + 1) n := by
  unfold rng
  rw [List.range_succ_eq_map, List.map_cons, List.map_map]
  congr 1
  · simp
  · refine List.map_congr_left fun i _ => ?_
    simp only [Function.comp]
    congr 1
    omega
/-- a for over a range -/
theorem for_rng {g : GT} {body : SS} {E : En} (I : Int → Env → Prop) : ∀ (n : Nat) (lo : Int) (ρ : Env), (∀ i ρ, lo ≤ i → i < lo + n → I i ρ → ∀ K : Env → Prop, (∀ ρ', I (i + 1) ρ' → K ρ') → g (.int i) ρ fun ρ' => body ⟨K, E.rt, E.nx, K⟩ ρ') → (∀ ρ, I (lo + n) ρ → E.nx ρ) → I lo ρ → fFor g body (rng lo n) E ρ
  | 0, lo, ρ, _, last, h => last ρ (by simpa using h)
  | n + 1, lo, ρ, turn, last, h => by
    rw [rng_succ]
    exact turn lo ρ (Int.le_refl _) (by omega) h (fFor g body (rng (lo + 1) n) E) fun ρ' h' => for_rng I n (lo + 1) ρ' (fun i ρ a b => turn i ρ (by omega) (by omega)) (fun ρ h => last ρ (by
      have e : lo + 1 + (n : Int) = lo + ((n + 1 : Nat) : Int) := by omega
      rw [← e]; exact h)) h'
theorem lc_of {g : GT} {t : ST} {e : SE} {ρ : Env} (I : List D → (List D → Prop) → Prop) (turn : ∀ d ds Q, I (d :: ds) Q → ∀ K : (List D → Prop) → Prop, (∀ Q', I ds Q' → K Q') → g d ρ fun ρ1 => t ρ1 fun b => if b = true then e ρ1 fun y => K fun ys => Q (y :: ys) else K Q) (last : ∀ Q, I [] Q → Q []) : ∀ ds Q, I ds Q → lcRun g t e ρ ds Q
  | [], Q, h => last Q h
  | d :: ds, Q, h => turn d ds Q h (fun Q' => lcRun g t e ρ ds Q') fun Q' h' => lc_of I turn last ds Q' h'
end DL
namespace DL
open PySem L2 PySem.Spec PyProof.Rows
/-! ### from the head's facts -/
theorem fun_of {K : PySem.W.Frag} {x : Str} {st : Stmt} {f : Addr} {fd : FuncData} (F : FunD K x x (defArgs st) (defBody st) (defScope st) [] [] f fd) : Fun K x x st f fd := by
  obtain ⟨⟨oc, od, dV, kV, doc, pm, an, cdv, ct, osl, e, lk, hcd, hD, hK⟩, kp⟩ := F
  rcases hD with ⟨_, rfl⟩ | ⟨z, _⟩
  · exact ⟨⟨oc, od, kV, doc, pm, an, cdv, ct, osl, e, lk, hcd⟩, kp⟩
  · exact absurd rfl z
abbrev XX (P : Program) (w : World) (K : PySem.W.Frag) (mg : Str → Option Value) (base : Heap) (N : List Str) (qual : Str) (st : Stmt) (f : Addr) (cdv : Value) (A : Around) (outer : List PySem.Env) (s : Shared) (H : Hp) : Cx :=
  (cxOf CX0 P w K mg base N qual (defScope st) f cdv A outer s H E0).nox
theorem kwb_of {K : PySem.W.Frag} {x qual : Str} {st : Stmt} {f : Addr} {fd : FuncData} {ps ks : List Str} {is : List Nat} (F : Fun K x qual st f fd)
    (h : ∀ (kV doc pm : Value) (an : Option Addr) (cdv ct : Value) (ws : List Value), ws.length = ks.length → bindArgs (PySem.W.fnOf x qual (defArgs st) (defBody st) (defScope st) .none kV doc pm an cdv ct) ⟨[], ks.zip ws⟩ = pure (ps.zip (perm is ws))) : KwB K fd ps ks is := by
  obtain ⟨oc, od, kV, doc, pm, an, cdv, ct, osl, rfl, lk, hcd⟩ := F.ex
  exact ⟨fun s ws _ hl => .of_eq (h kV doc pm an cdv ct ws hl)⟩
theorem Kn.mk {P : Program} {w : World} {K : PySem.W.Frag} {mg : Str → Option Value} {base : Heap} {k : Nat} {x : Str} {ps : List Str} {S : Spec} {f : Addr} {fd : FuncData} (h : FnG IsLst P w K mg base k f fd ps S) (h1 : mg x = some (.ref f)) (h2 : PySem.W.keepIn K (.ref f) = true) (h3 : Binds K fd ps []) : Kn P w K mg base k x ps S := ⟨f, fd, h, h1, h2, h3⟩
theorem KnK.mk {P : Program} {w : World} {K : PySem.W.Frag} {mg : Str → Option Value} {base : Heap} {k : Nat} {x : Str} {ps ks : List Str} {is : List Nat} {S : Spec} {f : Addr} {fd : FuncData} (h : FnG IsLst P w K mg base k f fd ps S) (h1 : mg x = some (.ref f)) (h2 : PySem.W.keepIn K (.ref f) = true) (h3 : KwB K fd ps ks is) : KnK P w K mg base k x ps ks is S := ⟨f, fd, h, h1, h2, h3⟩
theorem units_of {A : Around} {k : Nat} (hr : Room k A) : A.units + 64 < cLine := by
  have := hr.un
  omega
abbrev fForS (fi : SI) (g : GT) (f : SS) : SS := fun D ρ => fi ρ fun ds => fFor g f ds D ρ
end DL
namespace DL
open PySem L2 PySem.Spec PyProof.Rows
/-! ### data of a small size: may be shown and compared -/
/-- nesting at most n, shown in at most w signs -/
structure Ni (n w : Nat) (d : D) : Prop where
  sh : d.showable = true
  nd : d.hasDict = false
  cl : d.canLay0 = true
  dp : d.depth ≤ n
  wt : d.shown.length ≤ w
structure NiA (n w : Nat) (ds : List D) : Prop where
  sh : PyData.showableAll ds = true
  nd : PyData.hasDictAll ds = false
  cl : PyData.canLayAll0 ds = true
  dp : PyData.depthAll ds ≤ n
  wt : ((PyData.shownAll ds).map (·.length)).sum + 2 * (PyData.shownAll ds).length ≤ w
theorem Ni.le {n w m v : Nat} {d : D} (h : Ni n w d) (a : n ≤ m) (b : w ≤ v) : Ni m v d := ⟨h.sh, h.nd, h.cl, Nat.le_trans h.dp a, Nat.le_trans h.wt b⟩
theorem NiA.nil {n w : Nat} : NiA n w [] := ⟨rfl, rfl, rfl, by simp [PyData.depthAll], by simp [PyData.shownAll]⟩
theorem NiA.cons {n w v : Nat} {d : D} {ds : List D} (h : Ni n w d) (k : NiA n v ds) : NiA n (w + 2 + v) (d :: ds) :=
  ⟨by simp [PyData.showableAll, h.sh, k.sh], by simp [PyData.hasDictAll, h.nd, k.nd], by simp [PyData.canLayAll0, h.cl, k.cl],
    by have := h.dp; have := k.dp; simp only [PyData.depthAll]; omega, by have := h.wt; have := k.wt; simp only [PyData.shownAll, List.map_cons, List.sum_cons, List.length_cons]; omega⟩
theorem NiA.le {n w m v : Nat} {d : List D} (h : NiA n w d) (a : n ≤ m) (b : w ≤ v) : NiA m v d := ⟨h.sh, h.nd, h.cl, Nat.le_trans h.dp a, Nat.le_trans h.wt b⟩
theorem NiA.all {n w : Nat} : ∀ {ds : List D}, (∀ d ∈ ds, Ni n w d) → NiA n (ds.length * (w + 2)) ds
  | [], _ => NiA.nil
  | d :: ds, h => (NiA.cons (h d List.mem_cons_self) (NiA.all fun e he => h e (List.mem_cons_of_mem _ he))).le (Nat.le_refl _) (by rw [List.length_cons, Nat.succ_mul]; omega)
theorem Ni.list {n w : Nat} {ds : List D} (h : NiA n w ds) : Ni (n + 1) (w + 3) (.list ds) :=
  ⟨by simp [PyData.showable, h.sh], by simp [PyData.hasDict, h.nd], by simp [PyData.canLay0, h.cl], by have := h.dp; simp only [PyData.depth]; omega, by
    have := h.wt
    have := listText_len_le (PyData.shownAll ds)
    simp only [PyData.shown]
    omega⟩
theorem Ni.tup {n w : Nat} {ds : List D} (h : NiA n w ds) : Ni (n + 1) (w + 3) (.tuple ds) :=
  ⟨by simp [PyData.showable, h.sh], by simp [PyData.hasDict, h.nd], by simp [PyData.canLay0, h.cl], by have := h.dp; simp only [PyData.depth]; omega, by
    have := h.wt
    have := tupleText_len_le (PyData.shownAll ds)
    simp only [PyData.shown]
    omega⟩
theorem log2_lt {n k : Nat} (hk : 0 < k) (h : n < 2 ^ k) : n.log2 < k := by
  by_cases z : n = 0
  · subst z; rw [Nat.log2_zero]; exact hk
  · exact (Nat.log2_lt z).mpr h
theorem pow_1900 : (2 : Nat) ^ 1900 ≤ 10 ^ 590 := by decide +kernel
theorem Ni.int {i : Int} (h : i.natAbs < 2 ^ 1900) : Ni 0 600 (.int i) := by
  have h10 : i.natAbs < 10 ^ 590 := Nat.lt_of_lt_of_le h pow_1900
  have hl := log2_lt (by decide) h
  have e := int_text_length_le10 (k := 590) (by decide) h10
  clear h h10
  refine ⟨?_, rfl, rfl, by simp [PyData.depth], ?_⟩
  · simp only [PyData.showable, decide_eq_true_eq]
    exact Nat.lt_trans hl (by decide)
  · simp only [PyData.shown]
    rw [PySem.ofString_length]
    omega
theorem Ni.bool (b : Bool) : Ni 0 5 (.bool b) := ⟨rfl, rfl, rfl, by simp [PyData.depth], by cases b <;> decide⟩
theorem Ni.none : Ni 0 4 .none := ⟨rfl, rfl, rfl, by simp [PyData.depth], by decide⟩
theorem Ni.str {x : Str} {w : Nat} (h : (PyData.shown (.str x)).length ≤ w := by decide +kernel) (k : PyData.canLay0 (.str x) = true := by decide +kernel) : Ni 0 w (.str x) :=
  ⟨rfl, rfl, k, by simp [PyData.depth], h⟩
theorem Ni.shaped {n w : Nat} {d : D} (h : Ni n w d) (hn : n ≤ 60) : SeqAt.shaped d = true := by
  unfold SeqAt.shaped
  rw [h.cl, Bool.true_and, decide_eq_true_eq]
  have := h.dp
  omega
theorem Ni.repr {n w : Nat} {d : D} (h : Ni n w d) (hn : n ≤ 60) (hw : w ≤ 16777216) {Q : D → Prop} (q : Q (.str d.shown)) : bRepr [d] Q := ⟨h.sh, h.nd, by rw [sizeLine_eq]; exact Nat.le_trans h.wt hw, Nat.le_trans h.dp hn, q⟩
theorem Ni.eq {n w : Nat} {d : D} (h : Ni n w d) (hn : n ≤ 60) {Q : Bool → Prop} (q : Q true) : gEq d d Q := by
  have gen : SeqAt.shaped d = true ∧ SeqAt.shaped d = true ∧ Q (PyData.eqv d d) := ⟨h.shaped hn, h.shaped hn, by rw [SeqAt.eqv_refl d h.cl]; exact q⟩
  cases d with
  | int i => show Q (decide (i = i)); simpa using q
  | str i => show Q (decide (i = i)); simpa using q
  | bool i => show Q (decide (i = i)); simpa using q
  | none => exact gen
  | list ds => exact gen
  | tuple ds => exact gen
  | dict ds => exact gen
end DL
namespace DL
open PySem L2 PySem.Spec PyProof.Rows
/-! ### sizes -/
def Sm (k : Nat) (i : Int) : Prop := i.natAbs < 2 ^ k
theorem Sm.le {k l : Nat} {i : Int} (h : Sm k i) (hl : k ≤ l) : Sm l i := Nat.lt_of_lt_of_le h (Nat.pow_le_pow_right (by decide) hl)
theorem Sm.neg {k : Nat} {i : Int} (h : Sm k i) : Sm k (-i) := by unfold Sm at *; rw [Int.natAbs_neg]; exact h
theorem Sm.add {k : Nat} {i j : Int} (h : Sm k i) (h' : Sm k j) : Sm (k + 1) (i + j) := by
  unfold Sm at *
  have := Int.natAbs_add_le i j
  rw [Nat.pow_succ]
  omega
theorem Sm.sub {k : Nat} {i j : Int} (h : Sm k i) (h' : Sm k j) : Sm (k + 1) (i - j) := by
  have := Sm.add h h'.neg
  rwa [← Int.sub_eq_add_neg] at this
theorem Sm.mul {k l : Nat} {i j : Int} (h : Sm k i) (h' : Sm l j) : Sm (k + l) (i * j) := by
  unfold Sm at *
  rw [Int.natAbs_mul, Nat.pow_add]
  exact Nat.mul_lt_mul'' h h'
theorem Sm.nat {k : Nat} {i : Int} (h0 : 0 ≤ i) (h : i < 2 ^ k) : Sm k i := by
  unfold Sm
  have e : ((i.natAbs : Nat) : Int) < ((2 ^ k : Nat) : Int) := by
    rw [Int.natAbs_of_nonneg h0]
    exact_mod_cast h
  exact_mod_cast e
theorem Sm.abs {k : Nat} {i : Int} (h : Sm k i) : Sm k (if i < 0 then -i else i) := by
  split
  · exact h.neg
  · exact h
theorem Sm.mulw {k l : Nat} {i j : Int} (h : Sm k i) (h' : Sm l j) (hs : k + l + 2 ≤ 1000000 := by omega) : CMulW i j :=
  wide_mul (a := k + 1) (b := l + 1) (h.le (Nat.le_succ k)) (h'.le (Nat.le_succ l)) (by omega) (by omega) (by omega)
theorem Sm.log {k : Nat} {i : Int} (h : Sm k i) (hk : k < 9000 := by omega) : i.natAbs.log2 < 9000 := by
  have := log2_lt (k := k + 1) (by omega) (h.le (Nat.le_succ k))
  omega
/-- divided by a positive number -/
theorem Sm.div {k : Nat} {i g : Int} (h : Sm k i) (hg : 0 < g) : Sm k (i / g) := by
  unfold Sm at *
  have h1 : (i / g).natAbs ≤ i.natAbs := by
    have e1 := Int.ediv_mul_le i (Int.ne_of_gt hg)
    have e2 := Int.lt_ediv_add_one_mul_self i hg
    by_cases z : 0 ≤ i
    · have : 0 ≤ i / g := Int.ediv_nonneg z (Int.le_of_lt hg)
      have : i / g ≤ i := Int.ediv_le_self g z
      omega
    · have n : i / g < 0 := Int.ediv_neg_of_neg_of_pos (by omega) hg
      have q := Int.mul_le_mul_of_nonneg_left (a := 1) (b := g) (c := -i) (by omega) (by omega)
      rw [Int.mul_one, Int.neg_mul] at q
      have : i ≤ i / g := Int.le_ediv_of_mul_le hg (by omega)
      omega
  omega
theorem Sm.emod {k : Nat} {i g : Int} (hg : 0 < g) (h : Sm k g) : Sm k (i % g) := by
  unfold Sm at *
  have := Int.emod_nonneg i (Int.ne_of_gt hg)
  have := Int.emod_lt_of_pos i hg
  omega
/-! ### gcd -/
theorem gcd_fmod (i j : Int) : Int.gcd j (i.fmod j) = Int.gcd i j := by
  rw [Int.fmod_def, Int.gcd_comm i j]
  have : i - j * i.fdiv j = i + j * (-(i.fdiv j)) := by rw [Int.mul_neg]; omega
  rw [this]
  simp
theorem gcd_emod (i j : Int) : Int.gcd j (i % j) = Int.gcd i j := by
  rw [Int.emod_def, Int.gcd_comm i j]
  have : i - j * (i / j) = i + j * (-(i / j)) := by rw [Int.mul_neg]; omega
  rw [this]
  simp
/-! ### whole roots -/
def Rt (n s : Int) : Prop := 0 ≤ s ∧ s * s ≤ n ∧ n < (s + 1) * (s + 1)
theorem sq_exp (s : Int) : (s + 1) * (s + 1) = s * s + 2 * s + 1 := by
  rw [Int.add_mul, Int.mul_add, Int.mul_one, Int.one_mul]; omega
theorem rt_ex (n : Nat) : ∃ s, Rt n s := by
  induction n with
  | zero => exact ⟨0, by decide, by decide, by decide⟩
  | succ n ih =>
    obtain ⟨s, h0, h1, h2⟩ := ih
    by_cases h : ((n + 1 : Nat) : Int) < (s + 1) * (s + 1)
    · exact ⟨s, h0, by omega, h⟩
    · refine ⟨s + 1, by omega, by omega, ?_⟩
      have := sq_exp (s + 1)
      omega
theorem rt_of {n : Int} (h : 0 ≤ n) : ∃ s, Rt n s := by
  obtain ⟨s, hs⟩ := rt_ex n.toNat
  rw [Int.toNat_of_nonneg h] at hs
  exact ⟨s, hs⟩
theorem sq_le {a b : Int} (h0 : 0 ≤ a) (h : a ≤ b) : a * a ≤ b * b := Int.mul_le_mul h h h0 (by omega)
theorem rt_unique {n s t : Int} (h : Rt n s) (k : Rt n t) : s = t := by
  apply Classical.byContradiction
  intro c
  rcases Int.lt_or_gt_of_ne c with c | c
  · have := sq_le (a := s + 1) (b := t) (by have := h.1; omega) (by omega)
    have := h.2.2
    have := k.2.1
    omega
  · have := sq_le (a := t + 1) (b := s) (by have := k.1; omega) (by omega)
    have := k.2.2
    have := h.2.1
    omega
theorem rt_sq {n s r : Int} (h : Rt n s) (hr : 0 ≤ r) (e : r * r = n) : s = r := rt_unique h ⟨hr, by omega, by have := sq_exp r; omega⟩
/-- the mean is no less than the root -/
theorem rt_up {n s r : Int} (h : Rt n s) (hr : 0 < r) : s ≤ (r + n / r) / 2 := by
  obtain ⟨h0, h1, h2⟩ := h
  apply Classical.byContradiction
  intro c
  have c1 : r + n / r ≤ 2 * s - 1 := by omega
  have q : n < (n / r + 1) * r := Int.lt_ediv_add_one_mul_self n hr
  have le : n / r + 1 ≤ 2 * s - r := by omega
  have m := Int.mul_le_mul_of_nonneg_right le (Int.le_of_lt hr)
  have e : (2 * s - r) * r = s * s - (s - r) * (s - r) := by
    rw [Int.sub_mul, Int.sub_mul, Int.mul_sub, Int.mul_sub, Int.mul_assoc, Int.mul_comm r s]; omega
  have sq : 0 ≤ (s - r) * (s - r) := by
    rcases Int.le_total 0 (s - r) with z | z
    · exact Int.mul_nonneg z z
    · have := Int.mul_nonneg (a := -(s - r)) (b := -(s - r)) (by omega) (by omega)
      rwa [Int.neg_mul_neg] at this
  omega
theorem rt_quot {n s r : Int} (h : Rt n s) (hr : s < r) : n / r ≤ s := by
  obtain ⟨h0, h1, h2⟩ := h
  have m := Int.mul_le_mul_of_nonneg_left (a := s + 1) (b := r) (c := s + 1) (by omega) (by omega)
  have : n / r < s + 1 := Int.ediv_lt_of_lt_mul (by omega) (by omega)
  omega
/-- where it does not fall the root is reached -/
theorem rt_stop {n s r : Int} (h : Rt n s) (hr : 0 < r) (hs : s ≤ r) (k : r ≤ (r + n / r) / 2) : r = s := by
  apply Classical.byContradiction
  intro c
  have := rt_quot h (r := r) (by omega)
  omega
theorem rt_half {n s r : Int} (h : Rt n s) (hs : s < r) : 2 * ((r + n / r) / 2 - s) ≤ r - s := by
  have := rt_quot h hs
  omega
theorem rt_pos {n s : Int} (h : Rt n s) (hn : 2 ≤ n) : 0 < s := by
  apply Classical.byContradiction
  intro c
  have e : s = 0 := by have := h.1; omega
  have := h.2.2
  rw [e] at this
  omega
theorem bits_lt (n : Nat) : n < 2 ^ (Builtin.Int.intBits (n : Int)) := by
  unfold Builtin.Int.intBits
  by_cases z : n = 0
  · subst z; decide
  · have : ((n : Int) == 0) = false := by simp; omega
    first
      | (rw [this]; simp only [Bool.false_eq_true, if_false, Int.natAbs_natCast]; exact Nat.lt_log2_self)
      | (simp only [Int.natAbs_natCast]; split <;> first | omega | exact Nat.lt_log2_self)
      | (simp only [Int.natAbs_natCast]; exact Nat.lt_log2_self)
theorem bits_le {n : Nat} {k : Nat} (hk : 0 < k) (h : n < 2 ^ k) : Builtin.Int.intBits (n : Int) ≤ k := by
  have l := log2_lt hk h
  unfold Builtin.Int.intBits
  first
    | (split <;> simp_all <;> omega)
    | (simp only [Int.natAbs_natCast]; omega)
/-- the first guess is above the root -/
theorem rt_first {n : Nat} {s : Int} (h : Rt n s) (b : Nat) (hb : Builtin.Int.intBits (n : Int) ≤ 2 * b) : s < 2 ^ b := by
  have e := Nat.lt_of_lt_of_le (bits_lt n) (Nat.pow_le_pow_right (by decide : 0 < 2) hb)
  apply Classical.byContradiction
  intro c
  have c : (2 : Int) ^ b ≤ s := by omega
  have p : (0 : Int) ≤ 2 ^ b := Int.le_of_lt (Int.pow_pos (by decide))
  have m := sq_le p c
  have e2 : ((n : Nat) : Int) < (2 : Int) ^ b * 2 ^ b := by
    rw [← Int.pow_add]
    have : b + b = 2 * b := by omega
    rw [this]
    exact_mod_cast e
  have := h.2.1
  omega
end DL
namespace DL
namespace T
open PySem L2 PySem.Spec PyProof.Rows
/-! ### what the defs of k02 are to do -/
structure S4 where
  a : Int
  b : Int
  c : Int
  d : Int
def S4.D (s : S4) : DL.D := .tuple [.int s.a, .int s.b, .int s.c, .int s.d]
/-- the greatest that divides the three -/
def g3 (a b c : Int) : Int := (Int.gcd (Int.gcd a b) c : Nat)
def nrm (a b c d : Int) : S4 := ⟨a / g3 a b c, b / g3 a b c, c / g3 a b c, if b ≠ 0 then d else 0⟩
def sgn (a b d : Int) : Int := if 0 ≤ a ∧ 0 ≤ b then (if 0 < a + b then 1 else 0) else if a ≤ 0 ∧ b ≤ 0 then -1 else if decide (b * b * d < a * a) = decide (0 < a) then 1 else -1
def mx (i j : Int) : Int := if j > i then j else i
def sumS (s t : S4) : S4 := nrm (s.a * t.c + t.a * s.c) (s.b * t.c + t.b * s.c) (s.c * t.c) (mx s.d t.d)
def mulS (s t : S4) : S4 := nrm (s.a * t.a + s.b * t.b * mx s.d t.d) (s.a * t.b + s.b * t.a) (s.c * t.c) (mx s.d t.d)
def negS (s : S4) : S4 := ⟨-s.a, -s.b, s.c, s.d⟩
def wholeS (s : S4) (r : Int) : Int := if 0 ≤ s.b then (s.a + r) / s.c else (s.a - r - 1) / s.c
/-- sizes -/
structure Bd (m : Nat) (s : S4) : Prop where
  a : Sm m s.a
  b : Sm m s.b
  c : Sm m s.c
  c0 : 0 < s.c
  d0 : 0 ≤ s.d
  d : Sm 20 s.d
theorem Bd.le {m n : Nat} {s : S4} (h : Bd m s) (l : m ≤ n) : Bd n s := ⟨h.a.le l, h.b.le l, h.c.le l, h.c0, h.d0, h.d⟩
theorem Bd.neg {m : Nat} {s : S4} (h : Bd m s) : Bd m (negS s) := ⟨h.a.neg, h.b.neg, h.c, h.c0, h.d0, h.d⟩
theorem g3_pos {a b c : Int} (hc : 0 < c) : 0 < g3 a b c := by
  unfold g3
  have : Int.gcd (Int.gcd a b) c ≠ 0 := fun z => by
    have := (Int.gcd_eq_zero_iff.mp z).2
    omega
  omega
theorem g3_dvd (a b c : Int) : g3 a b c ∣ c := Int.gcd_dvd_right ..
theorem nrm_c {a b c : Int} (hc : 0 < c) : 0 < c / g3 a b c := by
  have h := g3_pos (a := a) (b := b) hc
  obtain ⟨k, e⟩ := g3_dvd a b c
  rw [show c / g3 a b c = k by rw [e]; first | (rw [← e]; exact Int.ediv_eq_of_eq_mul_right (by omega) e) | exact Int.mul_ediv_cancel_left k (by omega)]
  apply Classical.byContradiction
  intro z
  have := Int.mul_nonneg (a := g3 a b c) (b := -k) (by omega) (by omega)
  rw [Int.mul_neg] at this
  omega
theorem nrm_bd {m : Nat} {a b c d : Int} (ha : Sm m a) (hb : Sm m b) (hc : Sm m c) (c0 : 0 < c) (d0 : 0 ≤ d) (hd : Sm 20 d) : Bd m (nrm a b c d) := by
  have g := g3_pos (a := a) (b := b) c0
  refine ⟨ha.div g, hb.div g, hc.div g, nrm_c c0, ?_, ?_⟩
  · show 0 ≤ (if b ≠ 0 then d else 0)
    split <;> omega
  · show Sm 20 (if b ≠ 0 then d else 0)
    split
    · exact hd
    · exact (by decide : (0 : Int).natAbs < 2 ^ 20)
theorem mx_ok {i j : Int} (h0 : 0 ≤ i) (h1 : Sm 20 i) (k0 : 0 ≤ j) (k1 : Sm 20 j) : 0 ≤ mx i j ∧ Sm 20 (mx i j) := by
  unfold mx
  split <;> constructor <;> assumption
theorem Bd.sum {m : Nat} {s t : S4} (h : Bd m s) (k : Bd m t) : Bd (2 * m + 1) (sumS s t) := by
  obtain ⟨d0, d1⟩ := mx_ok h.d0 h.d k.d0 k.d
  exact nrm_bd (((h.a.mul k.c).add (k.a.mul h.c)).le (by omega)) (((h.b.mul k.c).add (k.b.mul h.c)).le (by omega)) ((h.c.mul k.c).le (by omega)) (Int.mul_pos h.c0 k.c0) d0 d1
theorem Bd.mul {m : Nat} {s t : S4} (h : Bd m s) (k : Bd m t) : Bd (2 * m + 21) (mulS s t) := by
  obtain ⟨d0, d1⟩ := mx_ok h.d0 h.d k.d0 k.d
  refine nrm_bd ((((h.a.mul k.a).le (l := 2 * m + 20) (by omega)).add (((h.b.mul k.b).mul d1).le (by omega))).le (by omega)) (((h.a.mul k.b).add ((h.b.mul k.a).le (by omega))).le (by omega)) ((h.c.mul k.c).le (by omega)) (Int.mul_pos h.c0 k.c0) d0 d1
/-- the root that both sides come to -/
def Rn (n r : Int) : Prop := if n < 2 then r = n else Rt n r
theorem rn_unique {n r s : Int} (h : Rn n r) (k : Rn n s) : r = s := by
  unfold Rn at h k
  split at h
  · rw [if_pos (by assumption)] at k; omega
  · rw [if_neg (by assumption)] at k; exact rt_unique h k
theorem rn_ex (n : Int) : ∃ r, Rn n r := by
  unfold Rn
  split
  · exact ⟨n, rfl⟩
  · exact rt_of (by omega)
noncomputable def rF (n : Int) : Int := Classical.choose (rn_ex n)
theorem rF_ok (n : Int) : Rn n (rF n) := Classical.choose_spec (rn_ex n)
/-- no square divides it -/
def SF (d : Int) : Prop := 2 ≤ d ∧ d ≤ 1000001 ∧ ∀ t : Int, 2 ≤ t → ¬ t * t ∣ d
theorem SF.sm {d : Int} (h : SF d) : Sm 20 d := by
  obtain ⟨h0, h1, _⟩ := h
  unfold Sm
  omega
/-! asks -/
inductive Ask where
  | sign (s : S4)
  | whole (s : S4)
  | order (s t : S4)
  | less (s t : S4)
  | sum (s t : S4)
  | times (s t : S4)
  | of (s : S4)
def Ask.word : Ask → Str
  | .sign _ => "sign" | .whole _ => "whole" | .order _ _ => "order" | .less _ _ => "less" | .sum _ _ => "sum" | .times _ _ => "times" | .of _ => "of"
def Ask.row : Ask → DL.D
  | .sign s => .list [s.D] | .whole s => .list [s.D] | .order s t => .list [s.D, t.D] | .less s t => .list [s.D, t.D] | .sum s t => .list [s.D, t.D] | .times s t => .list [s.D, t.D]
  | .of s => .list [.int s.a, .int s.b, .int s.c, .int s.d]
def Ask.D (q : Ask) : DL.D := .list [.str q.word, q.row]
noncomputable def Ask.val : Ask → DL.D
  | .sign s => .int (sgn s.a s.b s.d)
  | .whole s => .int (wholeS s (rF (s.b * s.b * s.d)))
  | .order s t => .int (sgn (sumS s (negS t)).a (sumS s (negS t)).b (sumS s (negS t)).d)
  | .less s t => .int (sgn (sumS s (negS t)).a (sumS s (negS t)).b (sumS s (negS t)).d)
  | .sum s t => (sumS s t).D
  | .times s t => (mulS s t).D
  | .of s => (nrm s.a s.b s.c s.d).D
/-- sizes; of: the number under the root without a square -/
def Ask.ok : Ask → Prop
  | .sign s => Bd 960 s
  | .whole s => Bd 960 s
  | .order s t => Bd 960 s ∧ Bd 960 t
  | .less s t => Bd 960 s ∧ Bd 960 t
  | .sum s t => Bd 480 s ∧ Bd 480 t
  | .times s t => Bd 480 s ∧ Bd 480 t
  | .of s => Bd 480 s ∧ SF s.d
def Ask.isOf : Ask → Bool | .of _ => true | _ => false
/-! specs -/
abbrev iS (i : Int) : Sl := .sh (.int i)
def S_common : Spec := sp 2 (fun ss => ∃ i j : Int, ss = [iS i, iS j] ∧ 0 ≤ i ∧ 0 ≤ j) fun ss d => ∃ i j : Int, ss = [iS i, iS j] ∧ d = .int (Int.gcd i j : Nat)
def S__law_common : Spec := sp 2 (fun ss => ∃ i j : Int, ss = [iS i, iS j]) fun ss d => ∃ i j : Int, ss = [iS i, iS j] ∧ d = .int (Int.gcd i j : Nat)
def S_whole_root : Spec := sp 1 (fun ss => ∃ n : Int, ss = [iS n] ∧ Sm 1940 n) fun ss d => ∃ n r : Int, ss = [iS n] ∧ d = .int r ∧ Rn n r
def S__law_root_of : Spec := sp 1 (fun ss => ∃ n : Int, ss = [iS n] ∧ Sm 1940 n) fun ss d => ∃ n r : Int, ss = [iS n] ∧ d = .int r ∧ Rn n r
def S_root_parts : Spec := sp 1 (fun ss => ∃ n : Int, ss = [iS n] ∧ SF n) fun ss d => ∃ n : Int, ss = [iS n] ∧ d = .tuple [.int 1, .int n]
abbrev pre4 (P : S4 → Prop) (ss : List Sl) : Prop := ∃ s : S4, ss = [iS s.a, iS s.b, iS s.c, iS s.d] ∧ P s
abbrev pre1 (P : S4 → Prop) (ss : List Sl) : Prop := ∃ s : S4, ss = [.sh s.D] ∧ P s
abbrev pre2 (P : S4 → S4 → Prop) (ss : List Sl) : Prop := ∃ s t : S4, ss = [.sh s.D, .sh t.D] ∧ P s t
def S_lowest : Spec := sp 4 (pre4 fun s => 0 < s.c ∧ Sm 4000 s.a ∧ Sm 4000 s.b ∧ Sm 4000 s.c) fun ss d => pre4 (fun s => d = (nrm s.a s.b s.c s.d).D) ss
def S__law_surd : Spec := sp 4 (pre4 fun s => 0 < s.c ∧ Sm 4000 s.a ∧ Sm 4000 s.b ∧ Sm 4000 s.c) fun ss d => pre4 (fun s => d = (nrm s.a s.b s.c s.d).D) ss
def S_surd_of : Spec := sp 4 (pre4 fun s => Bd 480 s ∧ SF s.d) fun ss d => pre4 (fun s => d = (nrm s.a s.b s.c s.d).D) ss
def S_surd_sum : Spec := sp 2 (pre2 fun s t => Bd 960 s ∧ Bd 960 t) fun ss d => pre2 (fun s t => d = (sumS s t).D) ss
def S__law_own_sum : Spec := sp 2 (pre2 fun s t => Bd 960 s ∧ Bd 960 t) fun ss d => pre2 (fun s t => d = (sumS s t).D) ss
def S_surd_times : Spec := sp 2 (pre2 fun s t => Bd 960 s ∧ Bd 960 t) fun ss d => pre2 (fun s t => d = (mulS s t).D) ss
def S__law_own_times : Spec := sp 2 (pre2 fun s t => Bd 960 s ∧ Bd 960 t) fun ss d => pre2 (fun s t => d = (mulS s t).D) ss
def S_surd_turned : Spec := sp 1 (pre1 fun _ => True) fun ss d => pre1 (fun s => d = (negS s).D) ss
def S_surd_sign : Spec := sp 1 (pre1 fun s => Bd 2000 s) fun ss d => pre1 (fun s => d = .int (sgn s.a s.b s.d)) ss
def S__law_own_sign : Spec := sp 3 (fun ss => ∃ a b d : Int, ss = [iS a, iS b, iS d] ∧ Sm 2000 a ∧ Sm 2000 b ∧ Sm 2000 d) fun ss d => ∃ a b e : Int, ss = [iS a, iS b, iS e] ∧ d = .int (sgn a b e)
def S_surd_order : Spec := sp 2 (pre2 fun s t => Bd 960 s ∧ Bd 960 t) fun ss d => pre2 (fun s t => d = .int (sgn (sumS s (negS t)).a (sumS s (negS t)).b (sumS s (negS t)).d)) ss
def S_whole_part : Spec := sp 1 (pre1 fun s => Bd 960 s) fun ss d => pre1 (fun s => d = .int (wholeS s (rF (s.b * s.b * s.d)))) ss
def S__law_own_whole : Spec := sp 1 (pre1 fun s => Bd 960 s) fun ss d => pre1 (fun s => d = .int (wholeS s (rF (s.b * s.b * s.d)))) ss
def S__law_own_bag : Spec := spOwn
def S__law_draw : Spec := spDraw
def S__law_pick : Spec := sp 2 (fun ss => ∃ ds : List D, ss = [.bg, .sh (.list ds)] ∧ ds ≠ [] ∧ ds.length < 1000) fun ss d => ∃ ds : List D, ss = [.bg, .sh (.list ds)] ∧ d ∈ ds
def S__law_great : Spec := sp 2 (fun ss => ∃ n : Int, ss = [.bg, iS n] ∧ 0 < n) fun ss d => ∃ n r : Int, ss = [.bg, iS n] ∧ d = .int r ∧ 0 ≤ r ∧ r < n
def S__law_integer : Spec := sp 1 (fun ss => ss = [.bg]) fun ss d => ∃ i : Int, d = .int i ∧ -1000000000000 ≤ i ∧ i ≤ 1000000000000
def S__law_parts : Spec := sp 1 (fun ss => ∃ n : Int, ss = [iS n] ∧ 2 ≤ n ∧ n ≤ 1000001) fun ss d => ∃ n m k : Int, ss = [iS n] ∧ d = .tuple [.int m, .int k] ∧ 1 ≤ k ∧ k ≤ 1000001 ∧ ∀ t : Int, 2 ≤ t → ¬ t * t ∣ k
def S__law_square_free : Spec := sp 1 (fun ss => ss = [.bg]) fun ss d => ∃ n : Int, d = .int n ∧ SF n
def S__law_like : Spec := sp 2 (fun ss => ∃ d : D, ss = [.sh d, .sh d] ∧ Ni 20 2000000 d) fun ss d => d = .bool true
def S__law_handed : Spec := sp 2 (fun ss => ∃ n : Int, ss = [.bg, iS n] ∧ SF n) fun ss d => ∃ s : S4, d = s.D ∧ Bd 41 s
def S__law_near : Spec := sp 3 (fun ss => ∃ n k : Int, ss = [.bg, iS n, iS k] ∧ SF n ∧ 0 ≤ k ∧ k ≤ 1000) fun ss d => ∃ h k : Int, d = .tuple [.int h, .int k] ∧ 0 < h ∧ h ≤ 900000000000 ∧ 0 < k ∧ k ≤ h
def S__law_told : Spec := fun ss Q => ∃ (q : Ask) (b : Bool), ss = [.sh (.str q.word), .sh q.row, .sh (.bool b)] ∧ q.ok ∧ Q (.tuple [.str "told", q.val])
def S__law_due : Spec := fun ss Q => ∃ q : Ask, ss = [.sh (.str q.word), .sh q.row] ∧ q.ok ∧ q.isOf = false ∧ Q (.tuple [.str "told", q.val])
theorem m__law_told : ∀ ss (Q Q' : D → Prop), (∀ d, Q d → Q' d) → S__law_told ss Q → S__law_told ss Q' := fun ss Q Q' k ⟨q, b, e, h, hq⟩ => ⟨q, b, e, h, k _ hq⟩
theorem l__law_told : ∀ ss (Q : D → Prop), S__law_told ss Q → ss.length = 3 := fun ss Q ⟨q, b, e, _⟩ => by rw [e]; rfl
theorem m__law_due : ∀ ss (Q Q' : D → Prop), (∀ d, Q d → Q' d) → S__law_due ss Q → S__law_due ss Q' := fun ss Q Q' k ⟨q, e, h, h2, hq⟩ => ⟨q, e, h, h2, k _ hq⟩
theorem l__law_due : ∀ ss (Q : D → Prop), S__law_due ss Q → ss.length = 2 := fun ss Q ⟨q, e, _⟩ => by rw [e]; rfl
/-- a list of asks -/
def Asks (n : Nat) (d : D) : Prop := ∃ l : List Ask, d = .list (l.map Ask.D) ∧ l.length ≤ n ∧ ∀ q ∈ l, q.ok ∧ q.isOf = false
def S__law_near_asks : Spec := sp 2 (fun ss => ∃ n : Int, ss = [.bg, iS n] ∧ SF n) fun ss d => Asks 300 d
def S__law_plain_asks : Spec := sp 2 (fun ss => ∃ n : Int, ss = [.bg, iS n] ∧ SF n) fun ss d => Asks 300 d
def S__law_are_right : Spec := sp 2 (fun ss => ∃ d : D, ss = [.bg, .sh d] ∧ Asks 300 d) fun ss d => d = .bool true
def S__law_is_told_right : Spec := sp 2 (fun ss => ∃ n : Int, ss = [.bg, iS n] ∧ SF n) fun ss d => d = .bool true
end T
end DL
namespace DL
namespace T
open PySem L2 PySem.Spec PyProof.Rows
def g_common : SS := (fSeqS (fWhile (fCmp gGt (fN 1) (fC (.int 0))) (fPar [0, 1] (fMV (fV 1) (fMV (fBin gMod (fN 0) (fN 1)) fAN)))) (fRet (fV 0)))
abbrev N_common : List Str := ["one", "other"]
def g_whole_root : SS := (fSeqS (fIfS (fCmp gLt (fN 0) (fC (.int 2))) (fRet (fV 0)) fNext) (fSeqS (fSet 1 (fBin gShlW (fC (.int 1)) (fBin gDiv (fBin gAdd (fBits (fN 0)) (fC (.int 1))) (fC (.int 2))))) (fSeqS (fSet 2 (fBin gDiv (fBin gAdd (fN 1) (fBin gDiv (fN 0) (fN 1))) (fC (.int 2)))) (fSeqS (fWhile (fCmp gLt (fN 2) (fN 1)) (fPar [1, 2] (fMV (fV 2) (fMV (fBin gDiv (fBin gAdd (fN 2) (fBin gDiv (fN 0) (fN 2))) (fC (.int 2))) fAN)))) (fRet (fV 1))))))
abbrev N_whole_root : List Str := ["number", "root", "later"]
def g_surd_turned : SS := (fRet (fTup (fLC (fNeg (fBin gIx (fN 0) (fC (.int 0)))) (fLC (fNeg (fBin gIx (fN 0) (fC (.int 1)))) (fLC (fBin gIx (fN 0) (fC (.int 2))) (fLC (fBin gIx (fN 0) (fC (.int 3))) fLN))))))
abbrev N_surd_turned : List Str := ["one"]
def g_surd_sign : SS := (fSeqS (fPar [1, 2, 3] (fMV (fBin gIx (fN 0) (fC (.int 0))) (fMV (fBin gIx (fN 0) (fC (.int 1))) (fMV (fBin gIx (fN 0) (fC (.int 3))) fAN)))) (fSeqS (fIfS (fAnd (fCmp gGe (fN 1) (fC (.int 0))) (fCmp gGe (fN 2) (fC (.int 0)))) (fRet (fIf (fCmp gGt (fBin gAdd (fN 1) (fN 2)) (fC (.int 0))) (fC (.int 1)) (fC (.int 0)))) fNext) (fSeqS (fIfS (fAnd (fCmp gLe (fN 1) (fC (.int 0))) (fCmp gLe (fN 2) (fC (.int 0)))) (fRet (fNeg (fC (.int 1)))) fNext) (fRet (fIf (fCmp gEq (fBin (gv gGt) (fBin gMul (fN 1) (fN 1)) (fBin gMul (fBin gMul (fN 2) (fN 2)) (fN 3))) (fBin (gv gGt) (fN 1) (fC (.int 0)))) (fC (.int 1)) (fNeg (fC (.int 1))))))))
abbrev N_surd_sign : List Str := ["one", "a", "b", "d"]
def g__law_own_bag : SS := (fSeqS (fSetN 1 (fLc [2] (fSeq (fNV fScr)) (gNm 2) fYes (fCB bAbs (fLC (fCB bInt (fLC (fN 2) fLN)) fLN)))) (fSeqS (fSet 3 (fBin gAdd (fC (.int 9173)) (fCB bLen (fLC (fN 1) fLN)))) (fSeqS (fFrz 1 (fForS (fSeq (fV 1)) (gNm 2) (fSet 3 (fBin gMod (fBin gAdd (fBin gAdd (fBin gMul (fN 3) (fC (.int 69621))) (fBin gMod (fN 2) (fC (.int 2147483629)))) (fC (.int 5))) (fC (.int 2147483647)))))) (fRet (fNV (fLC (fNV (fLRev (fNV (fSeq (fN 1))))) (fLC (fC (.int 0)) (fLC (fV 3) fLN))))))))
abbrev N__law_own_bag : List Str := ["script", "cells", "cell", "mixed"]
def g__law_like : SS := (fRet (fAndV (fBin (gv gEq) (fN 0) (fN 1)) (fBin (gv gEq) (fCB bRepr (fLC (fN 0) fLN)) (fCB bRepr (fLC (fN 1) fLN)))))
abbrev N__law_like : List Str := ["told", "due"]
def g__law_common : SS := (fSeqS (fWhile (fCmp gNe (fN 1) (fC (.int 0))) (fPar [0, 1] (fMV (fV 1) (fMV (fBin gMod (fCB bInt (fLC (fN 0) fLN)) (fN 1)) fAN)))) (fRet (fCB bAbs (fLC (fN 0) fLN))))
abbrev N__law_common : List Str := ["one", "other"]
def g__law_root_of : SS := (fSeqS (fIfS (fCmp gLt (fN 0) (fC (.int 2))) (fRet (fV 0)) fNext) (fSeqS (fSet 1 (fBin gShlW (fC (.int 1)) (fBin gDiv (fBin gAdd (fBits (fCB bInt (fLC (fN 0) fLN))) (fC (.int 1))) (fC (.int 2))))) (fSeqS (fForS (fRng1 (fC (.int 2000))) (gNm 2) (fSeqS (fSet 3 (fBin gDiv (fBin gAdd (fN 1) (fBin gDiv (fN 0) (fN 1))) (fC (.int 2)))) (fSeqS (fIfS (fCmp gGe (fN 3) (fN 1)) (fRet (fV 1)) fNext) (fSet 1 (fV 3))))) (fRet (fV 1)))))
abbrev N__law_root_of : List Str := ["n", "found", "turn", "better"]
def g__law_own_sign : SS := (fSeqS (fIfS (fAnd (fCmp gGe (fN 0) (fC (.int 0))) (fCmp gGe (fN 1) (fC (.int 0)))) (fRet (fIf (fCmp gGt (fBin gAdd (fN 0) (fN 1)) (fC (.int 0))) (fC (.int 1)) (fC (.int 0)))) fNext) (fSeqS (fIfS (fAnd (fCmp gLe (fN 0) (fC (.int 0))) (fCmp gLe (fN 1) (fC (.int 0)))) (fRet (fNeg (fC (.int 1)))) fNext) (fRet (fIf (fCmp gEq (fBin (gv gGt) (fBin gMul (fN 0) (fN 0)) (fBin gMul (fBin gMul (fN 1) (fN 1)) (fN 2))) (fBin (gv gGt) (fN 0) (fC (.int 0)))) (fC (.int 1)) (fNeg (fC (.int 1)))))))
abbrev N__law_own_sign : List Str := ["a", "b", "d"]
def g_root_parts : SS := (fSeqS (fIfS (fCmp gEq (fN 0) (fC (.int 0))) (fRet (fTup (fLC (fC (.int 0)) (fLC (fC (.int 1)) fLN)))) fNext) (fSeqS (fAsg (fTup (fLC (fC (.int 1)) (fLC (fC (.int 1)) (fLC (fV 0) (fLC (fC (.int 2)) fLN))))) (gSq 4 (gsCons (gNm 1) (gsCons (gNm 2) (gsCons (gNm 3) (gsCons (gNm 4) gsNil)))))) (fSeqS (fWhile (fCmp gLe (fBin gMul (fBin gMul (fN 4) (fN 4)) (fN 4)) (fN 3)) (fSeqS (fSet 5 (fC (.int 0))) (fSeqS (fWhile (fCmp gEq (fBin gMod (fN 3) (fN 4)) (fC (.int 0))) (fPar [3, 5] (fMV (fBin gDiv (fN 3) (fN 4)) (fMV (fBin gAdd (fN 5) (fC (.int 1))) fAN)))) (fSeqS (fForS (fRng1 (fBin gDiv (fN 5) (fC (.int 2)))) (gNm 6) (fSet 1 (fBin gMul (fN 1) (fN 4)))) (fSeqS (fSet 2 (fIf (fCmp gEq (fBin gMod (fN 5) (fC (.int 2))) (fC (.int 1))) (fBin gMul (fN 2) (fN 4)) (fV 2))) (fSet 4 (fIf (fCmp gEq (fN 4) (fC (.int 2))) (fBin gAdd (fN 4) (fC (.int 1))) (fBin gAdd (fN 4) (fC (.int 2)))))))))) (fSeqS (fSet 7 (fCall S_whole_root (fAC (fV 3) fAN))) (fSeqS (fIfS (fCmp gEq (fBin gMul (fN 7) (fN 7)) (fN 3)) (fRet (fTup (fLC (fBin gMul (fN 1) (fN 7)) (fLC (fV 2) fLN)))) fNext) (fRet (fTup (fLC (fV 1) (fLC (fBin gMul (fN 2) (fN 3)) fLN)))))))))
abbrev N_root_parts : List Str := ["number", "root", "rest", "left", "p", "often", "turn", "last"]
def g_lowest : SS := (fSeqS (fIfS (fCmp gLt (fN 2) (fC (.int 0))) (fPar [0, 1, 2] (fMV (fNeg (fN 0)) (fMV (fNeg (fN 1)) (fMV (fNeg (fN 2)) fAN)))) fNext) (fSeqS (fSet 4 (fCall S_common (fAC (fCall S_common (fAC (fCB bAbs (fLC (fN 0) fLN)) (fAC (fCB bAbs (fLC (fN 1) fLN)) fAN))) (fAC (fV 2) fAN)))) (fRet (fTup (fLC (fBin gDiv (fN 0) (fN 4)) (fLC (fBin gDiv (fN 1) (fN 4)) (fLC (fBin gDiv (fN 2) (fN 4)) (fLC (fIf (fCmp gNe (fN 1) (fC (.int 0))) (fV 3) (fC (.int 0))) fLN))))))))
abbrev N_lowest : List Str := ["a", "b", "c", "d", "by"]
def g_whole_part : SS := (fSeqS (fAsg (fV 0) (gSq 4 (gsCons (gNm 1) (gsCons (gNm 2) (gsCons (gNm 3) (gsCons (gNm 4) gsNil)))))) (fSeqS (fSet 5 (fCall S_whole_root (fAC (fBin gMul (fBin gMul (fN 2) (fN 2)) (fN 4)) fAN))) (fRet (fIf (fCmp gGe (fN 2) (fC (.int 0))) (fBin gDiv (fBin gAdd (fN 1) (fN 5)) (fN 3)) (fBin gDiv (fBin gSub (fBin gSub (fN 1) (fN 5)) (fC (.int 1))) (fN 3))))))
abbrev N_whole_part : List Str := ["one", "a", "b", "c", "d", "root"]
def g__law_pick : SS := (fRet (fBin gIx (fN 1) (fCall S__law_draw (fAB 0 (fAC (fCB bLen (fLC (fN 1) fLN)) fAN)))))
abbrev N__law_pick : List Str := ["bag", "some"]
def g__law_great : SS := (fSeqS (fSet 2 (fC (.int 0))) (fSeqS (fForS (fRng1 (fC (.int 4))) (gNm 3) (fSet 2 (fBin gAdd (fBin gMul (fN 2) (fBin gPow (fC (.int 10)) (fC (.int 8)))) (fCall S__law_draw (fAB 0 (fAC (fBin gPow (fC (.int 10)) (fC (.int 8))) fAN)))))) (fRet (fBin gMod (fN 2) (fN 1)))))
abbrev N__law_great : List Str := ["bag", "below", "found", "turn"]
def g__law_parts : SS := (fSeqS (fPar [1, 2, 3] (fMV (fC (.int 1)) (fMV (fC (.int 1)) (fMV (fV 0) fAN)))) (fSeqS (fForS (fRng2 (fC (.int 2)) (fC (.int 101))) (gNm 4) (fSeqS (fWhile (fCmp gEq (fBin gMod (fN 3) (fBin gMul (fN 4) (fN 4))) (fC (.int 0))) (fPar [1, 3] (fMV (fBin gMul (fN 1) (fN 4)) (fMV (fBin gDiv (fN 3) (fBin gMul (fN 4) (fN 4))) fAN)))) (fIfS (fCmp gEq (fBin gMod (fN 3) (fN 4)) (fC (.int 0))) (fPar [2, 3] (fMV (fBin gMul (fN 2) (fN 4)) (fMV (fBin gDiv (fN 3) (fN 4)) fAN))) fNext))) (fSeqS (fSet 5 (fCall S__law_root_of (fAC (fV 3) fAN))) (fRet (fIf (fCmp gEq (fBin gMul (fN 5) (fN 5)) (fN 3)) (fTup (fLC (fBin gMul (fN 1) (fN 5)) (fLC (fV 2) fLN))) (fTup (fLC (fV 1) (fLC (fBin gMul (fN 2) (fN 3)) fLN))))))))
abbrev N__law_parts : List Str := ["d", "many", "kept", "rest", "p", "root"]
def g__law_surd : SS := (fSeqS (fSet 4 (fCall S__law_common (fAC (fCall S__law_common (fAC (fV 0) (fAC (fV 1) fAN))) (fAC (fV 2) fAN)))) (fSeqS (fSet 4 (fIf (fCmp gGt (fN 2) (fC (.int 0))) (fV 4) (fNeg (fN 4)))) (fRet (fTup (fLC (fBin gDiv (fN 0) (fN 4)) (fLC (fBin gDiv (fN 1) (fN 4)) (fLC (fBin gDiv (fN 2) (fN 4)) (fLC (fIf (fCmp gNe (fN 1) (fC (.int 0))) (fV 3) (fC (.int 0))) fLN))))))))
abbrev N__law_surd : List Str := ["a", "b", "c", "d", "common_v"]
def g__law_own_whole : SS := (fSeqS (fAsg (fV 0) (gSq 4 (gsCons (gNm 1) (gsCons (gNm 2) (gsCons (gNm 3) (gsCons (gNm 4) gsNil)))))) (fSeqS (fSet 5 (fCall S__law_root_of (fAC (fBin gMul (fBin gMul (fN 2) (fN 2)) (fN 4)) fAN))) (fRet (fBin gDiv (fBin gAdd (fN 1) (fIf (fCmp gGe (fN 2) (fC (.int 0))) (fV 5) (fBin gSub (fNeg (fN 5)) (fC (.int 1))))) (fN 3)))))
abbrev N__law_own_whole : List Str := ["one", "a", "b", "c", "d", "root"]
def g__law_near : SS := (fSeqS (fSet 3 (fCall S__law_root_of (fAC (fV 1) fAN))) (fSeqS (fPar [4, 5, 6] (fMV (fC (.int 0)) (fMV (fC (.int 1)) (fMV (fV 3) fAN)))) (fSeqS (fAsg (fTup (fLC (fC (.int 1)) (fLC (fC (.int 0)) (fLC (fV 3) (fLC (fC (.int 1)) fLN))))) (gSq 4 (gsCons (gNm 7) (gsCons (gNm 8) (gsCons (gNm 9) (gsCons (gNm 10) gsNil)))))) (fSeqS (fForS (fRng1 (fN 2)) (gNm 11) (fSeqS (fSet 4 (fBin gSub (fBin gMul (fN 6) (fN 5)) (fN 4))) (fSeqS (fSet 5 (fBin gDiv (fBin gSub (fN 1) (fBin gMul (fN 4) (fN 4))) (fN 5))) (fSeqS (fSet 6 (fBin gDiv (fBin gAdd (fN 3) (fN 4)) (fN 5))) (fSeqS (fIfS (fCmp gGt (fBin gAdd (fBin gMul (fN 6) (fN 9)) (fN 7)) (fBin gMul (fC (.int 9)) (fBin gPow (fC (.int 10)) (fC (.int 11))))) (fRet (fTup (fLC (fV 9) (fLC (fV 10) fLN)))) fNext) (fAsg (fTup (fLC (fV 9) (fLC (fV 10) (fLC (fBin gAdd (fBin gMul (fN 6) (fN 9)) (fN 7)) (fLC (fBin gAdd (fBin gMul (fN 6) (fN 10)) (fN 8)) fLN))))) (gSq 4 (gsCons (gNm 7) (gsCons (gNm 8) (gsCons (gNm 9) (gsCons (gNm 10) gsNil))))))))))) (fRet (fTup (fLC (fV 9) (fLC (fV 10) fLN))))))))
abbrev N__law_near : List Str := ["bag", "root", "steps", "whole", "m", "q", "term", "h", "k", "later_h", "later_k", "turn"]
def g_surd_of : SS := (fSeqS (fAsg (fCall S_root_parts (fAC (fV 3) fAN)) (gSq 2 (gsCons (gNm 4) (gsCons (gNm 5) gsNil)))) (fRet (fIf (fCmp gEq (fN 5) (fC (.int 1))) (fCall S_lowest (fAC (fBin gAdd (fN 0) (fBin gMul (fN 1) (fN 4))) (fAC (fC (.int 0)) (fAC (fV 2) (fAC (fC (.int 0)) fAN))))) (fCall S_lowest (fAC (fV 0) (fAC (fBin gMul (fN 1) (fN 4)) (fAC (fV 2) (fAC (fV 5) fAN))))))))
abbrev N_surd_of : List Str := ["a", "b", "c", "d", "root", "rest"]
def g_surd_sum : SS := (fSeqS (fSet 2 (fBin gAdd (fBin gMul (fBin gIx (fN 0) (fC (.int 0))) (fBin gIx (fN 1) (fC (.int 2)))) (fBin gMul (fBin gIx (fN 1) (fC (.int 0))) (fBin gIx (fN 0) (fC (.int 2)))))) (fRet (fCall S_lowest (fAC (fV 2) (fAC (fBin gAdd (fBin gMul (fBin gIx (fN 0) (fC (.int 1))) (fBin gIx (fN 1) (fC (.int 2)))) (fBin gMul (fBin gIx (fN 1) (fC (.int 1))) (fBin gIx (fN 0) (fC (.int 2))))) (fAC (fBin gMul (fBin gIx (fN 0) (fC (.int 2))) (fBin gIx (fN 1) (fC (.int 2)))) (fAC (fCB bMax2 (fLC (fBin gIx (fN 0) (fC (.int 3))) (fLC (fBin gIx (fN 1) (fC (.int 3))) fLN))) fAN)))))))
abbrev N_surd_sum : List Str := ["one", "other", "a"]
def g_surd_times : SS := (fSeqS (fSet 2 (fCB bMax2 (fLC (fBin gIx (fN 0) (fC (.int 3))) (fLC (fBin gIx (fN 1) (fC (.int 3))) fLN)))) (fSeqS (fSet 3 (fBin gAdd (fBin gMul (fBin gIx (fN 0) (fC (.int 0))) (fBin gIx (fN 1) (fC (.int 0)))) (fBin gMul (fBin gMul (fBin gIx (fN 0) (fC (.int 1))) (fBin gIx (fN 1) (fC (.int 1)))) (fN 2)))) (fRet (fCall S_lowest (fAC (fV 3) (fAC (fBin gAdd (fBin gMul (fBin gIx (fN 0) (fC (.int 0))) (fBin gIx (fN 1) (fC (.int 1)))) (fBin gMul (fBin gIx (fN 0) (fC (.int 1))) (fBin gIx (fN 1) (fC (.int 0))))) (fAC (fBin gMul (fBin gIx (fN 0) (fC (.int 2))) (fBin gIx (fN 1) (fC (.int 2)))) (fAC (fV 2) fAN))))))))
abbrev N_surd_times : List Str := ["one", "other", "d", "a"]
def g__law_square_free : SS := (fSeqS (fSet 1 (fCall S__law_draw (fAB 0 (fAC (fC (.int 4)) fAN)))) (fSeqS (fIfS (fCmp gEq (fN 1) (fC (.int 0))) (fRet (fCall S__law_pick (fAB 0 (fAC (fNV (fLC (fC (.int 2)) (fLC (fC (.int 3)) (fLC (fC (.int 5)) (fLC (fC (.int 6)) (fLC (fC (.int 7)) (fLC (fC (.int 10)) (fLC (fC (.int 11)) (fLC (fC (.int 13)) (fLC (fC (.int 21)) (fLC (fC (.int 30)) fLN))))))))))) fAN)))) fNext) (fSeqS (fIfS (fCmp gEq (fN 1) (fC (.int 1))) (fRet (fCall S__law_pick (fAB 0 (fAC (fNV (fLC (fC (.int 999997)) (fLC (fC (.int 999983)) (fLC (fC (.int 510510)) (fLC (fC (.int 30030)) (fLC (fBin gAdd (fBin gDiv (fC (.int 998001)) (fC (.int 9))) (fC (.int 2))) (fLC (fC (.int 10007)) (fLC (fBin gMul (fC (.int 97)) (fC (.int 101))) (fLC (fBin gMul (fC (.int 101)) (fC (.int 103))) fLN))))))))) fAN)))) fNext) (fSeqS (fSet 2 (fBin gIx (fCall S__law_parts (fAC (fBin gAdd (fC (.int 2)) (fCall S__law_draw (fAB 0 (fAC (fBin gSub (fBin gPow (fC (.int 10)) (fC (.int 6))) (fC (.int 1))) fAN)))) fAN)) (fC (.int 1)))) (fRet (fIf (fCmp gGt (fN 2) (fC (.int 1))) (fV 2) (fC (.int 2))))))))
abbrev N__law_square_free : List Str := ["bag", "way", "kept"]
def g__law_integer : SS := (fSeqS (fSet 1 (fCall S__law_pick (fAB 0 (fAC (fNV (fLC (fC (.int 1)) (fLC (fC (.int 3)) (fLC (fC (.int 9)) (fLC (fC (.int 60)) (fLC (fBin gPow (fC (.int 10)) (fC (.int 4))) (fLC (fBin gPow (fC (.int 10)) (fC (.int 8))) (fLC (fBin gPow (fC (.int 10)) (fC (.int 12))) (fLC (fBin gPow (fC (.int 10)) (fC (.int 12))) fLN))))))))) fAN)))) (fSeqS (fSet 2 (fCall S__law_great (fAB 0 (fAC (fBin gAdd (fN 1) (fC (.int 1))) fAN)))) (fSeqS (fIfS (fCmp gEq (fCall S__law_draw (fAB 0 (fAC (fC (.int 14)) fAN))) (fC (.int 0))) (fSet 2 (fBin gPow (fC (.int 10)) (fC (.int 12)))) fNext) (fRet (fIf (fCmp gEq (fCall S__law_draw (fAB 0 (fAC (fC (.int 2)) fAN))) (fC (.int 0))) (fNeg (fN 2)) (fV 2))))))
abbrev N__law_integer : List Str := ["bag", "size", "found"]
def g__law_own_sum : SS := (fSeqS (fAsg (fV 0) (gSq 4 (gsCons (gNm 2) (gsCons (gNm 3) (gsCons (gNm 4) (gsCons (gNm 5) gsNil)))))) (fSeqS (fAsg (fV 1) (gSq 4 (gsCons (gNm 6) (gsCons (gNm 7) (gsCons (gNm 8) (gsCons (gNm 9) gsNil)))))) (fRet (fCall S__law_surd (fAC (fBin gAdd (fBin gMul (fN 2) (fN 8)) (fBin gMul (fN 6) (fN 4))) (fAC (fBin gAdd (fBin gMul (fN 3) (fN 8)) (fBin gMul (fN 7) (fN 4))) (fAC (fBin gMul (fN 4) (fN 8)) (fAC (fCB bMax2 (fLC (fN 5) (fLC (fN 9) fLN))) fAN))))))))
abbrev N__law_own_sum : List Str := ["one", "other", "a", "b", "c", "d", "e", "f", "g", "h"]
def g__law_own_times : SS := (fSeqS (fAsg (fV 0) (gSq 4 (gsCons (gNm 2) (gsCons (gNm 3) (gsCons (gNm 4) (gsCons (gNm 5) gsNil)))))) (fSeqS (fAsg (fV 1) (gSq 4 (gsCons (gNm 6) (gsCons (gNm 7) (gsCons (gNm 8) (gsCons (gNm 9) gsNil)))))) (fSeqS (fSet 10 (fCB bMax2 (fLC (fN 5) (fLC (fN 9) fLN)))) (fRet (fCall S__law_surd (fAC (fBin gAdd (fBin gMul (fN 2) (fN 6)) (fBin gMul (fBin gMul (fN 3) (fN 7)) (fN 10))) (fAC (fBin gAdd (fBin gMul (fN 2) (fN 7)) (fBin gMul (fN 3) (fN 6))) (fAC (fBin gMul (fN 4) (fN 8)) (fAC (fV 10) fAN)))))))))
abbrev N__law_own_times : List Str := ["one", "other", "a", "b", "c", "d", "e", "f", "g", "h", "root"]
def g_surd_order : SS := (fRet (fCall S_surd_sign (fAC (fCall S_surd_sum (fAC (fV 0) (fAC (fCall S_surd_turned (fAC (fV 1) fAN)) fAN))) fAN)))
abbrev N_surd_order : List Str := ["one", "other"]
def g__law_due : SS := (fSeqS (fIfS (fCmp gEq (fN 0) (fC (.str "sign"))) (fRet (fTup (fLC (fC (.str "told")) (fLC (fCall S__law_own_sign (fAC (fBin gIx (fBin gIx (fN 1) (fC (.int 0))) (fC (.int 0))) (fAC (fBin gIx (fBin gIx (fN 1) (fC (.int 0))) (fC (.int 1))) (fAC (fBin gIx (fBin gIx (fN 1) (fC (.int 0))) (fC (.int 3))) fAN)))) fLN)))) fNext) (fSeqS (fIfS (fCmp gEq (fN 0) (fC (.str "whole"))) (fRet (fTup (fLC (fC (.str "told")) (fLC (fCall S__law_own_whole (fAC (fBin gIx (fN 1) (fC (.int 0))) fAN)) fLN)))) fNext) (fSeqS (fIfS (fCmp gEq (fN 0) (fC (.str "sum"))) (fRet (fTup (fLC (fC (.str "told")) (fLC (fCall S__law_own_sum (fAC (fBin gIx (fN 1) (fC (.int 0))) (fAC (fBin gIx (fN 1) (fC (.int 1))) fAN))) fLN)))) fNext) (fSeqS (fIfS (fCmp gEq (fN 0) (fC (.str "times"))) (fRet (fTup (fLC (fC (.str "told")) (fLC (fCall S__law_own_times (fAC (fBin gIx (fN 1) (fC (.int 0))) (fAC (fBin gIx (fN 1) (fC (.int 1))) fAN))) fLN)))) fNext) (fSeqS (fAsg (fBin gIx (fN 1) (fC (.int 1))) (gSq 4 (gsCons (gNm 2) (gsCons (gNm 3) (gsCons (gNm 4) (gsCons (gNm 5) gsNil)))))) (fSeqS (fSet 6 (fCall S__law_own_sum (fAC (fBin gIx (fN 1) (fC (.int 0))) (fAC (fTup (fLC (fNeg (fN 2)) (fLC (fNeg (fN 3)) (fLC (fV 4) (fLC (fV 5) fLN))))) fAN)))) (fRet (fTup (fLC (fC (.str "told")) (fLC (fCall S__law_own_sign (fAC (fBin gIx (fN 6) (fC (.int 0))) (fAC (fBin gIx (fN 6) (fC (.int 1))) (fAC (fBin gIx (fN 6) (fC (.int 3))) fAN)))) fLN))))))))))
abbrev N__law_due : List Str := ["word", "row", "a", "b", "c", "d", "less"]
def g__law_handed : SS := (fSeqS (fSet 2 (fCB bMax2 (fLC (fC (.int 1)) (fLC (fCB bAbs (fLC (fCall S__law_integer (fAB 0 fAN)) fLN)) fLN)))) (fSeqS (fSet 3 (fIf (fCmp gEq (fCall S__law_draw (fAB 0 (fAC (fC (.int 5)) fAN))) (fC (.int 0))) (fC (.int 0)) (fCall S__law_integer (fAB 0 fAN)))) (fRet (fCall S__law_surd (fAC (fCall S__law_integer (fAB 0 fAN)) (fAC (fV 3) (fAC (fV 2) (fAC (fV 1) fAN))))))))
abbrev N__law_handed : List Str := ["bag", "root", "c", "b"]
def q__law_near_asks_0 : SS := (fExt 2 (fNV (fLC (fNV (fLC (fC (.str "order")) (fLC (fNV (fLC (fV 17) (fLC (fV 18) fLN))) fLN))) (fLC (fNV (fLC (fC (.str "order")) (fLC (fNV (fLC (fV 18) (fLC (fV 17) fLN))) fLN))) (fLC (fNV (fLC (fC (.str "less")) (fLC (fNV (fLC (fV 18) (fLC (fV 17) fLN))) fLN))) fLN)))))
def q__law_near_asks_1 : SS := (fIfS (fCmp gLt (fN 4) (fBin gPow (fC (.int 10)) (fC (.int 10)))) (fSeqS (fSet 18 (fCall S__law_own_sum (fAC (fV 17) (fAC (fTup (fLC (fBin gMul (fN 8) (fN 4)) (fLC (fBin gMul (fNeg (fN 8)) (fN 5)) (fLC (fC (.int 1)) (fLC (fV 1) fLN))))) fAN)))) q__law_near_asks_0) fNext)
def q__law_near_asks_2 : SS := (fSeqS (fSet 17 (fCall S__law_surd (fAC (fV 14) (fAC (fV 15) (fAC (fV 16) (fAC (fV 1) fAN)))))) q__law_near_asks_1)
def q__law_near_asks_3 : SS := (fSeqS (fAsg (fCall S__law_near (fAB 0 (fAC (fV 1) (fAC (fCall S__law_draw (fAB 0 (fAC (fC (.int 16)) fAN))) fAN)))) (gSq 2 (gsCons (gNm 4) (gsCons (gNm 5) gsNil)))) q__law_near_asks_2)
def q__law_near_asks_4 : SS := (fSeqS (fPar [14, 15, 16] (fMV (fBin gSub (fCall S__law_draw (fAB 0 (fAC (fBin gPow (fC (.int 10)) (fC (.int 6))) fAN))) (fBin gPow (fC (.int 10)) (fC (.int 5)))) (fMV (fBin gSub (fCall S__law_draw (fAB 0 (fAC (fBin gPow (fC (.int 10)) (fC (.int 6))) fAN))) (fBin gPow (fC (.int 10)) (fC (.int 5)))) (fMV (fBin gAdd (fC (.int 1)) (fCall S__law_draw (fAB 0 (fAC (fC (.int 9)) fAN)))) fAN)))) q__law_near_asks_3)
def q__law_near_asks_5 : SS := (fSeqS (fExt 2 (fNV (fLC (fNV (fLC (fC (.str "order")) (fLC (fNV (fLC (fTup (fLC (fC (.int 0)) (fLC (fC (.int 1)) (fLC (fC (.int 1)) (fLC (fV 1) fLN))))) (fLC (fTup (fLC (fV 4) (fLC (fC (.int 0)) (fLC (fV 5) (fLC (fC (.int 0)) fLN))))) fLN))) fLN))) (fLC (fNV (fLC (fC (.str "order")) (fLC (fNV (fLC (fTup (fLC (fV 4) (fLC (fC (.int 0)) (fLC (fV 5) (fLC (fC (.int 0)) fLN))))) (fLC (fTup (fLC (fC (.int 0)) (fLC (fC (.int 1)) (fLC (fC (.int 1)) (fLC (fV 1) fLN))))) fLN))) fLN))) fLN)))) q__law_near_asks_4)
def q__law_near_asks_6 : SS := (fSeqS (fExt 2 (fNV (fLC (fNV (fLC (fC (.str "order")) (fLC (fNV (fLC (fV 12) (fLC (fV 11) fLN))) fLN))) (fLC (fNV (fLC (fC (.str "order")) (fLC (fNV (fLC (fV 13) (fLC (fTup (fLC (fV 10) (fLC (fC (.int 0)) (fLC (fC (.int 1)) (fLC (fC (.int 0)) fLN))))) fLN))) fLN))) (fLC (fNV (fLC (fC (.str "less")) (fLC (fNV (fLC (fV 11) (fLC (fV 12) fLN))) fLN))) fLN))))) q__law_near_asks_5)
def q__law_near_asks_7 : SS := (fSeqS (fExt 2 (fNV (fLC (fNV (fLC (fC (.str "sign")) (fLC (fNV (fLC (fV 11) fLN)) fLN))) (fLC (fNV (fLC (fC (.str "whole")) (fLC (fNV (fLC (fV 11) fLN)) fLN))) (fLC (fNV (fLC (fC (.str "whole")) (fLC (fNV (fLC (fV 13) fLN)) fLN))) (fLC (fNV (fLC (fC (.str "order")) (fLC (fNV (fLC (fV 11) (fLC (fV 12) fLN))) fLN))) fLN)))))) q__law_near_asks_6)
def q__law_near_asks_8 : SS := (fSeqS (fSet 13 (fCall S__law_surd (fAC (fBin gAdd (fBin gMul (fN 8) (fN 4)) (fBin gMul (fN 10) (fN 9))) (fAC (fBin gMul (fNeg (fN 8)) (fN 5)) (fAC (fV 9) (fAC (fV 1) fAN)))))) q__law_near_asks_7)
def q__law_near_asks_9 : SS := (fSeqS (fPar [11, 12] (fMV (fCall S__law_surd (fAC (fBin gMul (fN 8) (fN 4)) (fAC (fBin gMul (fNeg (fN 8)) (fN 5)) (fAC (fV 9) (fAC (fV 1) fAN))))) (fMV (fCall S__law_surd (fAC (fV 6) (fAC (fNeg (fN 7)) (fAC (fC (.int 1)) (fAC (fV 1) fAN))))) fAN))) q__law_near_asks_8)
def q__law_near_asks_10 : SS := (fSeqS (fPar [8, 9, 10] (fMV (fCall S__law_pick (fAB 0 (fAC (fNV (fLC (fC (.int 1)) (fLC (fNeg (fC (.int 1))) fLN))) fAN))) (fMV (fBin gAdd (fC (.int 1)) (fCall S__law_draw (fAB 0 (fAC (fC (.int 999)) fAN)))) (fMV (fBin gSub (fCall S__law_draw (fAB 0 (fAC (fC (.int 2001)) fAN))) (fC (.int 1000))) fAN)))) q__law_near_asks_9)
def q__law_near_asks_11 : SS := (fSeqS (fAsg (fCall S__law_near (fAB 0 (fAC (fV 1) (fAC (fCall S__law_pick (fAB 0 (fAC (fNV (fLC (fC (.int 1)) (fLC (fC (.int 40)) (fLC (fCall S__law_draw (fAB 0 (fAC (fC (.int 30)) fAN))) fLN)))) fAN))) fAN)))) (gSq 2 (gsCons (gNm 6) (gsCons (gNm 7) gsNil)))) q__law_near_asks_10)
def q__law_near_asks_12 : SS := (fSeqS (fAsg (fCall S__law_near (fAB 0 (fAC (fV 1) (fAC (fCall S__law_pick (fAB 0 (fAC (fNV (fLC (fC (.int 0)) (fLC (fC (.int 1)) (fLC (fC (.int 2)) (fLC (fC (.int 40)) (fLC (fC (.int 40)) (fLC (fCall S__law_draw (fAB 0 (fAC (fC (.int 30)) fAN))) fLN))))))) fAN))) fAN)))) (gSq 2 (gsCons (gNm 4) (gsCons (gNm 5) gsNil)))) q__law_near_asks_11)
def q__law_near_asks_13 : SS := (fSeqS (fForS (fRng1 (fC (.int 5))) (gNm 3) q__law_near_asks_12) (fFrz 2 (fRet (fV 2))))
def g__law_near_asks : SS := (fSeqS (fSetN 2 fLN) q__law_near_asks_13)
abbrev N__law_near_asks : List Str := ["bag", "root", "asks", "turn", "h", "k", "other_h", "other_k", "sign", "c", "whole", "one", "other", "mixed", "a", "b", "g", "few", "close"]
def g__law_told : SS := (fSeqS (fIfS (fCmp gEq (fN 0) (fC (.str "sign"))) (fRet (fTup (fLC (fC (.str "told")) (fLC (fIf (fTV (fN 2)) (fCallK S_surd_sign [0] (fAC (fBin gIx (fN 1) (fC (.int 0))) fAN)) (fCall S_surd_sign (fAC (fBin gIx (fN 1) (fC (.int 0))) fAN))) fLN)))) fNext) (fSeqS (fIfS (fCmp gEq (fN 0) (fC (.str "order"))) (fRet (fTup (fLC (fC (.str "told")) (fLC (fIf (fTV (fN 2)) (fCallK S_surd_order [1, 0] (fAC (fBin gIx (fN 1) (fC (.int 1))) (fAC (fBin gIx (fN 1) (fC (.int 0))) fAN))) (fCall S_surd_order (fAC (fBin gIx (fN 1) (fC (.int 0))) (fAC (fBin gIx (fN 1) (fC (.int 1))) fAN)))) fLN)))) fNext) (fSeqS (fIfS (fCmp gEq (fN 0) (fC (.str "whole"))) (fRet (fTup (fLC (fC (.str "told")) (fLC (fIf (fTV (fN 2)) (fCallK S_whole_part [0] (fAC (fBin gIx (fN 1) (fC (.int 0))) fAN)) (fCall S_whole_part (fAC (fBin gIx (fN 1) (fC (.int 0))) fAN))) fLN)))) fNext) (fSeqS (fIfS (fCmp gEq (fN 0) (fC (.str "less"))) (fRet (fTup (fLC (fC (.str "told")) (fLC (fCall S_surd_sign (fAC (fCall S_surd_sum (fAC (fBin gIx (fN 1) (fC (.int 0))) (fAC (fCall S_surd_turned (fAC (fBin gIx (fN 1) (fC (.int 1))) fAN)) fAN))) fAN)) fLN)))) fNext) (fSeqS (fIfS (fCmp gEq (fN 0) (fC (.str "of"))) (fRet (fTup (fLC (fC (.str "told")) (fLC (fCall S_surd_of (fAC (fBin gIx (fN 1) (fC (.int 0))) (fAC (fBin gIx (fN 1) (fC (.int 1))) (fAC (fBin gIx (fN 1) (fC (.int 2))) (fAC (fBin gIx (fN 1) (fC (.int 3))) fAN))))) fLN)))) fNext) (fSeqS (fIfS (fCmp gEq (fN 0) (fC (.str "sum"))) (fRet (fTup (fLC (fC (.str "told")) (fLC (fCall S_surd_sum (fAC (fBin gIx (fN 1) (fC (.int 0))) (fAC (fBin gIx (fN 1) (fC (.int 1))) fAN))) fLN)))) fNext) (fRet (fTup (fLC (fC (.str "told")) (fLC (fCall S_surd_times (fAC (fBin gIx (fN 1) (fC (.int 0))) (fAC (fBin gIx (fN 1) (fC (.int 1))) fAN))) fLN))))))))))
abbrev N__law_told : List Str := ["word", "row", "is_named", "error"]
def q__law_plain_asks_0 : SS := (fExt 3 (fNV (fLC (fNV (fLC (fC (.str "order")) (fLC (fNV (fLC (fV 6) (fLC (fV 11) fLN))) fLN))) (fLC (fNV (fLC (fC (.str "order")) (fLC (fNV (fLC (fV 11) (fLC (fV 6) fLN))) fLN))) (fLC (fNV (fLC (fC (.str "less")) (fLC (fNV (fLC (fV 6) (fLC (fV 11) fLN))) fLN))) fLN)))))
def q__law_plain_asks_1 : SS := (fSeqS (fApp 3 (fNV (fLC (fC (.str "order")) (fLC (fNV (fLC (fV 6) (fLC (fTup (fLC (fV 7) (fLC (fNeg (fN 8)) (fLC (fV 9) (fLC (fV 10) fLN))))) fLN))) fLN)))) q__law_plain_asks_0)
def q__law_plain_asks_2 : SS := (fSeqS (fFrz 2 (fSet 11 (fCall S__law_pick (fAB 0 (fAC (fV 2) fAN))))) q__law_plain_asks_1)
def q__law_plain_asks_3 : SS := (fSeqS (fExt 3 (fNV (fLC (fNV (fLC (fC (.str "sign")) (fLC (fNV (fLC (fV 6) fLN)) fLN))) (fLC (fNV (fLC (fC (.str "whole")) (fLC (fNV (fLC (fV 6) fLN)) fLN))) (fLC (fNV (fLC (fC (.str "whole")) (fLC (fNV (fLC (fTup (fLC (fNeg (fN 7)) (fLC (fNeg (fN 8)) (fLC (fV 9) (fLC (fV 10) fLN))))) fLN)) fLN))) (fLC (fNV (fLC (fC (.str "sign")) (fLC (fNV (fLC (fTup (fLC (fV 7) (fLC (fNeg (fN 8)) (fLC (fV 9) (fLC (fV 10) fLN))))) fLN)) fLN))) fLN)))))) q__law_plain_asks_2)
def q__law_plain_asks_4 : SS := (fSeqS (fAsg (fV 6) (gSq 4 (gsCons (gNm 7) (gsCons (gNm 8) (gsCons (gNm 9) (gsCons (gNm 10) gsNil)))))) q__law_plain_asks_3)
def q__law_plain_asks_5 : SS := (fRet (fBin gAdd (fN 3) (fNV (fLC (fNV (fLC (fC (.str "order")) (fLC (fNV (fLC (fV 6) (fLC (fV 11) fLN))) fLN))) (fLC (fNV (fLC (fC (.str "order")) (fLC (fNV (fLC (fV 11) (fLC (fV 6) fLN))) fLN))) (fLC (fNV (fLC (fC (.str "whole")) (fLC (fNV (fLC (fV 6) fLN)) fLN))) (fLC (fNV (fLC (fC (.str "whole")) (fLC (fNV (fLC (fV 11) fLN)) fLN))) fLN)))))))
def q__law_plain_asks_6 : SS := (fSeqS (fPar [6, 11] (fMV (fTup (fLC (fBin gMul (fN 13) (fBin gSub (fN 12) (fC (.int 1)))) (fLC (fC (.int 0)) (fLC (fV 12) (fLC (fC (.int 0)) fLN))))) (fMV (fTup (fLC (fBin gMul (fN 13) (fBin gAdd (fBin gSub (fN 12) (fC (.int 2))) (fBin gDiv (fN 14) (fC (.int 2))))) (fLC (fC (.int 0)) (fLC (fBin gAdd (fBin gSub (fN 12) (fC (.int 1))) (fBin gDiv (fN 14) (fC (.int 2)))) (fLC (fC (.int 0)) fLN))))) fAN))) q__law_plain_asks_5)
def q__law_plain_asks_7 : SS := (fSeqS (fPar [13, 14] (fMV (fCall S__law_pick (fAB 0 (fAC (fNV (fLC (fC (.int 1)) (fLC (fNeg (fC (.int 1))) fLN))) fAN))) (fMV (fCall S__law_draw (fAB 0 (fAC (fC (.int 3)) fAN))) fAN))) q__law_plain_asks_6)
def q__law_plain_asks_8 : SS := (fSeqS (fSet 12 (fBin gSub (fBin gPow (fC (.int 10)) (fC (.int 12))) (fCall S__law_draw (fAB 0 (fAC (fBin gPow (fC (.int 10)) (fC (.int 6))) fAN))))) q__law_plain_asks_7)
def q__law_plain_asks_9 : SS := (fSeqS (fApp 3 (fNV (fLC (fC (.str "order")) (fLC (fNV (fLC (fBin gIx (fN 2) (fC (.int 0))) (fLC (fCall S__law_surd (fAC (fBin gIx (fBin gIx (fN 2) (fC (.int 0))) (fC (.int 0))) (fAC (fBin gIx (fBin gIx (fN 2) (fC (.int 0))) (fC (.int 1))) (fAC (fBin gIx (fBin gIx (fN 2) (fC (.int 0))) (fC (.int 2))) (fAC (fV 1) fAN))))) fLN))) fLN)))) q__law_plain_asks_8)
def q__law_plain_asks_10 : SS := (fSeqS (fFrz 2 (fForS (fSeq (fV 2)) (gNm 6) q__law_plain_asks_4)) q__law_plain_asks_9)
def q__law_plain_asks_11 : SS := (fSeqS (fExt 2 (fNV (fLC (fTup (fLC (fC (.int 0)) (fLC (fC (.int 0)) (fLC (fC (.int 1)) (fLC (fC (.int 0)) fLN))))) (fLC (fV 5) (fLC (fTup (fLC (fC (.int 0)) (fLC (fBin gPow (fC (.int 10)) (fC (.int 12))) (fLC (fC (.int 1)) (fLC (fV 1) fLN))))) (fLC (fTup (fLC (fCall S__law_integer (fAB 0 fAN)) (fLC (fC (.int 0)) (fLC (fC (.int 1)) (fLC (fC (.int 0)) fLN))))) fLN)))))) q__law_plain_asks_10)
def q__law_plain_asks_12 : SS := (fSeqS (fSet 5 (fCall S__law_surd (fAC (fBin gSub (fNeg (fC (.int 1))) (fCall S__law_draw (fAB 0 (fAC (fC (.int 30)) fAN)))) (fAC (fC (.int 0)) (fAC (fBin gAdd (fC (.int 2)) (fCall S__law_draw (fAB 0 (fAC (fC (.int 9)) fAN)))) (fAC (fC (.int 0)) fAN)))))) q__law_plain_asks_11)
def g__law_plain_asks : SS := (fSeqS (fPar [2, 3] (fMN (fLc [4] (fRng1 (fC (.int 4))) (gNm 4) fYes (fCall S__law_handed (fAB 0 (fAC (fV 1) fAN)))) (fMN fLN fAN))) q__law_plain_asks_12)
abbrev N__law_plain_asks : List Str := ["bag", "root", "some", "asks", "turn", "few", "one", "a", "b", "c", "d", "other", "far", "sign", "more"]
def q__law_are_right_0 : SS := (fIfS (fNot (fTV (fCall S__law_like (fAC (fCall S__law_told (fAC (fBin gIx (fBin gIx (fN 1) (fN 7)) (fC (.int 0))) (fAC (fBin gIx (fBin gIx (fN 1) (fN 7)) (fC (.int 1))) (fAC (fBin (gv gEq) (fBin gMod (fCB bInt (fLC (fBin gAdd (fN 7) (fN 6)) fLN)) (fC (.int 2))) (fC (.int 0))) fAN)))) (fAC (fBin gIx (fN 2) (fN 7)) fAN))))) (fRet (fC (.bool false))) fNext)
def q__law_are_right_1 : SS := (fIfS (fNot (fTV (fCall S__law_like (fAC (fCall S__law_told (fAC (fBin gIx (fBin gIx (fN 1) (fN 7)) (fC (.int 0))) (fAC (fBin gIx (fBin gIx (fN 1) (fN 7)) (fC (.int 1))) (fAC (fBin (gv gEq) (fBin gMod (fCB bInt (fLC (fBin gAdd (fN 7) (fN 6)) fLN)) (fC (.int 2))) (fC (.int 1))) fAN)))) (fAC (fBin gIx (fN 2) (fN 7)) fAN))))) (fRet (fC (.bool false))) fNext)
def q__law_are_right_2 : SS := (fSeqS (fForS (fSeq (fNV (fLRev (fNV (fLRng1 (fCB bLen (fLC (fN 1) fLN))))))) (gNm 7) q__law_are_right_1) (fRet (fBin (gv gEq) (fCB bRepr (fLC (fN 1) fLN)) (fN 5))))
def q__law_are_right_3 : SS := (fSeqS (fForS (fSeq (fNV (fLRng1 (fCB bLen (fLC (fN 1) fLN))))) (gNm 7) q__law_are_right_0) q__law_are_right_2)
def q__law_are_right_4 : SS := (fSeqS (fPar [5, 6] (fMV (fCB bRepr (fLC (fN 1) fLN)) (fMV (fCall S__law_draw (fAB 0 (fAC (fC (.int 2)) fAN))) fAN))) q__law_are_right_3)
def g__law_are_right : SS := (fSeqS (fSetN 2 (fLc [3, 4] (fSeq (fV 1)) (gSq 2 (gsCons (gNm 3) (gsCons (gNm 4) gsNil))) fYes (fCall S__law_due (fAC (fV 3) (fAC (fV 4) fAN))))) q__law_are_right_4)
abbrev N__law_are_right : List Str := ["bag", "asks", "dues", "word", "row", "kept", "turn", "at"]
def q__law_is_told_right_0 : SS := (fFrz 15 (fIfS (fNot (fTV (fCall S__law_are_right (fAB 0 (fAC (fV 15) fAN))))) (fRet (fC (.bool false))) fNext))
def q__law_is_told_right_1 : SS := (fSeqS (fIfS (fCmp gLt (fCB bAbs (fLC (fN 6) fLN)) (fBin gPow (fC (.int 10)) (fC (.int 12)))) (fExt 15 (fNV (fLC (fNV (fLC (fC (.str "order")) (fLC (fNV (fLC (fV 4) (fLC (fTup (fLC (fV 6) (fLC (fC (.int 0)) (fLC (fC (.int 1)) (fLC (fC (.int 0)) fLN))))) fLN))) fLN))) (fLC (fNV (fLC (fC (.str "order")) (fLC (fNV (fLC (fTup (fLC (fBin gAdd (fN 6) (fC (.int 1))) (fLC (fC (.int 0)) (fLC (fC (.int 1)) (fLC (fC (.int 0)) fLN))))) (fLC (fV 4) fLN))) fLN))) fLN)))) fNext) q__law_is_told_right_0)
def q__law_is_told_right_2 : SS := (fSeqS (fSetN 15 (fLC (fNV (fLC (fC (.str "sign")) (fLC (fNV (fLC (fV 4) fLN)) fLN))) (fLC (fNV (fLC (fC (.str "whole")) (fLC (fNV (fLC (fV 4) fLN)) fLN))) (fLC (fNV (fLC (fC (.str "order")) (fLC (fNV (fLC (fV 4) (fLC (fV 14) fLN))) fLN))) (fLC (fNV (fLC (fC (.str "order")) (fLC (fNV (fLC (fV 14) (fLC (fV 4) fLN))) fLN))) (fLC (fNV (fLC (fC (.str "order")) (fLC (fNV (fLC (fV 4) (fLC (fV 4) fLN))) fLN))) fLN)))))) q__law_is_told_right_1)
def q__law_is_told_right_3 : SS := (fSeqS (fSet 6 (fCall S__law_own_whole (fAC (fV 4) fAN))) q__law_is_told_right_2)
def q__law_is_told_right_4 : SS := (fSeqS (fPar [14, 4] (fMV (fV 4) (fMV (fBin gIx (fN 3) (fC (.int 1))) fAN))) q__law_is_told_right_3)
def q__law_is_told_right_5 : SS := (fSeqS (fIfS (fNot (fTV (fCall S__law_like (fAC (fV 3) (fAC (fV 13) fAN))))) (fRet (fC (.bool false))) fNext) q__law_is_told_right_4)
def q__law_is_told_right_6 : SS := (fSeqS (fPar [3, 13] (fMV (fCall S__law_told (fAC (fV 11) (fAC (fNV (fLC (fV 4) (fLC (fV 12) fLN))) (fAC (fC (.bool false)) fAN)))) (fMV (fCall S__law_due (fAC (fV 11) (fAC (fNV (fLC (fV 4) (fLC (fV 12) fLN))) fAN))) fAN))) q__law_is_told_right_5)
def q__law_is_told_right_7 : SS := (fSeqS (fSet 12 (fIf (fCmp gNe (fN 12) (fN 4)) (fCall S__law_surd (fAC (fBin gIx (fN 12) (fC (.int 0))) (fAC (fBin gIx (fN 12) (fC (.int 1))) (fAC (fBin gIx (fN 12) (fC (.int 2))) (fAC (fV 5) fAN))))) (fV 4))) q__law_is_told_right_6)
def q__law_is_told_right_8 : SS := (fSeqS (fSet 12 (fCall S__law_pick (fAB 0 (fAC (fNV (fLC (fV 4) (fLC (fTup (fLC (fBin gMul (fN 10) (fN 8)) (fLC (fBin gMul (fNeg (fN 10)) (fN 9)) (fLC (fBin gAdd (fC (.int 1)) (fCall S__law_draw (fAB 0 (fAC (fC (.int 2)) fAN)))) (fLC (fV 5) fLN))))) fLN))) fAN)))) q__law_is_told_right_7)
def q__law_is_told_right_9 : SS := (fSeqS (fSet 11 (fCall S__law_pick (fAB 0 (fAC (fNV (fLC (fC (.str "times")) (fLC (fC (.str "sum")) (fLC (fC (.str "times")) fLN)))) fAN)))) q__law_is_told_right_8)
def q__law_is_told_right_10 : SS := (fSeqS (fSet 10 (fCall S__law_pick (fAB 0 (fAC (fNV (fLC (fC (.int 1)) (fLC (fNeg (fC (.int 1))) fLN))) fAN)))) q__law_is_told_right_9)
def q__law_is_told_right_11 : SS := (fSeqS (fAsg (fCall S__law_near (fAB 0 (fAC (fV 5) (fAC (fCall S__law_pick (fAB 0 (fAC (fNV (fLC (fC (.int 1)) (fLC (fC (.int 3)) (fLC (fC (.int 12)) (fLC (fC (.int 40)) fLN))))) fAN))) fAN)))) (gSq 2 (gsCons (gNm 8) (gsCons (gNm 9) gsNil)))) q__law_is_told_right_10)
def q__law_is_told_right_12 : SS := (fSeqS (fForS (fRng1 (fC (.int 4))) (gNm 7) q__law_is_told_right_11) (fRet (fC (.bool true))))
def q__law_is_told_right_13 : SS := (fSeqS (fPar [4, 5, 6] (fMV (fBin gIx (fN 3) (fC (.int 1))) (fMV (fBin gIx (fN 2) (fC (.int 3))) (fMV (fC (.int 0)) fAN)))) q__law_is_told_right_12)
def q__law_is_told_right_14 : SS := (fSeqS (fIfS (fNot (fTV (fCall S__law_like (fAC (fV 3) (fAC (fTup (fLC (fC (.str "told")) (fLC (fCall S__law_surd (fAC (fBin gIx (fN 2) (fC (.int 0))) (fAC (fBin gIx (fN 2) (fC (.int 1))) (fAC (fBin gIx (fN 2) (fC (.int 2))) (fAC (fBin gIx (fN 2) (fC (.int 3))) fAN))))) fLN))) fAN))))) (fRet (fC (.bool false))) fNext) q__law_is_told_right_13)
def q__law_is_told_right_15 : SS := (fSeqS (fFrz 2 (fSet 3 (fCall S__law_told (fAC (fC (.str "of")) (fAC (fV 2) (fAC (fC (.bool false)) fAN)))))) q__law_is_told_right_14)
def q__law_is_told_right_16 : SS := (fSeqS (fIfS (fNot (fCmp gEq (fCall S__law_draw (fAB 0 (fAC (fC (.int 3)) fAN))) (fC (.int 0)))) (fSetIx 2 (fV 1) (fC (.int 3))) fNext) q__law_is_told_right_15)
def g__law_is_told_right : SS := (fSeqS (fSetN 2 (fLC (fCall S__law_integer (fAB 0 fAN)) (fLC (fBin gSub (fBin gPow (fC (.int 10)) (fC (.int 12))) (fCall S__law_draw (fAB 0 (fAC (fC (.int 9)) fAN)))) (fLC (fBin gAdd (fC (.int 1)) (fCall S__law_draw (fAB 0 (fAC (fC (.int 5)) fAN)))) (fLC (fBin gSub (fBin gPow (fC (.int 10)) (fC (.int 6))) (fC (.int 17))) fLN))))) q__law_is_told_right_16)
abbrev N__law_is_told_right : List Str := ["bag", "root", "row", "found", "at", "field", "great", "turn", "h", "k", "sign", "word", "other", "due", "ahead", "asks"]
def q_law_0 : SS := (fRet (fCall S__law_is_told_right (fAB 1 (fAC (fV 2) fAN))))
def q_law_1 : SS := (fSeqS (fIfS (fNot (fTV (fCall S__law_are_right (fAB 1 (fAC (fCall S__law_near_asks (fAB 1 (fAC (fV 2) fAN))) fAN))))) (fRet (fC (.bool false))) fNext) q_law_0)
def q_law_2 : SS := (fSeqS (fIfS (fNot (fTV (fCall S__law_are_right (fAB 1 (fAC (fCall S__law_plain_asks (fAB 1 (fAC (fV 2) fAN))) fAN))))) (fRet (fC (.bool false))) fNext) q_law_1)
def g_law : SS := (fSeqS (fSet 2 (fCall S__law_square_free (fAB 1 fAN))) q_law_2)
abbrev N_law : List Str := ["script", "bag", "root"]
end T
end DL
namespace DL
namespace T
open PySem L2 PySem.Spec PyProof.Rows
theorem r_common : ∀ ss (Q : D → Prop), S_common ss Q → g_common (endsOf Q) (initE N_common ss) := by
  rintro ss Q ⟨_, ⟨i, j, rfl, hi, hj⟩, hq⟩
  have hq' := fun d e => hq d ⟨i, j, rfl, e⟩
  simp only [N_common, initE, List.length_cons, List.length_nil, Nat.reduceAdd, Nat.reduceSub, List.replicate, List.cons_append, List.nil_append, List.append_nil]
  simp only [g_common, fSeqS, fSet, fSetN, fRet, fIfS, fNext, fBreak, fCont, fNever, fBin, fCmp, fV, fN, fC, lk, lk_z, lk_s, gAdd, gSub, gMul, gDiv, gMod, gPow, gShl, gShlW, gShr, gv, gLt, gLe, gGt, gGe, gEq, gNe, gIx, fNeg, fTV, fNot, fAnd, fOr, fAndV, fOrV, fNotV, fIf, fLN, fLC, fAN, fAC, fAB, fNV, fTup, fCB, bInt, bAbs, bLen, bMax2, bMin2, bTuple, fSeq, seqOf, fCall, fCallK, fAsg, gNm, gsNil, gsCons, gTpl, gSq, fPar, fMV, fMN, setAll, fApp, fExt, fSetIx, fFrz, fForS, fRng1, fRng2, fBits, List.set_cons_zero, List.set_cons_succ, List.length_cons, List.length_nil, endsOf, decide_eq_true_eq, true_and, and_true, at0, at1, at2, at3, at4, Bool.not_eq_true', decide_eq_false_iff_not, lg2, Int.reduceLT, ↓reduceIte]
  refine while_of (fun m ρ => ∃ x y : Int, ρ = [iS x, iS y] ∧ 0 ≤ x ∧ 0 ≤ y ∧ Int.gcd x y = Int.gcd i j ∧ m = y.toNat) ?_ _ _ ⟨i, j, rfl, hi, hj, rfl, rfl⟩
  rintro m ρ ⟨x, y, rfl, hx, hy, hg, rfl⟩ K hK
  simp only [fSeqS, fSet, fSetN, fRet, fIfS, fNext, fBreak, fCont, fNever, fBin, fCmp, fV, fN, fC, lk, lk_z, lk_s, gAdd, gSub, gMul, gDiv, gMod, gPow, gShl, gShlW, gShr, gv, gLt, gLe, gGt, gGe, gEq, gNe, gIx, fNeg, fTV, fNot, fAnd, fOr, fAndV, fOrV, fNotV, fIf, fLN, fLC, fAN, fAC, fAB, fNV, fTup, fCB, bInt, bAbs, bLen, bMax2, bMin2, bTuple, fSeq, seqOf, fCall, fCallK, fAsg, gNm, gsNil, gsCons, gTpl, gSq, fPar, fMV, fMN, setAll, fApp, fExt, fSetIx, fFrz, fForS, fRng1, fRng2, fBits, List.set_cons_zero, List.set_cons_succ, List.length_cons, List.length_nil, endsOf, decide_eq_true_eq, true_and, and_true, at0, at1, at2, at3, at4, Bool.not_eq_true', decide_eq_false_iff_not, lg2, Int.reduceLT, ↓reduceIte]
  split
  · rename_i h
    refine hK _ _ ?_ ⟨y, x % y, rfl, hy, Int.emod_nonneg x (by omega), by rw [gcd_emod]; exact hg, rfl⟩
    have := Int.emod_lt_of_pos x h
    have := Int.emod_nonneg x (b := y) (by omega)
    omega
  · refine hq' _ ?_
    have : y = 0 := by omega
    subst this
    rw [← hg]
    simp
    omega
theorem fmod_small (x : Int) {y : Int} (h : y < 0) : (x.fmod y).natAbs < y.natAbs := by
  have e : x.fmod y = -((-x).fmod (-y)) := by
    have := Int.neg_fmod_neg (a := x) (b := y)
    omega
  have e2 : (-x).fmod (-y) = (-x) % (-y) := Int.fmod_eq_emod_of_nonneg _ (by omega)
  have := Int.emod_nonneg (-x) (b := -y) (by omega)
  have := Int.emod_lt_of_pos (-x) (b := -y) (by omega)
  omega
theorem r__law_common : ∀ ss (Q : D → Prop), S__law_common ss Q → g__law_common (endsOf Q) (initE N__law_common ss) := by
  rintro ss Q ⟨_, ⟨i, j, rfl⟩, hq⟩
  have hq' := fun d e => hq d ⟨i, j, rfl, e⟩
  simp only [N__law_common, initE, List.length_cons, List.length_nil, Nat.reduceAdd, Nat.reduceSub, List.replicate, List.cons_append, List.nil_append, List.append_nil]
  simp only [g__law_common, fSeqS, fSet, fSetN, fRet, fIfS, fNext, fBreak, fCont, fNever, fBin, fCmp, fV, fN, fC, lk, lk_z, lk_s, gAdd, gSub, gMul, gDiv, gMod, gPow, gShl, gShlW, gShr, gv, gLt, gLe, gGt, gGe, gEq, gNe, gIx, fNeg, fTV, fNot, fAnd, fOr, fAndV, fOrV, fNotV, fIf, fLN, fLC, fAN, fAC, fAB, fNV, fTup, fCB, bInt, bAbs, bLen, bMax2, bMin2, bTuple, fSeq, seqOf, fCall, fCallK, fAsg, gNm, gsNil, gsCons, gTpl, gSq, fPar, fMV, fMN, setAll, fApp, fExt, fSetIx, fFrz, fForS, fRng1, fRng2, fBits, List.set_cons_zero, List.set_cons_succ, List.length_cons, List.length_nil, endsOf, decide_eq_true_eq, true_and, and_true, at0, at1, at2, at3, at4, Bool.not_eq_true', decide_eq_false_iff_not, lg2, Int.reduceLT, ↓reduceIte]
  refine while_of (fun m ρ => ∃ x y : Int, ρ = [iS x, iS y] ∧ Int.gcd x y = Int.gcd i j ∧ m = y.natAbs) ?_ _ _ ⟨i, j, rfl, rfl, rfl⟩
  rintro m ρ ⟨x, y, rfl, hg, rfl⟩ K hK
  simp only [fSeqS, fSet, fSetN, fRet, fIfS, fNext, fBreak, fCont, fNever, fBin, fCmp, fV, fN, fC, lk, lk_z, lk_s, gAdd, gSub, gMul, gDiv, gMod, gPow, gShl, gShlW, gShr, gv, gLt, gLe, gGt, gGe, gEq, gNe, gIx, fNeg, fTV, fNot, fAnd, fOr, fAndV, fOrV, fNotV, fIf, fLN, fLC, fAN, fAC, fAB, fNV, fTup, fCB, bInt, bAbs, bLen, bMax2, bMin2, bTuple, fSeq, seqOf, fCall, fCallK, fAsg, gNm, gsNil, gsCons, gTpl, gSq, fPar, fMV, fMN, setAll, fApp, fExt, fSetIx, fFrz, fForS, fRng1, fRng2, fBits, List.set_cons_zero, List.set_cons_succ, List.length_cons, List.length_nil, endsOf, decide_eq_true_eq, true_and, and_true, at0, at1, at2, at3, at4, Bool.not_eq_true', decide_eq_false_iff_not, lg2, Int.reduceLT, ↓reduceIte]
  split
  · rename_i h
    split
    · rename_i h2
      refine hK _ _ ?_ ⟨y, x % y, rfl, by rw [gcd_emod]; exact hg, rfl⟩
      have := Int.emod_lt_of_pos x h2
      have := Int.emod_nonneg x (b := y) (by omega)
      omega
    · exact ⟨h, hK _ _ (fmod_small x (by omega)) ⟨y, x.fmod y, rfl, by rw [gcd_fmod]; exact hg, rfl⟩⟩
  · refine hq' _ ?_
    have : y = 0 := by omega
    subst this
    rw [← hg]
    simp
    split <;> omega
theorem r_surd_turned : ∀ ss (Q : D → Prop), S_surd_turned ss Q → g_surd_turned (endsOf Q) (initE N_surd_turned ss) := by
  rintro ss Q ⟨_, ⟨s, rfl, _⟩, hq⟩
  have hq' := fun d e => hq d ⟨s, rfl, e⟩
  simp only [N_surd_turned, S4.D, initE, List.length_cons, List.length_nil, Nat.reduceAdd, Nat.reduceSub, List.replicate, List.cons_append, List.nil_append, List.append_nil]
  simp only [g_surd_turned, fSeqS, fSet, fSetN, fRet, fIfS, fNext, fBreak, fCont, fNever, fBin, fCmp, fV, fN, fC, lk, lk_z, lk_s, gAdd, gSub, gMul, gDiv, gMod, gPow, gShl, gShlW, gShr, gv, gLt, gLe, gGt, gGe, gEq, gNe, gIx, fNeg, fTV, fNot, fAnd, fOr, fAndV, fOrV, fNotV, fIf, fLN, fLC, fAN, fAC, fAB, fNV, fTup, fCB, bInt, bAbs, bLen, bMax2, bMin2, bTuple, fSeq, seqOf, fCall, fCallK, fAsg, gNm, gsNil, gsCons, gTpl, gSq, fPar, fMV, fMN, setAll, fApp, fExt, fSetIx, fFrz, fForS, fRng1, fRng2, fBits, List.set_cons_zero, List.set_cons_succ, List.length_cons, List.length_nil, endsOf, decide_eq_true_eq, true_and, and_true, at0, at1, at2, at3, at4, Bool.not_eq_true', decide_eq_false_iff_not, lg2, Int.reduceLT, ↓reduceIte]
  exact hq' _ rfl
end T
end DL
namespace DL
namespace T
open PySem L2 PySem.Spec PyProof.Rows
theorem shl1 {b : Nat} (h : b ≤ 100000) : CShl 1 ((b : Nat) : Int) := by
  refine ⟨by omega, ?_⟩
  have : Builtin.Int.intBits 1 = 1 := by decide
  rw [this]
  omega
theorem half_bits (n : Int) (h : 2 ≤ n) (hs : Sm 1940 n) {s : Int} (k : Rt n s) : ∃ b : Nat, ((Builtin.Int.intBits n : Nat) + 1 : Int) / 2 = (b : Nat) ∧ b ≤ 970 ∧ s < 2 ^ b := by
  have e : ((n.toNat : Nat) : Int) = n := Int.toNat_of_nonneg (by omega)
  have hb : Builtin.Int.intBits n ≤ 1940 := by
    rw [← e]
    refine bits_le (by decide) ?_
    have : n.natAbs = n.toNat := by omega
    unfold Sm at hs
    rwa [this] at hs
  refine ⟨(Builtin.Int.intBits n + 1) / 2, by omega, by omega, ?_⟩
  rw [← e] at k
  refine rt_first k _ ?_
  rw [e]
  omega
theorem rn_of {n s : Int} (h : ¬ n < 2) (k : Rt n s) : Rn n s := by
  unfold Rn
  rw [if_neg h]
  exact k
theorem rt_sm {n s : Int} (h : Rt n s) (k : Sm 1940 n) : Sm 1940 s := by
  obtain ⟨h0, h1, h2⟩ := h
  have : s ≤ n ∨ s ≤ 1 := by
    by_cases z : s ≤ 1
    · exact .inr z
    · refine .inl ?_
      have := Int.mul_le_mul_of_nonneg_left (a := 1) (b := s) (c := s) (by omega) h0
      omega
  unfold Sm at *
  have : 1 < 2 ^ 1940 := Nat.one_lt_two_pow (by decide)
  omega
theorem r_whole_root : ∀ ss (Q : D → Prop), S_whole_root ss Q → g_whole_root (endsOf Q) (initE N_whole_root ss) := by
  rintro ss Q ⟨_, ⟨n, rfl, hs⟩, hq⟩
  have hq' := fun r (h : Rn n r) => hq _ ⟨n, r, rfl, rfl, h⟩
  simp only [N_whole_root, initE, List.length_cons, List.length_nil, Nat.reduceAdd, Nat.reduceSub, List.replicate, List.cons_append, List.nil_append, List.append_nil]
  simp only [g_whole_root, fSeqS, fSet, fSetN, fRet, fIfS, fNext, fBreak, fCont, fNever, fBin, fCmp, fV, fN, fC, lk, lk_z, lk_s, gAdd, gSub, gMul, gDiv, gMod, gPow, gShl, gShlW, gShr, gv, gLt, gLe, gGt, gGe, gEq, gNe, gIx, fNeg, fTV, fNot, fAnd, fOr, fAndV, fOrV, fNotV, fIf, fLN, fLC, fAN, fAC, fAB, fNV, fTup, fCB, bInt, bAbs, bLen, bMax2, bMin2, bTuple, fSeq, seqOf, fCall, fCallK, fAsg, gNm, gsNil, gsCons, gTpl, gSq, fPar, fMV, fMN, setAll, fApp, fExt, fSetIx, fFrz, fForS, fRng1, fRng2, fBits, List.set_cons_zero, List.set_cons_succ, List.length_cons, List.length_nil, endsOf, decide_eq_true_eq, true_and, and_true, at0, at1, at2, at3, at4, Bool.not_eq_true', decide_eq_false_iff_not, lg2, Int.reduceLT, ↓reduceIte]
  split
  · rename_i h
    exact hq' n (by unfold Rn; rw [if_pos h])
  · rename_i h
    obtain ⟨s, hr⟩ := rt_of (n := n) (by omega)
    obtain ⟨b, e, hb, hb2⟩ := half_bits n (by omega) hs hr
    have p0 := rt_pos hr (by omega)
    rw [e, Int.one_mul, Int.toNat_natCast]
    have hp : (0 : Int) < 2 ^ b := Int.pow_pos (by decide)
    have sb : Sm 970 (2 ^ b - 1) := by
      refine Sm.nat (by omega) ?_
      have : (2 : Int) ^ b ≤ 2 ^ 970 := by exact_mod_cast Nat.pow_le_pow_right (by decide : 0 < 2) hb
      omega
    have lg : ∀ r : Int, 0 < r → r ≤ 2 ^ b → r.natAbs.log2 < 9000 := fun r h0 h1 => by
      refine Sm.log (k := 971) ?_
      refine Sm.nat (by omega) ?_
      have : (2 : Int) ^ b ≤ 2 ^ 970 := by exact_mod_cast Nat.pow_le_pow_right (by decide : 0 < 2) hb
      have : (2 : Int) ^ 971 = 2 ^ 970 * 2 := Int.pow_succ ..
      have : (0 : Int) < 2 ^ 970 := Int.pow_pos (by decide)
      omega
    refine ⟨shl1 (by omega), lg _ hp (Int.le_refl _), ?_⟩
    rw [if_pos hp]
    generalize (2 : Int) ^ b = B at hp lg hb2
    refine while_of (fun m ρ => ∃ r : Int, ρ = [iS n, iS r, iS ((r + n / r) / 2)] ∧ s ≤ r ∧ r ≤ B ∧ m = r.toNat) ?_ _ _ ⟨B, rfl, by omega, Int.le_refl _, rfl⟩
    rintro m ρ ⟨r, rfl, hsr, hrB, rfl⟩ K hK
    have up := rt_up hr (r := r) (by omega)
    simp only [fSeqS, fSet, fSetN, fRet, fIfS, fNext, fBreak, fCont, fNever, fBin, fCmp, fV, fN, fC, lk, lk_z, lk_s, gAdd, gSub, gMul, gDiv, gMod, gPow, gShl, gShlW, gShr, gv, gLt, gLe, gGt, gGe, gEq, gNe, gIx, fNeg, fTV, fNot, fAnd, fOr, fAndV, fOrV, fNotV, fIf, fLN, fLC, fAN, fAC, fAB, fNV, fTup, fCB, bInt, bAbs, bLen, bMax2, bMin2, bTuple, fSeq, seqOf, fCall, fCallK, fAsg, gNm, gsNil, gsCons, gTpl, gSq, fPar, fMV, fMN, setAll, fApp, fExt, fSetIx, fFrz, fForS, fRng1, fRng2, fBits, List.set_cons_zero, List.set_cons_succ, List.length_cons, List.length_nil, endsOf, decide_eq_true_eq, true_and, and_true, at0, at1, at2, at3, at4, Bool.not_eq_true', decide_eq_false_iff_not, lg2, Int.reduceLT, ↓reduceIte]
    split
    · rename_i lt
      have p1 : 0 < (r + n / r) / 2 := by omega
      refine ⟨lg _ p1 (by omega), ?_⟩
      rw [if_pos p1]
      exact hK _ _ (by omega) ⟨_, rfl, up, by omega, rfl⟩
    · rename_i ge
      refine hq' _ (rn_of h ?_)
      rw [rt_stop hr (by omega) hsr (by omega)]
      exact hr
theorem r__law_root_of : ∀ ss (Q : D → Prop), S__law_root_of ss Q → g__law_root_of (endsOf Q) (initE N__law_root_of ss) := by
  rintro ss Q ⟨_, ⟨n, rfl, hs⟩, hq⟩
  have hq' := fun r (h : Rn n r) => hq _ ⟨n, r, rfl, rfl, h⟩
  simp only [N__law_root_of, initE, List.length_cons, List.length_nil, Nat.reduceAdd, Nat.reduceSub, List.replicate, List.cons_append, List.nil_append, List.append_nil]
  simp only [g__law_root_of, fSeqS, fSet, fSetN, fRet, fIfS, fNext, fBreak, fCont, fNever, fBin, fCmp, fV, fN, fC, lk, lk_z, lk_s, gAdd, gSub, gMul, gDiv, gMod, gPow, gShl, gShlW, gShr, gv, gLt, gLe, gGt, gGe, gEq, gNe, gIx, fNeg, fTV, fNot, fAnd, fOr, fAndV, fOrV, fNotV, fIf, fLN, fLC, fAN, fAC, fAB, fNV, fTup, fCB, bInt, bAbs, bLen, bMax2, bMin2, bTuple, fSeq, seqOf, fCall, fCallK, fAsg, gNm, gsNil, gsCons, gTpl, gSq, fPar, fMV, fMN, setAll, fApp, fExt, fSetIx, fFrz, fForS, fRng1, fRng2, fBits, List.set_cons_zero, List.set_cons_succ, List.length_cons, List.length_nil, endsOf, decide_eq_true_eq, true_and, and_true, at0, at1, at2, at3, at4, Bool.not_eq_true', decide_eq_false_iff_not, lg2, Int.reduceLT, ↓reduceIte]
  split
  · rename_i h
    exact hq' n (by unfold Rn; rw [if_pos h])
  · rename_i h
    obtain ⟨s, hr⟩ := rt_of (n := n) (by omega)
    obtain ⟨b, e, hb, hb2⟩ := half_bits n (by omega) hs hr
    have p0 := rt_pos hr (by omega)
    rw [e, Int.one_mul, Int.toNat_natCast]
    have hp : (0 : Int) < 2 ^ b := Int.pow_pos (by decide)
    have lg : ∀ r : Int, 0 < r → r ≤ 2 ^ b → r.natAbs.log2 < 9000 := fun r h0 h1 => by
      refine Sm.log (k := 971) ?_
      refine Sm.nat (by omega) ?_
      have : (2 : Int) ^ b ≤ 2 ^ 970 := by exact_mod_cast Nat.pow_le_pow_right (by decide : 0 < 2) hb
      have : (2 : Int) ^ 971 = 2 ^ 970 * 2 := Int.pow_succ ..
      have : (0 : Int) < 2 ^ 970 := Int.pow_pos (by decide)
      omega
    have hB : (2 : Int) ^ b ≤ 2 ^ 1999 := by exact_mod_cast Nat.pow_le_pow_right (by decide : 0 < 2) (by omega : b ≤ 1999)
    refine ⟨shl1 (by omega), by decide, by decide, ?_⟩
    generalize (2 : Int) ^ b = B at hp lg hb2 hB
    refine for_of (fun ds ρ => ∃ (r : Int) (t u : Sl), ρ = [iS n, iS r, t, u] ∧ s ≤ r ∧ r ≤ B ∧ 0 < ds.length ∧ r - s < 2 ^ (ds.length - 1)) ?_ ?_ _ _ ⟨B, .un, .un, rfl, by omega, Int.le_refl _, by rw [rng_len]; decide, ?_⟩
    · rintro d ds ρ ⟨r, t, u, rfl, hsr, hrB, _, hlt⟩ K hK
      have up := rt_up hr (r := r) (by omega)
      simp only [fSeqS, fSet, fSetN, fRet, fIfS, fNext, fBreak, fCont, fNever, fBin, fCmp, fV, fN, fC, lk, lk_z, lk_s, gAdd, gSub, gMul, gDiv, gMod, gPow, gShl, gShlW, gShr, gv, gLt, gLe, gGt, gGe, gEq, gNe, gIx, fNeg, fTV, fNot, fAnd, fOr, fAndV, fOrV, fNotV, fIf, fLN, fLC, fAN, fAC, fAB, fNV, fTup, fCB, bInt, bAbs, bLen, bMax2, bMin2, bTuple, fSeq, seqOf, fCall, fCallK, fAsg, gNm, gsNil, gsCons, gTpl, gSq, fPar, fMV, fMN, setAll, fApp, fExt, fSetIx, fFrz, fForS, fRng1, fRng2, fBits, List.set_cons_zero, List.set_cons_succ, List.length_cons, List.length_nil, endsOf, decide_eq_true_eq, true_and, and_true, at0, at1, at2, at3, at4, Bool.not_eq_true', decide_eq_false_iff_not, lg2, Int.reduceLT, ↓reduceIte]
      refine ⟨lg _ (by omega) hrB, ?_⟩
      rw [if_pos (by omega : 0 < r)]
      split
      · rename_i ge
        refine hq' _ (rn_of h ?_)
        rw [rt_stop hr (by omega) hsr ge]
        exact hr
      · rename_i lt
        have sr : s < r := by
          apply Classical.byContradiction
          intro c
          have e2 : r = s := by omega
          rw [e2] at lt
          exact lt (rt_up hr p0)
        have hf := rt_half hr sr
        have nz : ds.length ≠ 0 := fun z => by
          rw [List.length_cons, z] at hlt
          have : (2 : Int) ^ (0 + 1 - 1) = 1 := rfl
          omega
        refine hK _ ⟨_, _, _, rfl, up, by omega, by omega, ?_⟩
        rw [List.length_cons] at hlt
        obtain ⟨j, ej⟩ : ∃ j, ds.length = j + 1 := ⟨ds.length - 1, by omega⟩
        rw [ej] at hlt ⊢
        simp only [Nat.add_sub_cancel] at hlt ⊢
        rw [Int.pow_succ] at hlt
        omega
    · rintro ρ ⟨r, t, u, rfl, _, _, h0, _⟩
      exact absurd h0 (by simp)
    · rw [rng_len]
      show B - s < 2 ^ 1999
      omega
end T
end DL
namespace DL
namespace T
open PySem L2 PySem.Spec PyProof.Rows
theorem D4 (s : S4) : s.D = .tuple [.int s.a, .int s.b, .int s.c, .int s.d] := rfl
/-- a call's spec -/
theorem sp_go {n : Nat} {pre : List Sl → Prop} {R : List Sl → D → Prop} {ss : List Sl} {Q : D → Prop} (h1 : ss.length = n) (h2 : pre ss) (h3 : ∀ d, R ss d → Q d) : sp n pre R ss Q := ⟨h1, h2, h3⟩
theorem iS_inj {i j : Int} (h : iS i = iS j) : i = j := by cases h; rfl
theorem abs_gcd (i : Int) : (if i < 0 then -i else i) = (i.natAbs : Int) := by
  split <;> omega
theorem go_common {i j : Int} {Q : D → Prop} (hi : 0 ≤ i) (hj : 0 ≤ j) (h : Q (.int (Int.gcd i j : Nat))) : S_common [iS i, iS j] Q :=
  ⟨rfl, ⟨i, j, rfl, hi, hj⟩, fun d ⟨i', j', e, ed⟩ => by
    cases e; rw [ed]; exact h⟩
theorem go__law_common {i j : Int} {Q : D → Prop} (h : Q (.int (Int.gcd i j : Nat))) : S__law_common [iS i, iS j] Q :=
  ⟨rfl, ⟨i, j, rfl⟩, fun d ⟨i', j', e, ed⟩ => by
    cases e; rw [ed]; exact h⟩
theorem S4.ext4 {s t : S4} (h : [iS s.a, iS s.b, iS s.c, iS s.d] = [iS t.a, iS t.b, iS t.c, iS t.d]) : s = t := by
  cases s; cases t
  cases h
  rfl
theorem S4.extD {s t : S4} (h : s.D = t.D) : s = t := by
  cases s; cases t
  cases h
  rfl
theorem sl_inj {d e : D} (h : Sl.sh d = Sl.sh e) : d = e := by cases h; rfl
theorem go4 {P : S4 → Prop} {F : S4 → D} {s : S4} {Q : D → Prop} (hp : P s) (h : Q (F s)) : sp 4 (pre4 P) (fun ss d => pre4 (fun s => d = F s) ss) [iS s.a, iS s.b, iS s.c, iS s.d] Q :=
  ⟨rfl, ⟨s, rfl, hp⟩, fun d ⟨t, e, ed⟩ => by
    have := S4.ext4 e
    subst this
    rw [ed]; exact h⟩
theorem go1 {P : S4 → Prop} {F : S4 → D} {s : S4} {Q : D → Prop} (hp : P s) (h : Q (F s)) : sp 1 (pre1 P) (fun ss d => pre1 (fun s => d = F s) ss) [.sh s.D] Q :=
  ⟨rfl, ⟨s, rfl, hp⟩, fun d ⟨t, e, ed⟩ => by
    have := S4.extD (sl_inj (List.cons.inj e).1)
    subst this
    rw [ed]; exact h⟩
theorem go2 {P : S4 → S4 → Prop} {F : S4 → S4 → D} {s t : S4} {Q : D → Prop} (hp : P s t) (h : Q (F s t)) : sp 2 (pre2 P) (fun ss d => pre2 (fun s t => d = F s t) ss) [.sh s.D, .sh t.D] Q :=
  ⟨rfl, ⟨s, t, rfl, hp⟩, fun d ⟨s', t', e, ed⟩ => by
    obtain ⟨e1, e2⟩ := List.cons.inj e
    have h1 := S4.extD (sl_inj e1)
    have h2 := S4.extD (sl_inj (List.cons.inj e2).1)
    subst h1 h2
    rw [ed]; exact h⟩
theorem g3_abs (a b c : Int) (hc : 0 < c) : ((Int.gcd ((Int.gcd (if a < 0 then -a else a) (if b < 0 then -b else b) : Nat) : Int) c : Nat) : Int) = g3 a b c := by
  unfold g3
  rw [abs_gcd, abs_gcd]
  simp [Int.gcd]
theorem r_lowest : ∀ ss (Q : D → Prop), S_lowest ss Q → g_lowest (endsOf Q) (initE N_lowest ss) := by
  rintro ss Q ⟨_, ⟨⟨a, b, c, d⟩, rfl, hc, h1, h2, h3⟩, hq⟩
  have hq' := fun e h => hq e ⟨⟨a, b, c, d⟩, rfl, h⟩
  try simp only at hc h1 h2 h3
  simp only [N_lowest, initE, List.length_cons, List.length_nil, Nat.reduceAdd, Nat.reduceSub, List.replicate, List.cons_append, List.nil_append, List.append_nil]
  simp only [g_lowest, fSeqS, fSet, fSetN, fRet, fIfS, fNext, fBreak, fCont, fNever, fBin, fCmp, fV, fN, fC, lk, lk_z, lk_s, gAdd, gSub, gMul, gDiv, gMod, gPow, gShl, gShlW, gShr, gv, gLt, gLe, gGt, gGe, gEq, gNe, gIx, fNeg, fTV, fNot, fAnd, fOr, fAndV, fOrV, fNotV, fIf, fLN, fLC, fAN, fAC, fAB, fNV, fTup, fCB, bInt, bAbs, bLen, bMax2, bMin2, bTuple, fSeq, seqOf, fCall, fCallK, fAsg, gNm, gsNil, gsCons, gTpl, gSq, fPar, fMV, fMN, setAll, fApp, fExt, fSetIx, fFrz, fForS, fRng1, fRng2, fBits, List.set_cons_zero, List.set_cons_succ, List.length_cons, List.length_nil, endsOf, decide_eq_true_eq, true_and, and_true, at0, at1, at2, at3, at4, Bool.not_eq_true', decide_eq_false_iff_not, lg2, Int.reduceLT, ↓reduceIte]
  rw [if_neg (by omega)]
  have aa : ∀ i : Int, 0 ≤ (if i < 0 then -i else i) := fun i => by split <;> omega
  refine go_common (aa a) (aa b) ?_
  try simp only [fSeqS, fSet, fSetN, fRet, fIfS, fNext, fBreak, fCont, fNever, fBin, fCmp, fV, fN, fC, lk, lk_z, lk_s, gAdd, gSub, gMul, gDiv, gMod, gPow, gShl, gShlW, gShr, gv, gLt, gLe, gGt, gGe, gEq, gNe, gIx, fNeg, fTV, fNot, fAnd, fOr, fAndV, fOrV, fNotV, fIf, fLN, fLC, fAN, fAC, fAB, fNV, fTup, fCB, bInt, bAbs, bLen, bMax2, bMin2, bTuple, fSeq, seqOf, fCall, fCallK, fAsg, gNm, gsNil, gsCons, gTpl, gSq, fPar, fMV, fMN, setAll, fApp, fExt, fSetIx, fFrz, fForS, fRng1, fRng2, fBits, List.set_cons_zero, List.set_cons_succ, List.length_cons, List.length_nil, endsOf, decide_eq_true_eq, true_and, and_true, at0, at1, at2, at3, at4, Bool.not_eq_true', decide_eq_false_iff_not, lg2, Int.reduceLT, ↓reduceIte]
  refine go_common (by omega) (by omega) ?_
  try simp only [fSeqS, fSet, fSetN, fRet, fIfS, fNext, fBreak, fCont, fNever, fBin, fCmp, fV, fN, fC, lk, lk_z, lk_s, gAdd, gSub, gMul, gDiv, gMod, gPow, gShl, gShlW, gShr, gv, gLt, gLe, gGt, gGe, gEq, gNe, gIx, fNeg, fTV, fNot, fAnd, fOr, fAndV, fOrV, fNotV, fIf, fLN, fLC, fAN, fAC, fAB, fNV, fTup, fCB, bInt, bAbs, bLen, bMax2, bMin2, bTuple, fSeq, seqOf, fCall, fCallK, fAsg, gNm, gsNil, gsCons, gTpl, gSq, fPar, fMV, fMN, setAll, fApp, fExt, fSetIx, fFrz, fForS, fRng1, fRng2, fBits, List.set_cons_zero, List.set_cons_succ, List.length_cons, List.length_nil, endsOf, decide_eq_true_eq, true_and, and_true, at0, at1, at2, at3, at4, Bool.not_eq_true', decide_eq_false_iff_not, lg2, Int.reduceLT, ↓reduceIte]
  rw [g3_abs a b c hc]
  have g := g3_pos (a := a) (b := b) hc
  have gl : (g3 a b c).natAbs.log2 < 9000 := by
    have : g3 a b c ≤ c := Int.le_of_dvd hc (g3_dvd a b c)
    refine Sm.log (k := 4000) ?_
    unfold Sm at *
    omega
  simp only [g, gl, true_and, ↓reduceIte]
  have hq2 := hq' _ rfl
  unfold nrm S4.D at hq2
  try simp only at hq2
  split
  · rename_i hb
    rw [if_pos hb] at hq2
    exact hq2
  · rename_i hb
    rw [if_neg hb] at hq2
    exact hq2
theorem r__law_surd : ∀ ss (Q : D → Prop), S__law_surd ss Q → g__law_surd (endsOf Q) (initE N__law_surd ss) := by
  rintro ss Q ⟨_, ⟨⟨a, b, c, d⟩, rfl, hc, h1, h2, h3⟩, hq⟩
  have hq' := fun e h => hq e ⟨⟨a, b, c, d⟩, rfl, h⟩
  try simp only at hc h1 h2 h3
  simp only [N__law_surd, initE, List.length_cons, List.length_nil, Nat.reduceAdd, Nat.reduceSub, List.replicate, List.cons_append, List.nil_append, List.append_nil]
  simp only [g__law_surd, fSeqS, fSet, fSetN, fRet, fIfS, fNext, fBreak, fCont, fNever, fBin, fCmp, fV, fN, fC, lk, lk_z, lk_s, gAdd, gSub, gMul, gDiv, gMod, gPow, gShl, gShlW, gShr, gv, gLt, gLe, gGt, gGe, gEq, gNe, gIx, fNeg, fTV, fNot, fAnd, fOr, fAndV, fOrV, fNotV, fIf, fLN, fLC, fAN, fAC, fAB, fNV, fTup, fCB, bInt, bAbs, bLen, bMax2, bMin2, bTuple, fSeq, seqOf, fCall, fCallK, fAsg, gNm, gsNil, gsCons, gTpl, gSq, fPar, fMV, fMN, setAll, fApp, fExt, fSetIx, fFrz, fForS, fRng1, fRng2, fBits, List.set_cons_zero, List.set_cons_succ, List.length_cons, List.length_nil, endsOf, decide_eq_true_eq, true_and, and_true, at0, at1, at2, at3, at4, Bool.not_eq_true', decide_eq_false_iff_not, lg2, Int.reduceLT, ↓reduceIte]
  refine go__law_common ?_
  try simp only [fSeqS, fSet, fSetN, fRet, fIfS, fNext, fBreak, fCont, fNever, fBin, fCmp, fV, fN, fC, lk, lk_z, lk_s, gAdd, gSub, gMul, gDiv, gMod, gPow, gShl, gShlW, gShr, gv, gLt, gLe, gGt, gGe, gEq, gNe, gIx, fNeg, fTV, fNot, fAnd, fOr, fAndV, fOrV, fNotV, fIf, fLN, fLC, fAN, fAC, fAB, fNV, fTup, fCB, bInt, bAbs, bLen, bMax2, bMin2, bTuple, fSeq, seqOf, fCall, fCallK, fAsg, gNm, gsNil, gsCons, gTpl, gSq, fPar, fMV, fMN, setAll, fApp, fExt, fSetIx, fFrz, fForS, fRng1, fRng2, fBits, List.set_cons_zero, List.set_cons_succ, List.length_cons, List.length_nil, endsOf, decide_eq_true_eq, true_and, and_true, at0, at1, at2, at3, at4, Bool.not_eq_true', decide_eq_false_iff_not, lg2, Int.reduceLT, ↓reduceIte]
  refine go__law_common ?_
  try simp only [fSeqS, fSet, fSetN, fRet, fIfS, fNext, fBreak, fCont, fNever, fBin, fCmp, fV, fN, fC, lk, lk_z, lk_s, gAdd, gSub, gMul, gDiv, gMod, gPow, gShl, gShlW, gShr, gv, gLt, gLe, gGt, gGe, gEq, gNe, gIx, fNeg, fTV, fNot, fAnd, fOr, fAndV, fOrV, fNotV, fIf, fLN, fLC, fAN, fAC, fAB, fNV, fTup, fCB, bInt, bAbs, bLen, bMax2, bMin2, bTuple, fSeq, seqOf, fCall, fCallK, fAsg, gNm, gsNil, gsCons, gTpl, gSq, fPar, fMV, fMN, setAll, fApp, fExt, fSetIx, fFrz, fForS, fRng1, fRng2, fBits, List.set_cons_zero, List.set_cons_succ, List.length_cons, List.length_nil, endsOf, decide_eq_true_eq, true_and, and_true, at0, at1, at2, at3, at4, Bool.not_eq_true', decide_eq_false_iff_not, lg2, Int.reduceLT, ↓reduceIte]
  rw [if_pos hc]
  have g : 0 < g3 a b c := g3_pos (a := a) (b := b) hc
  have gl : (g3 a b c).natAbs.log2 < 9000 := by
    have : g3 a b c ≤ c := Int.le_of_dvd hc (g3_dvd a b c)
    refine Sm.log (k := 4000) ?_
    unfold Sm at *
    omega
  have e : ((Int.gcd ((Int.gcd a b : Nat) : Int) c : Nat) : Int) = g3 a b c := rfl
  rw [e]
  simp only [g, gl, true_and, ↓reduceIte]
  have hq2 := hq' _ rfl
  unfold nrm S4.D at hq2
  try simp only at hq2
  split
  · rename_i hb
    rw [if_pos hb] at hq2
    exact hq2
  · rename_i hb
    rw [if_neg hb] at hq2
    exact hq2
theorem go_lowest (s : S4) {Q : D → Prop} (h : 0 < s.c ∧ Sm 4000 s.a ∧ Sm 4000 s.b ∧ Sm 4000 s.c) (hq : Q (nrm s.a s.b s.c s.d).D) : S_lowest [iS s.a, iS s.b, iS s.c, iS s.d] Q := go4 (F := fun s => (nrm s.a s.b s.c s.d).D) h hq
theorem go__law_surd (s : S4) {Q : D → Prop} (h : 0 < s.c ∧ Sm 4000 s.a ∧ Sm 4000 s.b ∧ Sm 4000 s.c) (hq : Q (nrm s.a s.b s.c s.d).D) : S__law_surd [iS s.a, iS s.b, iS s.c, iS s.d] Q := go4 (F := fun s => (nrm s.a s.b s.c s.d).D) h hq
/-- products of what is of size 960 -/
theorem mw {i j : Int} {k l : Nat} (h : Sm k i) (h' : Sm l j) (hs : k + l + 2 ≤ 1000000 := by omega) : CMulW i j := Sm.mulw h h' hs
theorem sum_pre {s t : S4} (h : Bd 960 s) (k : Bd 960 t) : 0 < s.c * t.c ∧ Sm 4000 (s.a * t.c + t.a * s.c) ∧ Sm 4000 (s.b * t.c + t.b * s.c) ∧ Sm 4000 (s.c * t.c) :=
  ⟨Int.mul_pos h.c0 k.c0, ((h.a.mul k.c).add (k.a.mul h.c)).le (by omega), ((h.b.mul k.c).add (k.b.mul h.c)).le (by omega), (h.c.mul k.c).le (by omega)⟩
theorem mul_pre {s t : S4} (h : Bd 960 s) (k : Bd 960 t) : 0 < s.c * t.c ∧ Sm 4000 (s.a * t.a + s.b * t.b * mx s.d t.d) ∧ Sm 4000 (s.a * t.b + s.b * t.a) ∧ Sm 4000 (s.c * t.c) := by
  obtain ⟨d0, d1⟩ := mx_ok h.d0 h.d k.d0 k.d
  exact ⟨Int.mul_pos h.c0 k.c0, (((h.a.mul k.a).le (l := 1940) (by omega)).add (((h.b.mul k.b).mul d1).le (by omega))).le (by omega), ((h.a.mul k.b).add (h.b.mul k.a)).le (by omega), (h.c.mul k.c).le (by omega)⟩
theorem r_surd_sum : ∀ ss (Q : D → Prop), S_surd_sum ss Q → g_surd_sum (endsOf Q) (initE N_surd_sum ss) := by
  rintro ss Q ⟨_, ⟨s, t, rfl, h, k⟩, hq⟩
  have hq' := hq _ ⟨s, t, rfl, rfl⟩
  simp only [N_surd_sum, D4, initE, List.length_cons, List.length_nil, Nat.reduceAdd, Nat.reduceSub, List.replicate, List.cons_append, List.nil_append, List.append_nil]
  simp only [g_surd_sum, fSeqS, fSet, fSetN, fRet, fIfS, fNext, fBreak, fCont, fNever, fBin, fCmp, fV, fN, fC, lk, lk_z, lk_s, gAdd, gSub, gMul, gDiv, gMod, gPow, gShl, gShlW, gShr, gv, gLt, gLe, gGt, gGe, gEq, gNe, gIx, fNeg, fTV, fNot, fAnd, fOr, fAndV, fOrV, fNotV, fIf, fLN, fLC, fAN, fAC, fAB, fNV, fTup, fCB, bInt, bAbs, bLen, bMax2, bMin2, bTuple, fSeq, seqOf, fCall, fCallK, fAsg, gNm, gsNil, gsCons, gTpl, gSq, fPar, fMV, fMN, setAll, fApp, fExt, fSetIx, fFrz, fForS, fRng1, fRng2, fBits, List.set_cons_zero, List.set_cons_succ, List.length_cons, List.length_nil, endsOf, decide_eq_true_eq, true_and, and_true, at0, at1, at2, at3, at4, Bool.not_eq_true', decide_eq_false_iff_not, lg2, Int.reduceLT, ↓reduceIte]
  refine ⟨mw h.a k.c, mw k.a h.c, mw h.b k.c, mw k.b h.c, mw h.c k.c, ?_⟩
  exact go_lowest ⟨_, _, _, _⟩ (sum_pre h k) hq'
theorem r__law_own_sum : ∀ ss (Q : D → Prop), S__law_own_sum ss Q → g__law_own_sum (endsOf Q) (initE N__law_own_sum ss) := by
  rintro ss Q ⟨_, ⟨s, t, rfl, h, k⟩, hq⟩
  have hq' := hq _ ⟨s, t, rfl, rfl⟩
  simp only [N__law_own_sum, D4, initE, List.length_cons, List.length_nil, Nat.reduceAdd, Nat.reduceSub, List.replicate, List.cons_append, List.nil_append, List.append_nil]
  simp only [g__law_own_sum, fSeqS, fSet, fSetN, fRet, fIfS, fNext, fBreak, fCont, fNever, fBin, fCmp, fV, fN, fC, lk, lk_z, lk_s, gAdd, gSub, gMul, gDiv, gMod, gPow, gShl, gShlW, gShr, gv, gLt, gLe, gGt, gGe, gEq, gNe, gIx, fNeg, fTV, fNot, fAnd, fOr, fAndV, fOrV, fNotV, fIf, fLN, fLC, fAN, fAC, fAB, fNV, fTup, fCB, bInt, bAbs, bLen, bMax2, bMin2, bTuple, fSeq, seqOf, fCall, fCallK, fAsg, gNm, gsNil, gsCons, gTpl, gSq, fPar, fMV, fMN, setAll, fApp, fExt, fSetIx, fFrz, fForS, fRng1, fRng2, fBits, List.set_cons_zero, List.set_cons_succ, List.length_cons, List.length_nil, endsOf, decide_eq_true_eq, true_and, and_true, at0, at1, at2, at3, at4, Bool.not_eq_true', decide_eq_false_iff_not, lg2, Int.reduceLT, ↓reduceIte]
  refine ⟨mw h.a k.c, mw k.a h.c, mw h.b k.c, mw k.b h.c, mw h.c k.c, ?_⟩
  exact go__law_surd ⟨_, _, _, _⟩ (sum_pre h k) hq'
theorem r_surd_times : ∀ ss (Q : D → Prop), S_surd_times ss Q → g_surd_times (endsOf Q) (initE N_surd_times ss) := by
  rintro ss Q ⟨_, ⟨s, t, rfl, h, k⟩, hq⟩
  have hq' := hq _ ⟨s, t, rfl, rfl⟩
  obtain ⟨d0, d1⟩ := mx_ok h.d0 h.d k.d0 k.d
  simp only [N_surd_times, D4, initE, List.length_cons, List.length_nil, Nat.reduceAdd, Nat.reduceSub, List.replicate, List.cons_append, List.nil_append, List.append_nil]
  simp only [g_surd_times, fSeqS, fSet, fSetN, fRet, fIfS, fNext, fBreak, fCont, fNever, fBin, fCmp, fV, fN, fC, lk, lk_z, lk_s, gAdd, gSub, gMul, gDiv, gMod, gPow, gShl, gShlW, gShr, gv, gLt, gLe, gGt, gGe, gEq, gNe, gIx, fNeg, fTV, fNot, fAnd, fOr, fAndV, fOrV, fNotV, fIf, fLN, fLC, fAN, fAC, fAB, fNV, fTup, fCB, bInt, bAbs, bLen, bMax2, bMin2, bTuple, fSeq, seqOf, fCall, fCallK, fAsg, gNm, gsNil, gsCons, gTpl, gSq, fPar, fMV, fMN, setAll, fApp, fExt, fSetIx, fFrz, fForS, fRng1, fRng2, fBits, List.set_cons_zero, List.set_cons_succ, List.length_cons, List.length_nil, endsOf, decide_eq_true_eq, true_and, and_true, at0, at1, at2, at3, at4, Bool.not_eq_true', decide_eq_false_iff_not, lg2, Int.reduceLT, ↓reduceIte]
  refine ⟨mw h.a k.a, mw h.b k.b, mw (h.b.mul k.b) d1, mw h.a k.b, mw h.b k.a, mw h.c k.c, ?_⟩
  exact go_lowest ⟨_, _, _, _⟩ (mul_pre h k) hq'
theorem r__law_own_times : ∀ ss (Q : D → Prop), S__law_own_times ss Q → g__law_own_times (endsOf Q) (initE N__law_own_times ss) := by
  rintro ss Q ⟨_, ⟨s, t, rfl, h, k⟩, hq⟩
  have hq' := hq _ ⟨s, t, rfl, rfl⟩
  obtain ⟨d0, d1⟩ := mx_ok h.d0 h.d k.d0 k.d
  simp only [N__law_own_times, D4, initE, List.length_cons, List.length_nil, Nat.reduceAdd, Nat.reduceSub, List.replicate, List.cons_append, List.nil_append, List.append_nil]
  simp only [g__law_own_times, fSeqS, fSet, fSetN, fRet, fIfS, fNext, fBreak, fCont, fNever, fBin, fCmp, fV, fN, fC, lk, lk_z, lk_s, gAdd, gSub, gMul, gDiv, gMod, gPow, gShl, gShlW, gShr, gv, gLt, gLe, gGt, gGe, gEq, gNe, gIx, fNeg, fTV, fNot, fAnd, fOr, fAndV, fOrV, fNotV, fIf, fLN, fLC, fAN, fAC, fAB, fNV, fTup, fCB, bInt, bAbs, bLen, bMax2, bMin2, bTuple, fSeq, seqOf, fCall, fCallK, fAsg, gNm, gsNil, gsCons, gTpl, gSq, fPar, fMV, fMN, setAll, fApp, fExt, fSetIx, fFrz, fForS, fRng1, fRng2, fBits, List.set_cons_zero, List.set_cons_succ, List.length_cons, List.length_nil, endsOf, decide_eq_true_eq, true_and, and_true, at0, at1, at2, at3, at4, Bool.not_eq_true', decide_eq_false_iff_not, lg2, Int.reduceLT, ↓reduceIte]
  refine ⟨mw h.a k.a, mw h.b k.b, mw (h.b.mul k.b) d1, mw h.a k.b, mw h.b k.a, mw h.c k.c, ?_⟩
  exact go__law_surd ⟨_, _, _, _⟩ (mul_pre h k) hq'
theorem go__law_own_sign {a b d : Int} {Q : D → Prop} (h : Sm 2000 a ∧ Sm 2000 b ∧ Sm 2000 d) (hq : Q (.int (sgn a b d))) : S__law_own_sign [iS a, iS b, iS d] Q :=
  ⟨rfl, ⟨a, b, d, rfl, h⟩, fun e ⟨a', b', d', q, ed⟩ => by
    cases q; rw [ed]; exact hq⟩
theorem sgn_go {a b d : Int} {Q : D → Prop} (hq : Q (.int (sgn a b d))) (m1 : CMulW a a) (m2 : CMulW b b) (m3 : CMulW (b * b) d) : if 0 ≤ a then
    if 0 ≤ b then if 0 < a + b then Q (PyData.int 1) else Q (PyData.int 0)
    else
      if a ≤ 0 then
        if b ≤ 0 then Q (PyData.int (-1))
        else CMulW a a ∧ CMulW b b ∧ CMulW (b * b) d ∧ if decide (b * b * d < a * a) = decide (0 < a) then Q (PyData.int 1) else Q (PyData.int (-1))
      else
        if false = true then Q (PyData.int (-1))
        else CMulW a a ∧ CMulW b b ∧ CMulW (b * b) d ∧ if decide (b * b * d < a * a) = decide (0 < a) then Q (PyData.int 1) else Q (PyData.int (-1))
  else
    if false = true then if 0 < a + b then Q (PyData.int 1) else Q (PyData.int 0)
    else
      if a ≤ 0 then
        if b ≤ 0 then Q (PyData.int (-1))
        else CMulW a a ∧ CMulW b b ∧ CMulW (b * b) d ∧ if decide (b * b * d < a * a) = decide (0 < a) then Q (PyData.int 1) else Q (PyData.int (-1))
      else
        if false = true then Q (PyData.int (-1))
        else CMulW a a ∧ CMulW b b ∧ CMulW (b * b) d ∧ if decide (b * b * d < a * a) = decide (0 < a) then Q (PyData.int 1) else Q (PyData.int (-1)) := by
  have ff : (false = true) = False := eq_false Bool.false_ne_true
  simp only [m1, m2, m3, true_and, ff, if_false]
  have tail : ¬ (0 ≤ a ∧ 0 ≤ b) → ¬ (a ≤ 0 ∧ b ≤ 0) → (if decide (b * b * d < a * a) = decide (0 < a) then Q (PyData.int 1) else Q (PyData.int (-1))) := fun h1 h2 => by
    unfold sgn at hq
    rw [if_neg h1, if_neg h2] at hq
    split
    · rename_i e; rw [if_pos e] at hq; exact hq
    · rename_i e; rw [if_neg e] at hq; exact hq
  have mid : ¬ (0 ≤ a ∧ 0 ≤ b) → a ≤ 0 ∧ b ≤ 0 → Q (PyData.int (-1)) := fun h1 h2 => by
    unfold sgn at hq
    rw [if_neg h1, if_pos h2] at hq
    exact hq
  have top : 0 ≤ a → 0 ≤ b → (if 0 < a + b then Q (PyData.int 1) else Q (PyData.int 0)) := fun h1 h2 => by
    unfold sgn at hq
    rw [if_pos ⟨h1, h2⟩] at hq
    split
    · rename_i e; rw [if_pos e] at hq; exact hq
    · rename_i e; rw [if_neg e] at hq; exact hq
  by_cases p1 : 0 ≤ a
  · rw [if_pos p1]
    by_cases p2 : 0 ≤ b
    · rw [if_pos p2]; exact top p1 p2
    · rw [if_neg p2]
      by_cases p3 : a ≤ 0
      · rw [if_pos p3]
        by_cases p4 : b ≤ 0
        · rw [if_pos p4]; exact mid (by omega) ⟨p3, p4⟩
        · rw [if_neg p4]; exact tail (by omega) (by omega)
      · rw [if_neg p3]; exact tail (by omega) (by omega)
  · rw [if_neg p1]
    by_cases p3 : a ≤ 0
    · rw [if_pos p3]
      by_cases p4 : b ≤ 0
      · rw [if_pos p4]; exact mid (by omega) ⟨p3, p4⟩
      · rw [if_neg p4]; exact tail (by omega) (by omega)
    · rw [if_neg p3]; exact tail (by omega) (by omega)
theorem r__law_own_sign : ∀ ss (Q : D → Prop), S__law_own_sign ss Q → g__law_own_sign (endsOf Q) (initE N__law_own_sign ss) := by
  rintro ss Q ⟨_, ⟨a, b, d, rfl, h1, h2, h3⟩, hq⟩
  have hq' := hq _ ⟨a, b, d, rfl, rfl⟩
  simp only [N__law_own_sign, initE, List.length_cons, List.length_nil, Nat.reduceAdd, Nat.reduceSub, List.replicate, List.cons_append, List.nil_append, List.append_nil]
  simp only [g__law_own_sign, fSeqS, fSet, fSetN, fRet, fIfS, fNext, fBreak, fCont, fNever, fBin, fCmp, fV, fN, fC, lk, lk_z, lk_s, gAdd, gSub, gMul, gDiv, gMod, gPow, gShl, gShlW, gShr, gv, gLt, gLe, gGt, gGe, gEq, gNe, gIx, fNeg, fTV, fNot, fAnd, fOr, fAndV, fOrV, fNotV, fIf, fLN, fLC, fAN, fAC, fAB, fNV, fTup, fCB, bInt, bAbs, bLen, bMax2, bMin2, bTuple, fSeq, seqOf, fCall, fCallK, fAsg, gNm, gsNil, gsCons, gTpl, gSq, fPar, fMV, fMN, setAll, fApp, fExt, fSetIx, fFrz, fForS, fRng1, fRng2, fBits, List.set_cons_zero, List.set_cons_succ, List.length_cons, List.length_nil, endsOf, decide_eq_true_eq, true_and, and_true, at0, at1, at2, at3, at4, Bool.not_eq_true', decide_eq_false_iff_not, lg2, Int.reduceLT, ↓reduceIte]
  exact sgn_go hq' (mw h1 h1) (mw h2 h2) (mw (h2.mul h2) h3)
theorem r_surd_sign : ∀ ss (Q : D → Prop), S_surd_sign ss Q → g_surd_sign (endsOf Q) (initE N_surd_sign ss) := by
  rintro ss Q ⟨_, ⟨s, rfl, h⟩, hq⟩
  have hq' := hq _ ⟨s, rfl, rfl⟩
  simp only [N_surd_sign, D4, initE, List.length_cons, List.length_nil, Nat.reduceAdd, Nat.reduceSub, List.replicate, List.cons_append, List.nil_append, List.append_nil]
  simp only [g_surd_sign, fSeqS, fSet, fSetN, fRet, fIfS, fNext, fBreak, fCont, fNever, fBin, fCmp, fV, fN, fC, lk, lk_z, lk_s, gAdd, gSub, gMul, gDiv, gMod, gPow, gShl, gShlW, gShr, gv, gLt, gLe, gGt, gGe, gEq, gNe, gIx, fNeg, fTV, fNot, fAnd, fOr, fAndV, fOrV, fNotV, fIf, fLN, fLC, fAN, fAC, fAB, fNV, fTup, fCB, bInt, bAbs, bLen, bMax2, bMin2, bTuple, fSeq, seqOf, fCall, fCallK, fAsg, gNm, gsNil, gsCons, gTpl, gSq, fPar, fMV, fMN, setAll, fApp, fExt, fSetIx, fFrz, fForS, fRng1, fRng2, fBits, List.set_cons_zero, List.set_cons_succ, List.length_cons, List.length_nil, endsOf, decide_eq_true_eq, true_and, and_true, at0, at1, at2, at3, at4, Bool.not_eq_true', decide_eq_false_iff_not, lg2, Int.reduceLT, ↓reduceIte]
  exact sgn_go hq' (mw h.a h.a) (mw h.b h.b) (mw (h.b.mul h.b) h.d)
theorem r_surd_order : ∀ ss (Q : D → Prop), S_surd_order ss Q → g_surd_order (endsOf Q) (initE N_surd_order ss) := by
  rintro ss Q ⟨_, ⟨s, t, rfl, h, k⟩, hq⟩
  have hq' := hq _ ⟨s, t, rfl, rfl⟩
  simp only [N_surd_order, initE, List.length_cons, List.length_nil, Nat.reduceAdd, Nat.reduceSub, List.replicate, List.cons_append, List.nil_append, List.append_nil]
  simp only [g_surd_order, fSeqS, fSet, fSetN, fRet, fIfS, fNext, fBreak, fCont, fNever, fBin, fCmp, fV, fN, fC, lk, lk_z, lk_s, gAdd, gSub, gMul, gDiv, gMod, gPow, gShl, gShlW, gShr, gv, gLt, gLe, gGt, gGe, gEq, gNe, gIx, fNeg, fTV, fNot, fAnd, fOr, fAndV, fOrV, fNotV, fIf, fLN, fLC, fAN, fAC, fAB, fNV, fTup, fCB, bInt, bAbs, bLen, bMax2, bMin2, bTuple, fSeq, seqOf, fCall, fCallK, fAsg, gNm, gsNil, gsCons, gTpl, gSq, fPar, fMV, fMN, setAll, fApp, fExt, fSetIx, fFrz, fForS, fRng1, fRng2, fBits, List.set_cons_zero, List.set_cons_succ, List.length_cons, List.length_nil, endsOf, decide_eq_true_eq, true_and, and_true, at0, at1, at2, at3, at4, Bool.not_eq_true', decide_eq_false_iff_not, lg2, Int.reduceLT, ↓reduceIte]
  refine go1 (F := fun s => (negS s).D) trivial ?_
  try simp only [fSeqS, fSet, fSetN, fRet, fIfS, fNext, fBreak, fCont, fNever, fBin, fCmp, fV, fN, fC, lk, lk_z, lk_s, gAdd, gSub, gMul, gDiv, gMod, gPow, gShl, gShlW, gShr, gv, gLt, gLe, gGt, gGe, gEq, gNe, gIx, fNeg, fTV, fNot, fAnd, fOr, fAndV, fOrV, fNotV, fIf, fLN, fLC, fAN, fAC, fAB, fNV, fTup, fCB, bInt, bAbs, bLen, bMax2, bMin2, bTuple, fSeq, seqOf, fCall, fCallK, fAsg, gNm, gsNil, gsCons, gTpl, gSq, fPar, fMV, fMN, setAll, fApp, fExt, fSetIx, fFrz, fForS, fRng1, fRng2, fBits, List.set_cons_zero, List.set_cons_succ, List.length_cons, List.length_nil, endsOf, decide_eq_true_eq, true_and, and_true, at0, at1, at2, at3, at4, Bool.not_eq_true', decide_eq_false_iff_not, lg2, Int.reduceLT, ↓reduceIte]
  refine go2 (F := fun s t => (sumS s t).D) ⟨h, k.neg⟩ ?_
  try simp only [fSeqS, fSet, fSetN, fRet, fIfS, fNext, fBreak, fCont, fNever, fBin, fCmp, fV, fN, fC, lk, lk_z, lk_s, gAdd, gSub, gMul, gDiv, gMod, gPow, gShl, gShlW, gShr, gv, gLt, gLe, gGt, gGe, gEq, gNe, gIx, fNeg, fTV, fNot, fAnd, fOr, fAndV, fOrV, fNotV, fIf, fLN, fLC, fAN, fAC, fAB, fNV, fTup, fCB, bInt, bAbs, bLen, bMax2, bMin2, bTuple, fSeq, seqOf, fCall, fCallK, fAsg, gNm, gsNil, gsCons, gTpl, gSq, fPar, fMV, fMN, setAll, fApp, fExt, fSetIx, fFrz, fForS, fRng1, fRng2, fBits, List.set_cons_zero, List.set_cons_succ, List.length_cons, List.length_nil, endsOf, decide_eq_true_eq, true_and, and_true, at0, at1, at2, at3, at4, Bool.not_eq_true', decide_eq_false_iff_not, lg2, Int.reduceLT, ↓reduceIte]
  exact go1 (F := fun s => .int (sgn s.a s.b s.d)) ((h.sum k.neg).le (by decide)) hq'
theorem rF_go {n r : Int} (h : Rn n r) : rF n = r := rn_unique (rF_ok n) h
theorem go_root {n : Int} {Q : D → Prop} (h : Sm 1940 n) (hq : Q (.int (rF n))) : sp 1 (fun ss => ∃ n : Int, ss = [iS n] ∧ Sm 1940 n) (fun ss d => ∃ n r : Int, ss = [iS n] ∧ d = .int r ∧ Rn n r) [iS n] Q :=
  ⟨rfl, ⟨n, rfl, h⟩, fun d ⟨n', r, e, ed, hr⟩ => by
    cases e; rw [ed, ← rF_go hr]; exact hq⟩
theorem r_whole_part : ∀ ss (Q : D → Prop), S_whole_part ss Q → g_whole_part (endsOf Q) (initE N_whole_part ss) := by
  rintro ss Q ⟨_, ⟨s, rfl, h⟩, hq⟩
  have hq' := hq _ ⟨s, rfl, rfl⟩
  simp only [N_whole_part, D4, initE, List.length_cons, List.length_nil, Nat.reduceAdd, Nat.reduceSub, List.replicate, List.cons_append, List.nil_append, List.append_nil]
  simp only [g_whole_part, fSeqS, fSet, fSetN, fRet, fIfS, fNext, fBreak, fCont, fNever, fBin, fCmp, fV, fN, fC, lk, lk_z, lk_s, gAdd, gSub, gMul, gDiv, gMod, gPow, gShl, gShlW, gShr, gv, gLt, gLe, gGt, gGe, gEq, gNe, gIx, fNeg, fTV, fNot, fAnd, fOr, fAndV, fOrV, fNotV, fIf, fLN, fLC, fAN, fAC, fAB, fNV, fTup, fCB, bInt, bAbs, bLen, bMax2, bMin2, bTuple, fSeq, seqOf, fCall, fCallK, fAsg, gNm, gsNil, gsCons, gTpl, gSq, fPar, fMV, fMN, setAll, fApp, fExt, fSetIx, fFrz, fForS, fRng1, fRng2, fBits, List.set_cons_zero, List.set_cons_succ, List.length_cons, List.length_nil, endsOf, decide_eq_true_eq, true_and, and_true, at0, at1, at2, at3, at4, Bool.not_eq_true', decide_eq_false_iff_not, lg2, Int.reduceLT, ↓reduceIte]
  refine ⟨mw h.b h.b, mw (h.b.mul h.b) h.d, go_root ((h.b.mul h.b).mul h.d) ?_⟩
  try simp only [fSeqS, fSet, fSetN, fRet, fIfS, fNext, fBreak, fCont, fNever, fBin, fCmp, fV, fN, fC, lk, lk_z, lk_s, gAdd, gSub, gMul, gDiv, gMod, gPow, gShl, gShlW, gShr, gv, gLt, gLe, gGt, gGe, gEq, gNe, gIx, fNeg, fTV, fNot, fAnd, fOr, fAndV, fOrV, fNotV, fIf, fLN, fLC, fAN, fAC, fAB, fNV, fTup, fCB, bInt, bAbs, bLen, bMax2, bMin2, bTuple, fSeq, seqOf, fCall, fCallK, fAsg, gNm, gsNil, gsCons, gTpl, gSq, fPar, fMV, fMN, setAll, fApp, fExt, fSetIx, fFrz, fForS, fRng1, fRng2, fBits, List.set_cons_zero, List.set_cons_succ, List.length_cons, List.length_nil, endsOf, decide_eq_true_eq, true_and, and_true, at0, at1, at2, at3, at4, Bool.not_eq_true', decide_eq_false_iff_not, lg2, Int.reduceLT, ↓reduceIte]
  have c0 := h.c0
  have cl := h.c.log
  simp only [c0, cl, true_and, ↓reduceIte]
  unfold wholeS at hq'
  split
  · rename_i e; rw [if_pos e] at hq'; exact hq'
  · rename_i e; rw [if_neg e] at hq'; exact hq'
theorem r__law_own_whole : ∀ ss (Q : D → Prop), S__law_own_whole ss Q → g__law_own_whole (endsOf Q) (initE N__law_own_whole ss) := by
  rintro ss Q ⟨_, ⟨s, rfl, h⟩, hq⟩
  have hq' := hq _ ⟨s, rfl, rfl⟩
  simp only [N__law_own_whole, D4, initE, List.length_cons, List.length_nil, Nat.reduceAdd, Nat.reduceSub, List.replicate, List.cons_append, List.nil_append, List.append_nil]
  simp only [g__law_own_whole, fSeqS, fSet, fSetN, fRet, fIfS, fNext, fBreak, fCont, fNever, fBin, fCmp, fV, fN, fC, lk, lk_z, lk_s, gAdd, gSub, gMul, gDiv, gMod, gPow, gShl, gShlW, gShr, gv, gLt, gLe, gGt, gGe, gEq, gNe, gIx, fNeg, fTV, fNot, fAnd, fOr, fAndV, fOrV, fNotV, fIf, fLN, fLC, fAN, fAC, fAB, fNV, fTup, fCB, bInt, bAbs, bLen, bMax2, bMin2, bTuple, fSeq, seqOf, fCall, fCallK, fAsg, gNm, gsNil, gsCons, gTpl, gSq, fPar, fMV, fMN, setAll, fApp, fExt, fSetIx, fFrz, fForS, fRng1, fRng2, fBits, List.set_cons_zero, List.set_cons_succ, List.length_cons, List.length_nil, endsOf, decide_eq_true_eq, true_and, and_true, at0, at1, at2, at3, at4, Bool.not_eq_true', decide_eq_false_iff_not, lg2, Int.reduceLT, ↓reduceIte]
  refine ⟨mw h.b h.b, mw (h.b.mul h.b) h.d, go_root ((h.b.mul h.b).mul h.d) ?_⟩
  try simp only [fSeqS, fSet, fSetN, fRet, fIfS, fNext, fBreak, fCont, fNever, fBin, fCmp, fV, fN, fC, lk, lk_z, lk_s, gAdd, gSub, gMul, gDiv, gMod, gPow, gShl, gShlW, gShr, gv, gLt, gLe, gGt, gGe, gEq, gNe, gIx, fNeg, fTV, fNot, fAnd, fOr, fAndV, fOrV, fNotV, fIf, fLN, fLC, fAN, fAC, fAB, fNV, fTup, fCB, bInt, bAbs, bLen, bMax2, bMin2, bTuple, fSeq, seqOf, fCall, fCallK, fAsg, gNm, gsNil, gsCons, gTpl, gSq, fPar, fMV, fMN, setAll, fApp, fExt, fSetIx, fFrz, fForS, fRng1, fRng2, fBits, List.set_cons_zero, List.set_cons_succ, List.length_cons, List.length_nil, endsOf, decide_eq_true_eq, true_and, and_true, at0, at1, at2, at3, at4, Bool.not_eq_true', decide_eq_false_iff_not, lg2, Int.reduceLT, ↓reduceIte]
  have c0 := h.c0
  have cl := h.c.log
  simp only [c0, cl, true_and, ↓reduceIte]
  unfold wholeS at hq'
  split
  · rename_i e; rw [if_pos e] at hq'; exact hq'
  · rename_i e
    rw [if_neg e] at hq'
    have e2 : s.a + (-rF (s.b * s.b * s.d) - 1) = s.a - rF (s.b * s.b * s.d) - 1 := by omega
    rw [e2]; exact hq'
end T
end DL
namespace DL
namespace T
open PySem L2 PySem.Spec PyProof.Rows
theorem dvd_mul {a b n : Int} (h : a * b = n) : b ∣ n := ⟨a, by rw [← h, Int.mul_comm]⟩
theorem sq_no {n p l r : Int} (h : SF n) (hp : 2 ≤ p) (e : r * (p * (p * l)) = n) : False :=
  h.2.2 p hp ⟨r * l, by rw [← e, ← Int.mul_assoc p p l, Int.mul_comm (p * p) l, ← Int.mul_assoc r l, Int.mul_comm (r * l)]⟩
theorem sm_small {i : Int} (h0 : -1048576 < i) (h1 : i < 1048576) : Sm 20 i := by
  unfold Sm
  omega
theorem mod0 {a p : Int} (hp : 0 < p) (h : a % p = 0) : p * (a / p) = a := by
  have := Int.emod_add_mul_ediv a p
  omega
theorem r_root_parts : ∀ ss (Q : D → Prop), S_root_parts ss Q → g_root_parts (endsOf Q) (initE N_root_parts ss) := by
  rintro ss Q ⟨_, ⟨n, rfl, hn⟩, hq⟩
  have hq' := hq _ ⟨n, rfl, rfl⟩
  have n2 := hn.1
  have n3 := hn.2.1
  simp only [N_root_parts, initE, List.length_cons, List.length_nil, Nat.reduceAdd, Nat.reduceSub, List.replicate, List.cons_append, List.nil_append, List.append_nil]
  simp only [g_root_parts, fSeqS, fSet, fSetN, fRet, fIfS, fNext, fBreak, fCont, fNever, fBin, fCmp, fV, fN, fC, lk, lk_z, lk_s, gAdd, gSub, gMul, gDiv, gMod, gPow, gShl, gShlW, gShr, gv, gLt, gLe, gGt, gGe, gEq, gNe, gIx, fNeg, fTV, fNot, fAnd, fOr, fAndV, fOrV, fNotV, fIf, fLN, fLC, fAN, fAC, fAB, fNV, fTup, fCB, bInt, bAbs, bLen, bMax2, bMin2, bTuple, fSeq, seqOf, fCall, fCallK, fAsg, gNm, gsNil, gsCons, gTpl, gSq, fPar, fMV, fMN, setAll, fApp, fExt, fSetIx, fFrz, fForS, fRng1, fRng2, fBits, List.set_cons_zero, List.set_cons_succ, List.length_cons, List.length_nil, endsOf, decide_eq_true_eq, true_and, and_true, at0, at1, at2, at3, at4, Bool.not_eq_true', decide_eq_false_iff_not, lg2, Int.reduceLT, ↓reduceIte]
  rw [if_neg (by omega)]
  refine while_of (fun m ρ => ∃ (r l p : Int) (t u v : Sl), ρ = [iS n, iS 1, iS r, iS l, iS p, t, u, v] ∧ r * l = n ∧ 1 ≤ r ∧ 1 ≤ l ∧ 2 ≤ p ∧ p ≤ 2000000 ∧ m = (2000000 - p).toNat) ?_ _ _ ⟨1, n, 2, .un, .un, .un, rfl, by omega, by omega, by omega, by omega, by omega, rfl⟩
  rintro m ρ ⟨r, l, p, t, u, v, rfl, hrl, hr, hl, hp, hp2, rfl⟩ K hK
  have hln : l ≤ n := by
    have := Int.mul_le_mul_of_nonneg_right hr (by omega : 0 ≤ l)
    omega
  have hrn : r ≤ n := by
    have := Int.mul_le_mul_of_nonneg_left hl (by omega : 0 ≤ r)
    omega
  have sp : Sm 21 p := Sm.nat (by omega) (by omega)
  simp only [fSeqS, fSet, fSetN, fRet, fIfS, fNext, fBreak, fCont, fNever, fBin, fCmp, fV, fN, fC, lk, lk_z, lk_s, gAdd, gSub, gMul, gDiv, gMod, gPow, gShl, gShlW, gShr, gv, gLt, gLe, gGt, gGe, gEq, gNe, gIx, fNeg, fTV, fNot, fAnd, fOr, fAndV, fOrV, fNotV, fIf, fLN, fLC, fAN, fAC, fAB, fNV, fTup, fCB, bInt, bAbs, bLen, bMax2, bMin2, bTuple, fSeq, seqOf, fCall, fCallK, fAsg, gNm, gsNil, gsCons, gTpl, gSq, fPar, fMV, fMN, setAll, fApp, fExt, fSetIx, fFrz, fForS, fRng1, fRng2, fBits, List.set_cons_zero, List.set_cons_succ, List.length_cons, List.length_nil, endsOf, decide_eq_true_eq, true_and, and_true, at0, at1, at2, at3, at4, Bool.not_eq_true', decide_eq_false_iff_not, lg2, Int.reduceLT, ↓reduceIte]
  refine ⟨mw sp sp, mw (sp.mul sp) sp, ?_⟩
  split
  · rename_i h3
    have ppp : p ≤ l := by
      have a1 := Int.mul_le_mul_of_nonneg_left (a := 1) (b := p) (c := p) (by omega) (by omega)
      have a2 := Int.mul_le_mul_of_nonneg_left (a := 1) (b := p) (c := p * p) (by omega) (by omega)
      omega
    -- the inner loop
    refine while_of (fun m ρ => ∃ (l' : Int) (o : Int), ρ = [iS n, iS 1, iS r, iS l', iS p, iS o, u, v] ∧ 1 ≤ l' ∧ ((o = 0 ∧ l' = l) ∨ (o = 1 ∧ p * l' = l)) ∧ m = (1 - o).toNat) ?_ _ _ ⟨l, 0, rfl, hl, .inl ⟨rfl, rfl⟩, rfl⟩
    rintro m ρ ⟨l', o, rfl, hl', ho, rfl⟩ K2 hK2
    simp only [fSeqS, fSet, fSetN, fRet, fIfS, fNext, fBreak, fCont, fNever, fBin, fCmp, fV, fN, fC, lk, lk_z, lk_s, gAdd, gSub, gMul, gDiv, gMod, gPow, gShl, gShlW, gShr, gv, gLt, gLe, gGt, gGe, gEq, gNe, gIx, fNeg, fTV, fNot, fAnd, fOr, fAndV, fOrV, fNotV, fIf, fLN, fLC, fAN, fAC, fAB, fNV, fTup, fCB, bInt, bAbs, bLen, bMax2, bMin2, bTuple, fSeq, seqOf, fCall, fCallK, fAsg, gNm, gsNil, gsCons, gTpl, gSq, fPar, fMV, fMN, setAll, fApp, fExt, fSetIx, fFrz, fForS, fRng1, fRng2, fBits, List.set_cons_zero, List.set_cons_succ, List.length_cons, List.length_nil, endsOf, decide_eq_true_eq, true_and, and_true, at0, at1, at2, at3, at4, Bool.not_eq_true', decide_eq_false_iff_not, lg2, Int.reduceLT, ↓reduceIte]
    rw [if_pos (by omega : 0 < p)]
    split
    · rename_i hm
      have e := mod0 (by omega) hm
      have pl : Sm 21 p := sp
      refine ⟨sp.log, ?_⟩
      rw [if_pos (by omega : 0 < p)]
      rcases ho with ⟨o0, e0⟩ | ⟨o1, e1⟩
      · subst o0 e0
        refine hK2 _ _ (by decide) ⟨_, _, rfl, ?_, .inr ⟨rfl, e⟩, rfl⟩
        apply Classical.byContradiction
        intro z
        have := Int.mul_le_mul_of_nonneg_left (a := l' / p) (b := 0) (c := p) (by omega) (by omega)
        omega
      · exfalso
        rw [← e1, ← e] at hrl
        exact sq_no hn hp hrl
    · rename_i hm
      have half : (o / 2).toNat = 0 := by rcases ho with ⟨o0, _⟩ | ⟨o1, _⟩ <;> omega
      refine ⟨by rcases ho with ⟨o0, _⟩ | ⟨o1, _⟩ <;> omega, by rcases ho with ⟨o0, _⟩ | ⟨o1, _⟩ <;> omega, ?_⟩
      rw [half]
      show (fSeqS _ _) _ _
      simp only [fSeqS, fSet, fSetN, fRet, fIfS, fNext, fBreak, fCont, fNever, fBin, fCmp, fV, fN, fC, lk, lk_z, lk_s, gAdd, gSub, gMul, gDiv, gMod, gPow, gShl, gShlW, gShr, gv, gLt, gLe, gGt, gGe, gEq, gNe, gIx, fNeg, fTV, fNot, fAnd, fOr, fAndV, fOrV, fNotV, fIf, fLN, fLC, fAN, fAC, fAB, fNV, fTup, fCB, bInt, bAbs, bLen, bMax2, bMin2, bTuple, fSeq, seqOf, fCall, fCallK, fAsg, gNm, gsNil, gsCons, gTpl, gSq, fPar, fMV, fMN, setAll, fApp, fExt, fSetIx, fFrz, fForS, fRng1, fRng2, fBits, List.set_cons_zero, List.set_cons_succ, List.length_cons, List.length_nil, endsOf, decide_eq_true_eq, true_and, and_true, at0, at1, at2, at3, at4, Bool.not_eq_true', decide_eq_false_iff_not, lg2, Int.reduceLT, ↓reduceIte]
      have fin : ∀ r' : Int, r' * l' = n → 1 ≤ r' → (if p = 2 then K [iS n, iS 1, iS r', iS l', iS (p + 1), iS o, u, v] else K [iS n, iS 1, iS r', iS l', iS (p + 2), iS o, u, v]) := fun r' h1 h2 => by
        split
        · exact hK _ _ (by omega) ⟨r', l', p + 1, _, _, _, rfl, h1, h2, hl', by omega, by omega, rfl⟩
        · exact hK _ _ (by omega) ⟨r', l', p + 2, _, _, _, rfl, h1, h2, hl', by omega, by omega, rfl⟩
      rcases ho with ⟨o0, e0⟩ | ⟨o1, e1⟩
      · subst o0 e0
        rw [if_neg (by decide)]
        exact fin r hrl hr
      · subst o1
        rw [if_pos (by decide)]
        have sr : Sm 21 r := Sm.nat (by omega) (by omega)
        refine ⟨mw sr sp, fin (r * p) (by rw [Int.mul_assoc, e1]; exact hrl) ?_⟩
        have := Int.mul_le_mul_of_nonneg_left (a := 1) (b := p) (c := r) (by omega) (by omega)
        omega
  · rename_i h3
    have sl : Sm 21 l := Sm.nat (by omega) (by omega)
    have sr : Sm 21 r := Sm.nat (by omega) (by omega)
    refine ⟨rfl, ⟨l, rfl, sl.le (by decide)⟩, ?_⟩
    rintro d ⟨l2, s, el, rfl, hs⟩
    cases el
    try simp only [fSeqS, fSet, fSetN, fRet, fIfS, fNext, fBreak, fCont, fNever, fBin, fCmp, fV, fN, fC, lk, lk_z, lk_s, gAdd, gSub, gMul, gDiv, gMod, gPow, gShl, gShlW, gShr, gv, gLt, gLe, gGt, gGe, gEq, gNe, gIx, fNeg, fTV, fNot, fAnd, fOr, fAndV, fOrV, fNotV, fIf, fLN, fLC, fAN, fAC, fAB, fNV, fTup, fCB, bInt, bAbs, bLen, bMax2, bMin2, bTuple, fSeq, seqOf, fCall, fCallK, fAsg, gNm, gsNil, gsCons, gTpl, gSq, fPar, fMV, fMN, setAll, fApp, fExt, fSetIx, fFrz, fForS, fRng1, fRng2, fBits, List.set_cons_zero, List.set_cons_succ, List.length_cons, List.length_nil, endsOf, decide_eq_true_eq, true_and, and_true, at0, at1, at2, at3, at4, Bool.not_eq_true', decide_eq_false_iff_not, lg2, Int.reduceLT, ↓reduceIte]
    have ss : Sm 21 s := by
      unfold Rn at hs
      split at hs
      · rw [hs]; exact sl
      · have := rt_pos hs (by omega)
        refine Sm.nat (by omega) ?_
        have := Int.mul_le_mul_of_nonneg_left (a := 1) (b := s) (c := s) (by omega) (by omega)
        have := hs.2.1
        omega
    refine ⟨mw ss ss, ?_⟩
    have s1 : Sm 21 1 := Sm.nat (by omega) (by omega)
    split
    · rename_i e
      have : s = 1 := by
        unfold Rn at hs
        split at hs
        · omega
        · exfalso
          have := rt_pos hs (by omega)
          have s2 : 2 ≤ s := by
            apply Classical.byContradiction
            intro z
            have : s = 1 := by omega
            subst this
            omega
          refine hn.2.2 s s2 ⟨r, ?_⟩
          rw [e, Int.mul_comm]; exact hrl.symm
      subst this
      refine ⟨mw s1 s1, ?_⟩
      have : r = n := by
        have : l = 1 := by omega
        rw [this, Int.mul_one] at hrl
        exact hrl
      rw [this]
      exact hq'
    · refine ⟨mw sr sl, ?_⟩
      rw [hrl]
      exact hq'
end T
end DL
namespace DL
namespace T
open PySem L2 PySem.Spec PyProof.Rows
theorem go_root_parts {n : Int} {Q : D → Prop} (h : SF n) (hq : Q (.tuple [.int 1, .int n])) : S_root_parts [iS n] Q :=
  ⟨rfl, ⟨n, rfl, h⟩, fun d ⟨n', e, ed⟩ => by
    cases e; rw [ed]; exact hq⟩
theorem r_surd_of : ∀ ss (Q : D → Prop), S_surd_of ss Q → g_surd_of (endsOf Q) (initE N_surd_of ss) := by
  rintro ss Q ⟨_, ⟨s, rfl, h, hs⟩, hq⟩
  have hq' := hq _ ⟨s, rfl, rfl⟩
  simp only [N_surd_of, initE, List.length_cons, List.length_nil, Nat.reduceAdd, Nat.reduceSub, List.replicate, List.cons_append, List.nil_append, List.append_nil]
  simp only [g_surd_of, fSeqS, fSet, fSetN, fRet, fIfS, fNext, fBreak, fCont, fNever, fBin, fCmp, fV, fN, fC, lk, lk_z, lk_s, gAdd, gSub, gMul, gDiv, gMod, gPow, gShl, gShlW, gShr, gv, gLt, gLe, gGt, gGe, gEq, gNe, gIx, fNeg, fTV, fNot, fAnd, fOr, fAndV, fOrV, fNotV, fIf, fLN, fLC, fAN, fAC, fAB, fNV, fTup, fCB, bInt, bAbs, bLen, bMax2, bMin2, bTuple, fSeq, seqOf, fCall, fCallK, fAsg, gNm, gsNil, gsCons, gTpl, gSq, fPar, fMV, fMN, setAll, fApp, fExt, fSetIx, fFrz, fForS, fRng1, fRng2, fBits, List.set_cons_zero, List.set_cons_succ, List.length_cons, List.length_nil, endsOf, decide_eq_true_eq, true_and, and_true, at0, at1, at2, at3, at4, Bool.not_eq_true', decide_eq_false_iff_not, lg2, Int.reduceLT, ↓reduceIte]
  refine go_root_parts hs ?_
  try simp only [fSeqS, fSet, fSetN, fRet, fIfS, fNext, fBreak, fCont, fNever, fBin, fCmp, fV, fN, fC, lk, lk_z, lk_s, gAdd, gSub, gMul, gDiv, gMod, gPow, gShl, gShlW, gShr, gv, gLt, gLe, gGt, gGe, gEq, gNe, gIx, fNeg, fTV, fNot, fAnd, fOr, fAndV, fOrV, fNotV, fIf, fLN, fLC, fAN, fAC, fAB, fNV, fTup, fCB, bInt, bAbs, bLen, bMax2, bMin2, bTuple, fSeq, seqOf, fCall, fCallK, fAsg, gNm, gsNil, gsCons, gTpl, gSq, fPar, fMV, fMN, setAll, fApp, fExt, fSetIx, fFrz, fForS, fRng1, fRng2, fBits, List.set_cons_zero, List.set_cons_succ, List.length_cons, List.length_nil, endsOf, decide_eq_true_eq, true_and, and_true, at0, at1, at2, at3, at4, Bool.not_eq_true', decide_eq_false_iff_not, lg2, Int.reduceLT, ↓reduceIte]
  have d1 : s.d ≠ 1 := by have := hs.1; omega
  rw [if_neg d1]
  have s1 : Sm 1 1 := Sm.nat (by decide) (by decide)
  refine ⟨mw h.b s1, ?_⟩
  rw [Int.mul_one]
  exact go_lowest s ⟨h.c0, h.a.le (by decide), h.b.le (by decide), h.c.le (by decide)⟩ hq'
theorem go_draw {n : Int} {Q : D → Prop} (h : 0 < n) (hn : n.natAbs.log2 < 9000) (hq : ∀ r : Int, 0 ≤ r → r < n → Q (.int r)) : S__law_draw [.bg, iS n] Q := ⟨n, rfl, h, hn, hq⟩
theorem lg_small {n : Int} (h0 : 0 ≤ n) (h : n < 1099511627776) : n.natAbs.log2 < 9000 := Sm.log (k := 40) (Sm.nat h0 h)
theorem r__law_pick : ∀ ss (Q : D → Prop), S__law_pick ss Q → g__law_pick (endsOf Q) (initE N__law_pick ss) := by
  rintro ss Q ⟨_, ⟨ds, rfl, hne, hl⟩, hq⟩
  have hq' := fun d (hd : d ∈ ds) => hq d ⟨ds, rfl, hd⟩
  have pos : 0 < ds.length := List.length_pos_iff.mpr hne
  simp only [N__law_pick, initE, List.length_cons, List.length_nil, Nat.reduceAdd, Nat.reduceSub, List.replicate, List.cons_append, List.nil_append, List.append_nil]
  simp only [g__law_pick, fSeqS, fSet, fSetN, fRet, fIfS, fNext, fBreak, fCont, fNever, fBin, fCmp, fV, fN, fC, lk, lk_z, lk_s, gAdd, gSub, gMul, gDiv, gMod, gPow, gShl, gShlW, gShr, gv, gLt, gLe, gGt, gGe, gEq, gNe, gIx, fNeg, fTV, fNot, fAnd, fOr, fAndV, fOrV, fNotV, fIf, fLN, fLC, fAN, fAC, fAB, fNV, fTup, fCB, bInt, bAbs, bLen, bMax2, bMin2, bTuple, fSeq, seqOf, fCall, fCallK, fAsg, gNm, gsNil, gsCons, gTpl, gSq, fPar, fMV, fMN, setAll, fApp, fExt, fSetIx, fFrz, fForS, fRng1, fRng2, fBits, List.set_cons_zero, List.set_cons_succ, List.length_cons, List.length_nil, endsOf, decide_eq_true_eq, true_and, and_true, at0, at1, at2, at3, at4, Bool.not_eq_true', decide_eq_false_iff_not, lg2, Int.reduceLT, ↓reduceIte]
  refine go_draw (by omega) (lg_small (by omega) (by omega)) fun r h0 h1 => ?_
  obtain ⟨j, rfl⟩ : ∃ j : Nat, r = (j : Int) := ⟨r.toNat, by omega⟩
  have hj : j < ds.length := by omega
  have e : atI ds ((j : Nat) : Int) = some ds[j] := atI_nat (List.getElem?_eq_getElem hj)
  simp only [fSeqS, fSet, fSetN, fRet, fIfS, fNext, fBreak, fCont, fNever, fBin, fCmp, fV, fN, fC, lk, lk_z, lk_s, gAdd, gSub, gMul, gDiv, gMod, gPow, gShl, gShlW, gShr, gv, gLt, gLe, gGt, gGe, gEq, gNe, gIx, fNeg, fTV, fNot, fAnd, fOr, fAndV, fOrV, fNotV, fIf, fLN, fLC, fAN, fAC, fAB, fNV, fTup, fCB, bInt, bAbs, bLen, bMax2, bMin2, bTuple, fSeq, seqOf, fCall, fCallK, fAsg, gNm, gsNil, gsCons, gTpl, gSq, fPar, fMV, fMN, setAll, fApp, fExt, fSetIx, fFrz, fForS, fRng1, fRng2, fBits, List.set_cons_zero, List.set_cons_succ, List.length_cons, List.length_nil, endsOf, decide_eq_true_eq, true_and, and_true, at0, at1, at2, at3, at4, Bool.not_eq_true', decide_eq_false_iff_not, lg2, Int.reduceLT, ↓reduceIte, e]
  exact hq' _ (List.getElem_mem hj)
theorem go_pick {ds : List D} {Q : D → Prop} (h1 : ds ≠ []) (h2 : ds.length < 1000) (hq : ∀ d ∈ ds, Q d) : S__law_pick [.bg, .sh (.list ds)] Q :=
  ⟨rfl, ⟨ds, rfl, h1, h2⟩, fun d ⟨ds', e, hd⟩ => by
    cases e; exact hq d hd⟩
theorem pw {k : Nat} (h : k ≤ 1000) : CPow 10 ((k : Nat) : Int) := ⟨by omega, by omega, by decide⟩
theorem pw8 : CPow 10 8 := pw (k := 8) (by decide)
theorem pw4 : CPow 10 4 := pw (k := 4) (by decide)
theorem pw12 : CPow 10 12 := pw (k := 12) (by decide)
theorem pw11 : CPow 10 11 := pw (k := 11) (by decide)
theorem pw6 : CPow 10 6 := pw (k := 6) (by decide)
theorem pw5 : CPow 10 5 := pw (k := 5) (by decide)
theorem pw10 : CPow 10 10 := pw (k := 10) (by decide)
theorem tp4 : (10 : Int) ^ (4 : Int).toNat = 10000 := by decide
theorem tp5 : (10 : Int) ^ (5 : Int).toNat = 100000 := by decide
theorem tp6 : (10 : Int) ^ (6 : Int).toNat = 1000000 := by decide
theorem tp8 : (10 : Int) ^ (8 : Int).toNat = 100000000 := by decide
theorem tp10 : (10 : Int) ^ (10 : Int).toNat = 10000000000 := by decide
theorem tp11 : (10 : Int) ^ (11 : Int).toNat = 100000000000 := by decide
theorem tp12 : (10 : Int) ^ (12 : Int).toNat = 1000000000000 := by decide
theorem r__law_great : ∀ ss (Q : D → Prop), S__law_great ss Q → g__law_great (endsOf Q) (initE N__law_great ss) := by
  rintro ss Q ⟨_, ⟨n, rfl, hn⟩, hq⟩
  have hq' := fun r h0 h1 => hq (.int r) ⟨n, r, rfl, rfl, h0, h1⟩
  simp only [N__law_great, initE, List.length_cons, List.length_nil, Nat.reduceAdd, Nat.reduceSub, List.replicate, List.cons_append, List.nil_append, List.append_nil]
  simp only [g__law_great, fSeqS, fSet, fSetN, fRet, fIfS, fNext, fBreak, fCont, fNever, fBin, fCmp, fV, fN, fC, lk, lk_z, lk_s, gAdd, gSub, gMul, gDiv, gMod, gPow, gShl, gShlW, gShr, gv, gLt, gLe, gGt, gGe, gEq, gNe, gIx, fNeg, fTV, fNot, fAnd, fOr, fAndV, fOrV, fNotV, fIf, fLN, fLC, fAN, fAC, fAB, fNV, fTup, fCB, bInt, bAbs, bLen, bMax2, bMin2, bTuple, fSeq, seqOf, fCall, fCallK, fAsg, gNm, gsNil, gsCons, gTpl, gSq, fPar, fMV, fMN, setAll, fApp, fExt, fSetIx, fFrz, fForS, fRng1, fRng2, fBits, List.set_cons_zero, List.set_cons_succ, List.length_cons, List.length_nil, endsOf, decide_eq_true_eq, true_and, and_true, at0, at1, at2, at3, at4, Bool.not_eq_true', decide_eq_false_iff_not, lg2, Int.reduceLT, ↓reduceIte, pw8, tp8]
  refine ⟨by decide, by decide, ?_⟩
  refine for_of (fun ds ρ => ∃ (f : Int) (t : Sl), ρ = [.bg, iS n, iS f, t] ∧ Sm (200 - 40 * ds.length) f ∧ ds.length ≤ 4) ?_ ?_ _ _ ⟨0, .un, rfl, ?_, by rw [rng_len]; decide⟩
  · rintro d ds ρ ⟨f, t, rfl, hf, hl⟩ K hK
    rw [List.length_cons] at hf hl
    simp only [fSeqS, fSet, fSetN, fRet, fIfS, fNext, fBreak, fCont, fNever, fBin, fCmp, fV, fN, fC, lk, lk_z, lk_s, gAdd, gSub, gMul, gDiv, gMod, gPow, gShl, gShlW, gShr, gv, gLt, gLe, gGt, gGe, gEq, gNe, gIx, fNeg, fTV, fNot, fAnd, fOr, fAndV, fOrV, fNotV, fIf, fLN, fLC, fAN, fAC, fAB, fNV, fTup, fCB, bInt, bAbs, bLen, bMax2, bMin2, bTuple, fSeq, seqOf, fCall, fCallK, fAsg, gNm, gsNil, gsCons, gTpl, gSq, fPar, fMV, fMN, setAll, fApp, fExt, fSetIx, fFrz, fForS, fRng1, fRng2, fBits, List.set_cons_zero, List.set_cons_succ, List.length_cons, List.length_nil, endsOf, decide_eq_true_eq, true_and, and_true, at0, at1, at2, at3, at4, Bool.not_eq_true', decide_eq_false_iff_not, lg2, Int.reduceLT, ↓reduceIte, pw8, tp8]
    have s8 : Sm 27 100000000 := Sm.nat (by decide) (by decide)
    refine ⟨mw hf s8, go_draw (by decide) (lg_small (by decide) (by decide)) fun r h0 h1 => ?_⟩
    simp only [fSeqS, fSet, fSetN, fRet, fIfS, fNext, fBreak, fCont, fNever, fBin, fCmp, fV, fN, fC, lk, lk_z, lk_s, gAdd, gSub, gMul, gDiv, gMod, gPow, gShl, gShlW, gShr, gv, gLt, gLe, gGt, gGe, gEq, gNe, gIx, fNeg, fTV, fNot, fAnd, fOr, fAndV, fOrV, fNotV, fIf, fLN, fLC, fAN, fAC, fAB, fNV, fTup, fCB, bInt, bAbs, bLen, bMax2, bMin2, bTuple, fSeq, seqOf, fCall, fCallK, fAsg, gNm, gsNil, gsCons, gTpl, gSq, fPar, fMV, fMN, setAll, fApp, fExt, fSetIx, fFrz, fForS, fRng1, fRng2, fBits, List.set_cons_zero, List.set_cons_succ, List.length_cons, List.length_nil, endsOf, decide_eq_true_eq, true_and, and_true, at0, at1, at2, at3, at4, Bool.not_eq_true', decide_eq_false_iff_not, lg2, Int.reduceLT, ↓reduceIte]
    refine hK _ ⟨_, _, rfl, ?_, by omega⟩
    have sr : Sm 27 r := Sm.nat h0 (by omega)
    refine Sm.le (Sm.add (hf.mul s8) (sr.le (l := 200 - 40 * (ds.length + 1) + 27) (by omega))) (by omega)
  · rintro ρ ⟨f, t, rfl, hf, _⟩
    simp only [fSeqS, fSet, fSetN, fRet, fIfS, fNext, fBreak, fCont, fNever, fBin, fCmp, fV, fN, fC, lk, lk_z, lk_s, gAdd, gSub, gMul, gDiv, gMod, gPow, gShl, gShlW, gShr, gv, gLt, gLe, gGt, gGe, gEq, gNe, gIx, fNeg, fTV, fNot, fAnd, fOr, fAndV, fOrV, fNotV, fIf, fLN, fLC, fAN, fAC, fAB, fNV, fTup, fCB, bInt, bAbs, bLen, bMax2, bMin2, bTuple, fSeq, seqOf, fCall, fCallK, fAsg, gNm, gsNil, gsCons, gTpl, gSq, fPar, fMV, fMN, setAll, fApp, fExt, fSetIx, fFrz, fForS, fRng1, fRng2, fBits, List.set_cons_zero, List.set_cons_succ, List.length_cons, List.length_nil, endsOf, decide_eq_true_eq, true_and, and_true, at0, at1, at2, at3, at4, Bool.not_eq_true', decide_eq_false_iff_not, lg2, Int.reduceLT, ↓reduceIte]
    rw [if_pos hn]
    exact hq' _ (Int.emod_nonneg f (by omega)) (Int.emod_lt_of_pos f hn)
  · rw [rng_len]
    exact Sm.nat (by decide) (by decide)
theorem go_great {n : Int} {Q : D → Prop} (h : 0 < n) (hq : ∀ r : Int, 0 ≤ r → r < n → Q (.int r)) : S__law_great [.bg, iS n] Q :=
  ⟨rfl, ⟨n, rfl, h⟩, fun d ⟨n', r, e, ed, h0, h1⟩ => by
    cases e; rw [ed]; exact hq r h0 h1⟩
theorem r__law_integer : ∀ ss (Q : D → Prop), S__law_integer ss Q → g__law_integer (endsOf Q) (initE N__law_integer ss) := by
  rintro ss Q ⟨_, rfl, hq⟩
  have hq' := fun i h0 h1 => hq (.int i) ⟨i, rfl, h0, h1⟩
  simp only [N__law_integer, initE, List.length_cons, List.length_nil, Nat.reduceAdd, Nat.reduceSub, List.replicate, List.cons_append, List.nil_append, List.append_nil]
  simp only [g__law_integer, fSeqS, fSet, fSetN, fRet, fIfS, fNext, fBreak, fCont, fNever, fBin, fCmp, fV, fN, fC, lk, lk_z, lk_s, gAdd, gSub, gMul, gDiv, gMod, gPow, gShl, gShlW, gShr, gv, gLt, gLe, gGt, gGe, gEq, gNe, gIx, fNeg, fTV, fNot, fAnd, fOr, fAndV, fOrV, fNotV, fIf, fLN, fLC, fAN, fAC, fAB, fNV, fTup, fCB, bInt, bAbs, bLen, bMax2, bMin2, bTuple, fSeq, seqOf, fCall, fCallK, fAsg, gNm, gsNil, gsCons, gTpl, gSq, fPar, fMV, fMN, setAll, fApp, fExt, fSetIx, fFrz, fForS, fRng1, fRng2, fBits, List.set_cons_zero, List.set_cons_succ, List.length_cons, List.length_nil, endsOf, decide_eq_true_eq, true_and, and_true, at0, at1, at2, at3, at4, Bool.not_eq_true', decide_eq_false_iff_not, lg2, Int.reduceLT, ↓reduceIte, pw4, pw8, pw12, tp4, tp8, tp12]
  refine go_pick (by simp) (by simp) fun d hd => ?_
  obtain ⟨n, rfl, n0, n1⟩ : ∃ n : Int, d = .int n ∧ 1 ≤ n ∧ n ≤ 1000000000000 := by
    simp only [List.mem_cons, List.not_mem_nil, or_false] at hd
    rcases hd with rfl | rfl | rfl | rfl | rfl | rfl | rfl | rfl <;> exact ⟨_, rfl, by decide, by decide⟩
  try simp only [fSeqS, fSet, fSetN, fRet, fIfS, fNext, fBreak, fCont, fNever, fBin, fCmp, fV, fN, fC, lk, lk_z, lk_s, gAdd, gSub, gMul, gDiv, gMod, gPow, gShl, gShlW, gShr, gv, gLt, gLe, gGt, gGe, gEq, gNe, gIx, fNeg, fTV, fNot, fAnd, fOr, fAndV, fOrV, fNotV, fIf, fLN, fLC, fAN, fAC, fAB, fNV, fTup, fCB, bInt, bAbs, bLen, bMax2, bMin2, bTuple, fSeq, seqOf, fCall, fCallK, fAsg, gNm, gsNil, gsCons, gTpl, gSq, fPar, fMV, fMN, setAll, fApp, fExt, fSetIx, fFrz, fForS, fRng1, fRng2, fBits, List.set_cons_zero, List.set_cons_succ, List.length_cons, List.length_nil, endsOf, decide_eq_true_eq, true_and, and_true, at0, at1, at2, at3, at4, Bool.not_eq_true', decide_eq_false_iff_not, lg2, Int.reduceLT, ↓reduceIte]
  refine go_great (by omega) fun r h0 h1 => ?_
  try simp only [fSeqS, fSet, fSetN, fRet, fIfS, fNext, fBreak, fCont, fNever, fBin, fCmp, fV, fN, fC, lk, lk_z, lk_s, gAdd, gSub, gMul, gDiv, gMod, gPow, gShl, gShlW, gShr, gv, gLt, gLe, gGt, gGe, gEq, gNe, gIx, fNeg, fTV, fNot, fAnd, fOr, fAndV, fOrV, fNotV, fIf, fLN, fLC, fAN, fAC, fAB, fNV, fTup, fCB, bInt, bAbs, bLen, bMax2, bMin2, bTuple, fSeq, seqOf, fCall, fCallK, fAsg, gNm, gsNil, gsCons, gTpl, gSq, fPar, fMV, fMN, setAll, fApp, fExt, fSetIx, fFrz, fForS, fRng1, fRng2, fBits, List.set_cons_zero, List.set_cons_succ, List.length_cons, List.length_nil, endsOf, decide_eq_true_eq, true_and, and_true, at0, at1, at2, at3, at4, Bool.not_eq_true', decide_eq_false_iff_not, lg2, Int.reduceLT, ↓reduceIte]
  refine go_draw (by decide) (by decide) fun x _ _ => ?_
  try simp only [fSeqS, fSet, fSetN, fRet, fIfS, fNext, fBreak, fCont, fNever, fBin, fCmp, fV, fN, fC, lk, lk_z, lk_s, gAdd, gSub, gMul, gDiv, gMod, gPow, gShl, gShlW, gShr, gv, gLt, gLe, gGt, gGe, gEq, gNe, gIx, fNeg, fTV, fNot, fAnd, fOr, fAndV, fOrV, fNotV, fIf, fLN, fLC, fAN, fAC, fAB, fNV, fTup, fCB, bInt, bAbs, bLen, bMax2, bMin2, bTuple, fSeq, seqOf, fCall, fCallK, fAsg, gNm, gsNil, gsCons, gTpl, gSq, fPar, fMV, fMN, setAll, fApp, fExt, fSetIx, fFrz, fForS, fRng1, fRng2, fBits, List.set_cons_zero, List.set_cons_succ, List.length_cons, List.length_nil, endsOf, decide_eq_true_eq, true_and, and_true, at0, at1, at2, at3, at4, Bool.not_eq_true', decide_eq_false_iff_not, lg2, Int.reduceLT, ↓reduceIte]
  split
  · refine go_draw (by decide) (by decide) fun y _ _ => ?_
    simp only [fSeqS, fSet, fSetN, fRet, fIfS, fNext, fBreak, fCont, fNever, fBin, fCmp, fV, fN, fC, lk, lk_z, lk_s, gAdd, gSub, gMul, gDiv, gMod, gPow, gShl, gShlW, gShr, gv, gLt, gLe, gGt, gGe, gEq, gNe, gIx, fNeg, fTV, fNot, fAnd, fOr, fAndV, fOrV, fNotV, fIf, fLN, fLC, fAN, fAC, fAB, fNV, fTup, fCB, bInt, bAbs, bLen, bMax2, bMin2, bTuple, fSeq, seqOf, fCall, fCallK, fAsg, gNm, gsNil, gsCons, gTpl, gSq, fPar, fMV, fMN, setAll, fApp, fExt, fSetIx, fFrz, fForS, fRng1, fRng2, fBits, List.set_cons_zero, List.set_cons_succ, List.length_cons, List.length_nil, endsOf, decide_eq_true_eq, true_and, and_true, at0, at1, at2, at3, at4, Bool.not_eq_true', decide_eq_false_iff_not, lg2, Int.reduceLT, ↓reduceIte]
    split
    · exact hq' _ (by decide) (by decide)
    · exact hq' _ (by decide) (by decide)
  · refine go_draw (by decide) (by decide) fun y _ _ => ?_
    simp only [fSeqS, fSet, fSetN, fRet, fIfS, fNext, fBreak, fCont, fNever, fBin, fCmp, fV, fN, fC, lk, lk_z, lk_s, gAdd, gSub, gMul, gDiv, gMod, gPow, gShl, gShlW, gShr, gv, gLt, gLe, gGt, gGe, gEq, gNe, gIx, fNeg, fTV, fNot, fAnd, fOr, fAndV, fOrV, fNotV, fIf, fLN, fLC, fAN, fAC, fAB, fNV, fTup, fCB, bInt, bAbs, bLen, bMax2, bMin2, bTuple, fSeq, seqOf, fCall, fCallK, fAsg, gNm, gsNil, gsCons, gTpl, gSq, fPar, fMV, fMN, setAll, fApp, fExt, fSetIx, fFrz, fForS, fRng1, fRng2, fBits, List.set_cons_zero, List.set_cons_succ, List.length_cons, List.length_nil, endsOf, decide_eq_true_eq, true_and, and_true, at0, at1, at2, at3, at4, Bool.not_eq_true', decide_eq_false_iff_not, lg2, Int.reduceLT, ↓reduceIte]
    split
    · exact hq' _ (by omega) (by omega)
    · exact hq' _ (by omega) (by omega)
theorem go_integer {Q : D → Prop} (hq : ∀ i : Int, -1000000000000 ≤ i → i ≤ 1000000000000 → Q (.int i)) : S__law_integer [.bg] Q :=
  ⟨rfl, rfl, fun d ⟨i, ed, h0, h1⟩ => by
    rw [ed]; exact hq i h0 h1⟩
theorem s40 {i : Int} (h0 : -1000000000000 ≤ i) (h1 : i ≤ 1000000000000) : Sm 40 i := by
  unfold Sm
  omega
/-- a surd that is made at hand -/
theorem mk_bd {a b c d : Int} {m : Nat} (ha : Sm m a) (hb : Sm m b) (hc : Sm m c) (c0 : 0 < c) (hd : SF d) : Bd m (nrm a b c d) := nrm_bd ha hb hc c0 (by have := hd.1; omega) hd.sm
theorem r__law_handed : ∀ ss (Q : D → Prop), S__law_handed ss Q → g__law_handed (endsOf Q) (initE N__law_handed ss) := by
  rintro ss Q ⟨_, ⟨n, rfl, hn⟩, hq⟩
  have hq' := fun s (h : Bd 41 s) => hq s.D ⟨s, rfl, h⟩
  simp only [N__law_handed, initE, List.length_cons, List.length_nil, Nat.reduceAdd, Nat.reduceSub, List.replicate, List.cons_append, List.nil_append, List.append_nil]
  simp only [g__law_handed, fSeqS, fSet, fSetN, fRet, fIfS, fNext, fBreak, fCont, fNever, fBin, fCmp, fV, fN, fC, lk, lk_z, lk_s, gAdd, gSub, gMul, gDiv, gMod, gPow, gShl, gShlW, gShr, gv, gLt, gLe, gGt, gGe, gEq, gNe, gIx, fNeg, fTV, fNot, fAnd, fOr, fAndV, fOrV, fNotV, fIf, fLN, fLC, fAN, fAC, fAB, fNV, fTup, fCB, bInt, bAbs, bLen, bMax2, bMin2, bTuple, fSeq, seqOf, fCall, fCallK, fAsg, gNm, gsNil, gsCons, gTpl, gSq, fPar, fMV, fMN, setAll, fApp, fExt, fSetIx, fFrz, fForS, fRng1, fRng2, fBits, List.set_cons_zero, List.set_cons_succ, List.length_cons, List.length_nil, endsOf, decide_eq_true_eq, true_and, and_true, at0, at1, at2, at3, at4, Bool.not_eq_true', decide_eq_false_iff_not, lg2, Int.reduceLT, ↓reduceIte]
  refine go_integer fun i i0 i1 => ?_
  simp only [fSeqS, fSet, fSetN, fRet, fIfS, fNext, fBreak, fCont, fNever, fBin, fCmp, fV, fN, fC, lk, lk_z, lk_s, gAdd, gSub, gMul, gDiv, gMod, gPow, gShl, gShlW, gShr, gv, gLt, gLe, gGt, gGe, gEq, gNe, gIx, fNeg, fTV, fNot, fAnd, fOr, fAndV, fOrV, fNotV, fIf, fLN, fLC, fAN, fAC, fAB, fNV, fTup, fCB, bInt, bAbs, bLen, bMax2, bMin2, bTuple, fSeq, seqOf, fCall, fCallK, fAsg, gNm, gsNil, gsCons, gTpl, gSq, fPar, fMV, fMN, setAll, fApp, fExt, fSetIx, fFrz, fForS, fRng1, fRng2, fBits, List.set_cons_zero, List.set_cons_succ, List.length_cons, List.length_nil, endsOf, decide_eq_true_eq, true_and, and_true, at0, at1, at2, at3, at4, Bool.not_eq_true', decide_eq_false_iff_not, lg2, Int.reduceLT, ↓reduceIte]
  refine go_draw (by decide) (by decide) fun y _ _ => ?_
  simp only [fSeqS, fSet, fSetN, fRet, fIfS, fNext, fBreak, fCont, fNever, fBin, fCmp, fV, fN, fC, lk, lk_z, lk_s, gAdd, gSub, gMul, gDiv, gMod, gPow, gShl, gShlW, gShr, gv, gLt, gLe, gGt, gGe, gEq, gNe, gIx, fNeg, fTV, fNot, fAnd, fOr, fAndV, fOrV, fNotV, fIf, fLN, fLC, fAN, fAC, fAB, fNV, fTup, fCB, bInt, bAbs, bLen, bMax2, bMin2, bTuple, fSeq, seqOf, fCall, fCallK, fAsg, gNm, gsNil, gsCons, gTpl, gSq, fPar, fMV, fMN, setAll, fApp, fExt, fSetIx, fFrz, fForS, fRng1, fRng2, fBits, List.set_cons_zero, List.set_cons_succ, List.length_cons, List.length_nil, endsOf, decide_eq_true_eq, true_and, and_true, at0, at1, at2, at3, at4, Bool.not_eq_true', decide_eq_false_iff_not, lg2, Int.reduceLT, ↓reduceIte]
  have c0 : 0 < (if (if i < 0 then -i else i) > 1 then (if i < 0 then -i else i) else 1) := by split <;> omega
  have c1 : (if (if i < 0 then -i else i) > 1 then (if i < 0 then -i else i) else 1) ≤ 1000000000000 := by split <;> (try split) <;> omega
  generalize (if (if i < 0 then -i else i) > 1 then (if i < 0 then -i else i) else 1) = c at c0 c1
  have fin : ∀ a b : Int, -1000000000000 ≤ a → a ≤ 1000000000000 → -1000000000000 ≤ b → b ≤ 1000000000000 → S__law_surd [iS a, iS b, iS c, iS n] Q := fun a b a0 a1 b0 b1 =>
    go__law_surd ⟨a, b, c, n⟩ ⟨c0, (s40 a0 a1).le (by decide), (s40 b0 b1).le (by decide), (s40 (by omega) c1).le (by decide)⟩ (hq' _ ((mk_bd (s40 a0 a1) (s40 b0 b1) (s40 (by omega) c1) c0 hn).le (by decide)))
  split
  · refine go_integer fun a a0 a1 => ?_
    try simp only [fSeqS, fSet, fSetN, fRet, fIfS, fNext, fBreak, fCont, fNever, fBin, fCmp, fV, fN, fC, lk, lk_z, lk_s, gAdd, gSub, gMul, gDiv, gMod, gPow, gShl, gShlW, gShr, gv, gLt, gLe, gGt, gGe, gEq, gNe, gIx, fNeg, fTV, fNot, fAnd, fOr, fAndV, fOrV, fNotV, fIf, fLN, fLC, fAN, fAC, fAB, fNV, fTup, fCB, bInt, bAbs, bLen, bMax2, bMin2, bTuple, fSeq, seqOf, fCall, fCallK, fAsg, gNm, gsNil, gsCons, gTpl, gSq, fPar, fMV, fMN, setAll, fApp, fExt, fSetIx, fFrz, fForS, fRng1, fRng2, fBits, List.set_cons_zero, List.set_cons_succ, List.length_cons, List.length_nil, endsOf, decide_eq_true_eq, true_and, and_true, at0, at1, at2, at3, at4, Bool.not_eq_true', decide_eq_false_iff_not, lg2, Int.reduceLT, ↓reduceIte]
    exact fin a 0 a0 a1 (by decide) (by decide)
  · refine go_integer fun b b0 b1 => ?_
    try simp only [fSeqS, fSet, fSetN, fRet, fIfS, fNext, fBreak, fCont, fNever, fBin, fCmp, fV, fN, fC, lk, lk_z, lk_s, gAdd, gSub, gMul, gDiv, gMod, gPow, gShl, gShlW, gShr, gv, gLt, gLe, gGt, gGe, gEq, gNe, gIx, fNeg, fTV, fNot, fAnd, fOr, fAndV, fOrV, fNotV, fIf, fLN, fLC, fAN, fAC, fAB, fNV, fTup, fCB, bInt, bAbs, bLen, bMax2, bMin2, bTuple, fSeq, seqOf, fCall, fCallK, fAsg, gNm, gsNil, gsCons, gTpl, gSq, fPar, fMV, fMN, setAll, fApp, fExt, fSetIx, fFrz, fForS, fRng1, fRng2, fBits, List.set_cons_zero, List.set_cons_succ, List.length_cons, List.length_nil, endsOf, decide_eq_true_eq, true_and, and_true, at0, at1, at2, at3, at4, Bool.not_eq_true', decide_eq_false_iff_not, lg2, Int.reduceLT, ↓reduceIte]
    refine go_integer fun a a0 a1 => ?_
    try simp only [fSeqS, fSet, fSetN, fRet, fIfS, fNext, fBreak, fCont, fNever, fBin, fCmp, fV, fN, fC, lk, lk_z, lk_s, gAdd, gSub, gMul, gDiv, gMod, gPow, gShl, gShlW, gShr, gv, gLt, gLe, gGt, gGe, gEq, gNe, gIx, fNeg, fTV, fNot, fAnd, fOr, fAndV, fOrV, fNotV, fIf, fLN, fLC, fAN, fAC, fAB, fNV, fTup, fCB, bInt, bAbs, bLen, bMax2, bMin2, bTuple, fSeq, seqOf, fCall, fCallK, fAsg, gNm, gsNil, gsCons, gTpl, gSq, fPar, fMV, fMN, setAll, fApp, fExt, fSetIx, fFrz, fForS, fRng1, fRng2, fBits, List.set_cons_zero, List.set_cons_succ, List.length_cons, List.length_nil, endsOf, decide_eq_true_eq, true_and, and_true, at0, at1, at2, at3, at4, Bool.not_eq_true', decide_eq_false_iff_not, lg2, Int.reduceLT, ↓reduceIte]
    exact fin a b a0 a1 b0 b1
/-! numbers without a square -/
def Pm (q : Nat) : Prop := 2 ≤ q ∧ ∀ s, 2 ≤ s → s < q → ¬ s ∣ q
theorem pm_cop {q : Nat} (h : Pm q) (x : Nat) : q ∣ x ∨ Nat.Coprime q x := by
  by_cases e : Nat.gcd q x = 1
  · exact .inr e
  · refine .inl ?_
    have d := Nat.gcd_dvd_left q x
    have p : 0 < Nat.gcd q x := Nat.gcd_pos_of_pos_left x (by have := h.1; omega)
    have le := Nat.le_of_dvd (by have := h.1; omega) d
    have : Nat.gcd q x = q := by
      apply Classical.byContradiction
      intro n
      exact h.2 _ (by omega) (by omega) d
    rw [← this]
    exact Nat.gcd_dvd_right q x
theorem pm_ex (t : Nat) (h : 2 ≤ t) : ∃ q, Pm q ∧ q ∣ t := by
  induction t using Nat.strongRecOn with
  | _ t ih =>
    by_cases e : ∃ s, 2 ≤ s ∧ s < t ∧ s ∣ t
    · obtain ⟨s, h1, h2, h3⟩ := e
      obtain ⟨q, hq, hd⟩ := ih s h2 h1
      exact ⟨q, hq, Nat.dvd_trans hd h3⟩
    · exact ⟨t, ⟨h, fun s h1 h2 h3 => e ⟨s, h1, h2, h3⟩⟩, Nat.dvd_refl t⟩
def Sqf (k : Nat) : Prop := ∀ q, Pm q → ¬ q * q ∣ k
theorem sqf_one : Sqf 1 := fun q h d => by
  have := Nat.le_of_dvd (by decide) d
  have := h.1
  have := Nat.mul_le_mul this this
  omega
theorem pm_eq {p q : Nat} (hp : Pm p) (hq : Pm q) (d : q ∣ p) : q = p := by
  have le := Nat.le_of_dvd (by have := hp.1; omega) d
  apply Classical.byContradiction
  intro n
  exact hp.2 q hq.1 (by omega) d
theorem sqf_mul {k r : Nat} (hk : Sqf k) (hr : Sqf r) (c : ∀ q, Pm q → q ∣ k → q ∣ r → False) : Sqf (k * r) := by
  intro q hq d
  rcases pm_cop hq k with a | a
  · rcases pm_cop hq r with b | b
    · exact c q hq a b
    · exact hk q hq ((Nat.Coprime.mul_left b b).dvd_of_dvd_mul_right d)
  · exact hr q hq ((Nat.Coprime.mul_left a a).dvd_of_dvd_mul_left d)
theorem sqf_pm {p : Nat} (hp : Pm p) : Sqf p := fun q hq d => by
  have e := pm_eq hp hq (Nat.dvd_trans ⟨q, rfl⟩ d)
  subst e
  have := Nat.le_of_dvd (by have := hp.1; omega) d
  have h2 := hp.1
  have := Nat.mul_le_mul_right q h2
  omega
theorem sqf_int {k : Nat} (h : Sqf k) (t : Int) (ht : 2 ≤ t) : ¬ t * t ∣ (k : Int) := fun d => by
  obtain ⟨q, hq, hd⟩ := pm_ex t.toNat (by omega)
  refine h q hq (Nat.dvd_trans (Nat.mul_dvd_mul hd hd) ?_)
  have e : ((t.toNat * t.toNat : Nat) : Int) = t * t := by
    rw [Int.natCast_mul, Int.toNat_of_nonneg (by omega)]
  exact Int.natCast_dvd_natCast.mp (by rw [e]; exact d)
/-- the rest, freed of all below 101, is 1, a square, or without a square -/
theorem rest_sqf {r : Nat} (h1 : 1 ≤ r) (h2 : r ≤ 1000001) (small : ∀ t, 2 ≤ t → t < 101 → ¬ t ∣ r) (ns : ∀ s : Nat, s * s ≠ r) : Sqf r := by
  intro q hq ⟨u, e⟩
  have q101 : 101 ≤ q := by
    apply Classical.byContradiction
    intro c
    exact small q hq.1 (by omega) ⟨q * u, by rw [e, Nat.mul_assoc]⟩
  have qq : 10201 ≤ q * q := Nat.mul_le_mul q101 q101
  have u100 : u < 101 := by
    apply Classical.byContradiction
    intro c
    have := Nat.mul_le_mul qq (by omega : 101 ≤ u)
    omega
  by_cases u2 : 2 ≤ u
  · exact small u u2 u100 ⟨q * q, by rw [e, Nat.mul_comm]⟩
  · have : u = 0 ∨ u = 1 := by omega
    rcases this with z | z
    · rw [z, Nat.mul_zero] at e; omega
    · rw [z, Nat.mul_one] at e; exact ns q e.symm
end T
end DL
namespace DL
namespace T
open PySem L2 PySem.Spec PyProof.Rows
/-- what the loop over p keeps -/
structure Pt (p n m k r : Nat) : Prop where
  m1 : 1 ≤ m
  k1 : 1 ≤ k
  r1 : 1 ≤ r
  e : m * m * k * r = n
  kf : Sqf k
  small : ∀ t, 2 ≤ t → t < p → ¬ t ∣ r
  apart : ∀ q, Pm q → q ∣ k → q ∣ r → False
theorem Pt.bounds {p n m k r : Nat} (h : Pt p n m k r) (hn : n ≤ 1000001) : m ≤ 1000001 ∧ k ≤ 1000001 ∧ r ≤ 1000001 ∧ k * r ≤ 1000001 := by
  obtain ⟨m1, k1, r1, e, _⟩ := h
  have a : 1 ≤ k * r := Nat.mul_pos k1 r1
  have b : m * m * (k * r) = n := by rw [← Nat.mul_assoc]; exact e
  have c : k * r ≤ n := by
    rw [← b]
    exact Nat.le_mul_of_pos_left _ (Nat.mul_pos m1 m1)
  have d : m ≤ n := by
    rw [← b]
    have : m ≤ m * m := Nat.le_mul_of_pos_left _ m1
    exact Nat.le_trans this (Nat.le_mul_of_pos_right _ a)
  have k' : k ≤ k * r := Nat.le_mul_of_pos_right _ r1
  have r' : r ≤ k * r := Nat.le_mul_of_pos_left _ k1
  omega
theorem Pt.sq {p n m k r : Nat} (h : Pt p n m k (p * p * r)) (hp : 2 ≤ p) (hr : 1 ≤ r) : Pt p n (m * p) k r := by
  obtain ⟨m1, k1, r1, e, kf, sm, ap⟩ := h
  refine ⟨Nat.mul_pos m1 (by omega), k1, hr, ?_, kf, fun t t2 tp d => sm t t2 tp (Nat.dvd_trans d ⟨p * p, by rw [Nat.mul_comm]⟩), fun q hq a b => ap q hq a (Nat.dvd_trans b ⟨p * p, by rw [Nat.mul_comm]⟩)⟩
  rw [← e]
  have e1 : m * p * (m * p) = m * m * (p * p) := Nat.mul_mul_mul_comm m p m p
  rw [e1, Nat.mul_assoc (m * m) (p * p) k, Nat.mul_comm (p * p) k, ← Nat.mul_assoc (m * m) k (p * p), Nat.mul_assoc]
theorem Pt.no {p n m k r : Nat} (h : Pt p n m k r) (d : ¬ p ∣ r) : Pt (p + 1) n m k r :=
  ⟨h.m1, h.k1, h.r1, h.e, h.kf, fun t t2 tp dt => by
    by_cases z : t = p
    · subst z; exact d dt
    · exact h.small t t2 (by omega) dt, h.apart⟩
theorem Pt.yes {p n m k r : Nat} (h : Pt p n m k (p * r)) (hp : 2 ≤ p) (hr : 1 ≤ r) (d : ¬ p * p ∣ p * r) : Pt (p + 1) n m (k * p) r := by
  obtain ⟨m1, k1, r1, e, kf, sm, ap⟩ := h
  have prime : Pm p := ⟨hp, fun s s2 sp ds => sm s s2 sp (Nat.dvd_trans ds ⟨r, rfl⟩)⟩
  have pr : ¬ p ∣ r := fun ⟨u, z⟩ => d ⟨u, by rw [z, Nat.mul_assoc]⟩
  have pk : ¬ p ∣ k := fun z => ap p prime z ⟨r, rfl⟩
  refine ⟨m1, Nat.mul_pos k1 (by omega), hr, by rw [← e, Nat.mul_assoc (m * m), Nat.mul_assoc (m * m), Nat.mul_assoc k], sqf_mul kf (sqf_pm prime) (fun q hq a b => ?_), fun t t2 tp dt => ?_, fun q hq a b => ?_⟩
  · have := pm_eq prime hq b
    subst this
    exact pk a
  · by_cases z : t = p
    · subst z; exact pr dt
    · exact sm t t2 (by omega) (Nat.dvd_trans dt ⟨p, by rw [Nat.mul_comm]⟩)
  · rcases pm_cop hq k with c | c
    · exact ap q hq c (Nat.dvd_trans b ⟨p, by rw [Nat.mul_comm]⟩)
    · have := pm_eq prime hq (c.dvd_of_dvd_mul_left a)
      subst this
      exact pr b
theorem nat_mod0 {r p : Nat} : (((r : Nat) : Int) % ((p : Nat) : Int) = 0) ↔ p ∣ r := by
  rw [← Int.natCast_emod]
  constructor
  · intro h
    exact Nat.dvd_of_mod_eq_zero (by omega)
  · intro h
    rw [Nat.mod_eq_zero_of_dvd h]
    rfl
theorem r__law_parts : ∀ ss (Q : D → Prop), S__law_parts ss Q → g__law_parts (endsOf Q) (initE N__law_parts ss) := by
  rintro ss Q ⟨_, ⟨n, rfl, n2, n3⟩, hq⟩
  obtain ⟨n, rfl⟩ : ∃ j : Nat, n = (j : Int) := ⟨n.toNat, by omega⟩
  have hq' := fun (m : Int) (k : Nat) (h1 : 1 ≤ k) (h2 : k ≤ 1000001) (h3 : Sqf k) => hq (.tuple [.int m, .int k]) ⟨n, m, k, rfl, rfl, by omega, by omega, sqf_int h3⟩
  have nn : n ≤ 1000001 := by omega
  simp only [N__law_parts, initE, List.length_cons, List.length_nil, Nat.reduceAdd, Nat.reduceSub, List.replicate, List.cons_append, List.nil_append, List.append_nil]
  simp only [g__law_parts, fSeqS, fSet, fSetN, fRet, fIfS, fNext, fBreak, fCont, fNever, fBin, fCmp, fV, fN, fC, lk, lk_z, lk_s, gAdd, gSub, gMul, gDiv, gMod, gPow, gShl, gShlW, gShr, gv, gLt, gLe, gGt, gGe, gEq, gNe, gIx, fNeg, fTV, fNot, fAnd, fOr, fAndV, fOrV, fNotV, fIf, fLN, fLC, fAN, fAC, fAB, fNV, fTup, fCB, bInt, bAbs, bLen, bMax2, bMin2, bTuple, fSeq, seqOf, fCall, fCallK, fAsg, gNm, gsNil, gsCons, gTpl, gSq, fPar, fMV, fMN, setAll, fApp, fExt, fSetIx, fFrz, fForS, fRng1, fRng2, fBits, List.set_cons_zero, List.set_cons_succ, List.length_cons, List.length_nil, endsOf, decide_eq_true_eq, true_and, and_true, at0, at1, at2, at3, at4, Bool.not_eq_true', decide_eq_false_iff_not, lg2, Int.reduceLT, ↓reduceIte]
  refine ⟨⟨by decide, by decide, by decide, by decide⟩, ?_⟩
  refine for_rng (fun i ρ => ∃ (p m k r : Nat) (t u : Sl), i = (p : Int) ∧ ρ = [iS n, iS m, iS k, iS r, t, u] ∧ 2 ≤ p ∧ Pt p n m k r) _ _ _ ?_ ?_ ⟨2, 1, 1, n, _, _, rfl, rfl, by decide, by decide, by decide, by omega, by simp, sqf_one, fun t t2 tp => by omega, fun q hq a _ => ?_⟩
  · rintro i ρ i2 i3 ⟨p, m, k, r, t, u, rfl, rfl, hp, hP⟩ K hK
    have p101 : p < 101 := by
      have : ((101 : Int) - 2).toNat = 99 := by decide
      omega
    simp only [fSeqS, fSet, fSetN, fRet, fIfS, fNext, fBreak, fCont, fNever, fBin, fCmp, fV, fN, fC, lk, lk_z, lk_s, gAdd, gSub, gMul, gDiv, gMod, gPow, gShl, gShlW, gShr, gv, gLt, gLe, gGt, gGe, gEq, gNe, gIx, fNeg, fTV, fNot, fAnd, fOr, fAndV, fOrV, fNotV, fIf, fLN, fLC, fAN, fAC, fAB, fNV, fTup, fCB, bInt, bAbs, bLen, bMax2, bMin2, bTuple, fSeq, seqOf, fCall, fCallK, fAsg, gNm, gsNil, gsCons, gTpl, gSq, fPar, fMV, fMN, setAll, fApp, fExt, fSetIx, fFrz, fForS, fRng1, fRng2, fBits, List.set_cons_zero, List.set_cons_succ, List.length_cons, List.length_nil, endsOf, decide_eq_true_eq, true_and, and_true, at0, at1, at2, at3, at4, Bool.not_eq_true', decide_eq_false_iff_not, lg2, Int.reduceLT, ↓reduceIte]
    have sp : Sm 7 (p : Int) := Sm.nat (by omega) (by omega)
    have pp : (0 : Int) < (p : Int) * p := Int.mul_pos (by omega) (by omega)
    refine while_of (fun x ρ => ∃ (m r : Nat), ρ = [iS n, iS m, iS k, iS r, iS p, u] ∧ Pt p n m k r ∧ x = r) ?_ _ _ ⟨m, r, rfl, hP, rfl⟩
    rintro x ρ ⟨m, r, rfl, hP, rfl⟩ K2 hK2
    obtain ⟨mb, kb, rb, _⟩ := hP.bounds nn
    have s1 : Sm 20 (m : Int) := Sm.nat (by omega) (by omega)
    have s2 : Sm 20 (k : Int) := Sm.nat (by omega) (by omega)
    simp only [fSeqS, fSet, fSetN, fRet, fIfS, fNext, fBreak, fCont, fNever, fBin, fCmp, fV, fN, fC, lk, lk_z, lk_s, gAdd, gSub, gMul, gDiv, gMod, gPow, gShl, gShlW, gShr, gv, gLt, gLe, gGt, gGe, gEq, gNe, gIx, fNeg, fTV, fNot, fAnd, fOr, fAndV, fOrV, fNotV, fIf, fLN, fLC, fAN, fAC, fAB, fNV, fTup, fCB, bInt, bAbs, bLen, bMax2, bMin2, bTuple, fSeq, seqOf, fCall, fCallK, fAsg, gNm, gsNil, gsCons, gTpl, gSq, fPar, fMV, fMN, setAll, fApp, fExt, fSetIx, fFrz, fForS, fRng1, fRng2, fBits, List.set_cons_zero, List.set_cons_succ, List.length_cons, List.length_nil, endsOf, decide_eq_true_eq, true_and, and_true, at0, at1, at2, at3, at4, Bool.not_eq_true', decide_eq_false_iff_not, lg2, Int.reduceLT, ↓reduceIte]
    refine ⟨mw sp sp, ?_⟩
    rw [if_pos pp]
    have cast : ((p : Int) * (p : Int)) = ((p * p : Nat) : Int) := by rw [Int.natCast_mul]
    split
    · rename_i hm
      rw [cast] at hm
      obtain ⟨v, e⟩ := nat_mod0.mp hm
      subst e
      have hv : 1 ≤ v := by
        have := hP.r1
        apply Classical.byContradiction
        intro z
        have : v = 0 := by omega
        subst this
        rw [Nat.mul_zero] at this
        omega
      refine ⟨mw s1 sp, mw sp sp, (Sm.mul sp sp).log, ?_⟩
      try rw [if_pos pp]
      have ed : ((p * p * v : Nat) : Int) / ((p : Int) * (p : Int)) = (v : Int) := by
        rw [cast, Int.natCast_mul (p * p) v]
        exact Int.mul_ediv_cancel_left _ (by omega)
      rw [ed]
      have em : (m : Int) * (p : Int) = ((m * p : Nat) : Int) := by rw [Int.natCast_mul]
      rw [em]
      refine hK2 _ _ ?_ ⟨m * p, v, rfl, hP.sq hp hv, rfl⟩
      have : 4 ≤ p * p := Nat.mul_le_mul hp hp
      have := Nat.mul_le_mul_right v this
      omega
    · rename_i hm
      rw [cast] at hm
      have nd : ¬ p * p ∣ x := fun z => hm (nat_mod0.mpr z)
      rw [if_pos (by omega : (0 : Int) < p)]
      split
      · rename_i h1
        obtain ⟨v, e⟩ := nat_mod0.mp h1
        subst e
        have hv : 1 ≤ v := by
          have := hP.r1
          apply Classical.byContradiction
          intro z
          have : v = 0 := by omega
          subst this
          rw [Nat.mul_zero] at this
          omega
        refine ⟨mw s2 sp, sp.log, ?_⟩
        rw [if_pos (by omega : (0 : Int) < p)]
        have ed : ((p * v : Nat) : Int) / (p : Int) = (v : Int) := by
          rw [Int.natCast_mul]
          exact Int.mul_ediv_cancel_left _ (by omega)
        have em : (k : Int) * (p : Int) = ((k * p : Nat) : Int) := by rw [Int.natCast_mul]
        rw [ed, em]
        exact hK _ ⟨p + 1, m, k * p, v, _, _, by omega, rfl, by omega, hP.yes hp hv nd⟩
      · rename_i h1
        exact hK _ ⟨p + 1, m, k, x, _, _, by omega, rfl, by omega, hP.no fun z => h1 (nat_mod0.mpr z)⟩
  · rintro ρ ⟨p, m, k, r, t, u, hp, rfl, _, hP⟩
    have p101 : p = 101 := by
      have : ((101 : Int) - 2).toNat = 99 := by decide
      omega
    subst p101
    obtain ⟨mb, kb, rb, krb⟩ := hP.bounds nn
    have s1 : Sm 20 (m : Int) := Sm.nat (by omega) (by omega)
    have s2 : Sm 20 (k : Int) := Sm.nat (by omega) (by omega)
    have s3 : Sm 20 (r : Int) := Sm.nat (by omega) (by omega)
    simp only [fSeqS, fSet, fSetN, fRet, fIfS, fNext, fBreak, fCont, fNever, fBin, fCmp, fV, fN, fC, lk, lk_z, lk_s, gAdd, gSub, gMul, gDiv, gMod, gPow, gShl, gShlW, gShr, gv, gLt, gLe, gGt, gGe, gEq, gNe, gIx, fNeg, fTV, fNot, fAnd, fOr, fAndV, fOrV, fNotV, fIf, fLN, fLC, fAN, fAC, fAB, fNV, fTup, fCB, bInt, bAbs, bLen, bMax2, bMin2, bTuple, fSeq, seqOf, fCall, fCallK, fAsg, gNm, gsNil, gsCons, gTpl, gSq, fPar, fMV, fMN, setAll, fApp, fExt, fSetIx, fFrz, fForS, fRng1, fRng2, fBits, List.set_cons_zero, List.set_cons_succ, List.length_cons, List.length_nil, endsOf, decide_eq_true_eq, true_and, and_true, at0, at1, at2, at3, at4, Bool.not_eq_true', decide_eq_false_iff_not, lg2, Int.reduceLT, ↓reduceIte]
    refine go_root (s3.le (by decide)) ?_
    have hr := rF_ok (r : Int)
    generalize rF (r : Int) = s at hr
    have ss : 0 ≤ s ∧ s ≤ r := by
      unfold Rn at hr
      split at hr
      · omega
      · have := rt_pos hr (by omega)
        have := Int.mul_le_mul_of_nonneg_left (a := 1) (b := s) (c := s) (by omega) (by omega)
        have := hr.2.1
        omega
    have sS : Sm 20 s := Sm.nat (by omega) (by omega)
    try simp only [fSeqS, fSet, fSetN, fRet, fIfS, fNext, fBreak, fCont, fNever, fBin, fCmp, fV, fN, fC, lk, lk_z, lk_s, gAdd, gSub, gMul, gDiv, gMod, gPow, gShl, gShlW, gShr, gv, gLt, gLe, gGt, gGe, gEq, gNe, gIx, fNeg, fTV, fNot, fAnd, fOr, fAndV, fOrV, fNotV, fIf, fLN, fLC, fAN, fAC, fAB, fNV, fTup, fCB, bInt, bAbs, bLen, bMax2, bMin2, bTuple, fSeq, seqOf, fCall, fCallK, fAsg, gNm, gsNil, gsCons, gTpl, gSq, fPar, fMV, fMN, setAll, fApp, fExt, fSetIx, fFrz, fForS, fRng1, fRng2, fBits, List.set_cons_zero, List.set_cons_succ, List.length_cons, List.length_nil, endsOf, decide_eq_true_eq, true_and, and_true, at0, at1, at2, at3, at4, Bool.not_eq_true', decide_eq_false_iff_not, lg2, Int.reduceLT, ↓reduceIte]
    refine ⟨mw sS sS, ?_⟩
    split
    · exact ⟨mw s1 sS, hq' _ k hP.k1 kb hP.kf⟩
    · rename_i ne
      refine ⟨mw s2 s3, ?_⟩
      have em : (k : Int) * (r : Int) = ((k * r : Nat) : Int) := by rw [Int.natCast_mul]
      rw [em]
      refine hq' _ (k * r) (Nat.mul_pos hP.k1 hP.r1) krb (sqf_mul hP.kf (rest_sqf hP.r1 rb hP.small fun z hz => ne ?_) hP.apart)
      have ez : ((z : Nat) : Int) * (z : Int) = (r : Int) := by rw [← Int.natCast_mul, hz]
      unfold Rn at hr
      split at hr
      · have : (r : Int) = 1 := by have := hP.r1; omega
        rw [hr, this]; rfl
      · rw [rt_sq hr (by omega) ez]; exact ez
  · have := Nat.le_of_dvd (by decide) a
    have := hq.1
    omega
end T
end DL
namespace DL
namespace T
open PySem L2 PySem.Spec PyProof.Rows
theorem sf_of (n : Nat) (h2 : 2 ≤ n) (h3 : n ≤ 1000001) (h : ((List.range 999).all fun i => n % ((i + 2) * (i + 2)) != 0) = true) : SF (n : Int) := by
  refine ⟨by omega, by omega, fun t ht d => ?_⟩
  obtain ⟨j, rfl⟩ : ∃ j : Nat, t = ((j + 2 : Nat) : Int) := ⟨t.toNat - 2, by omega⟩
  have d2 : (j + 2) * (j + 2) ∣ n := Int.natCast_dvd_natCast.mp (by rw [Int.natCast_mul]; exact d)
  have le := Nat.le_of_dvd (by omega) d2
  have j9 : j < 999 := by
    apply Classical.byContradiction
    intro c
    have := Nat.mul_le_mul (by omega : 1001 ≤ j + 2) (by omega : 1001 ≤ j + 2)
    omega
  have := List.all_eq_true.mp h j (List.mem_range.mpr j9)
  rw [Nat.mod_eq_zero_of_dvd d2] at this
  exact absurd this (by decide)
theorem sfs : ∀ n ∈ ([2, 3, 5, 6, 7, 10, 11, 13, 21, 30, 999997, 999983, 510510, 30030, 110891, 10007, 9797, 10403] : List Nat), SF (n : Int) := by
  have key : (([2, 3, 5, 6, 7, 10, 11, 13, 21, 30, 999997, 999983, 510510, 30030, 110891, 10007, 9797, 10403] : List Nat).all fun n => decide (2 ≤ n) && decide (n ≤ 1000001) && ((List.range 999).all fun i => n % ((i + 2) * (i + 2)) != 0)) = true := by decide +kernel
  intro n hn
  have := List.all_eq_true.mp key n hn
  simp only [Bool.and_eq_true, decide_eq_true_eq] at this
  exact sf_of n this.1.1 this.1.2 this.2
theorem sfi (n : Nat) (h : n ∈ ([2, 3, 5, 6, 7, 10, 11, 13, 21, 30, 999997, 999983, 510510, 30030, 110891, 10007, 9797, 10403] : List Nat) := by decide) : SF (n : Int) := sfs n h
theorem r__law_square_free : ∀ ss (Q : D → Prop), S__law_square_free ss Q → g__law_square_free (endsOf Q) (initE N__law_square_free ss) := by
  rintro ss Q ⟨_, rfl, hq⟩
  have hq' := fun n (h : SF n) => hq (.int n) ⟨n, rfl, h⟩
  simp only [N__law_square_free, initE, List.length_cons, List.length_nil, Nat.reduceAdd, Nat.reduceSub, List.replicate, List.cons_append, List.nil_append, List.append_nil]
  simp only [g__law_square_free, fSeqS, fSet, fSetN, fRet, fIfS, fNext, fBreak, fCont, fNever, fBin, fCmp, fV, fN, fC, lk, lk_z, lk_s, gAdd, gSub, gMul, gDiv, gMod, gPow, gShl, gShlW, gShr, gv, gLt, gLe, gGt, gGe, gEq, gNe, gIx, fNeg, fTV, fNot, fAnd, fOr, fAndV, fOrV, fNotV, fIf, fLN, fLC, fAN, fAC, fAB, fNV, fTup, fCB, bInt, bAbs, bLen, bMax2, bMin2, bTuple, fSeq, seqOf, fCall, fCallK, fAsg, gNm, gsNil, gsCons, gTpl, gSq, fPar, fMV, fMN, setAll, fApp, fExt, fSetIx, fFrz, fForS, fRng1, fRng2, fBits, List.set_cons_zero, List.set_cons_succ, List.length_cons, List.length_nil, endsOf, decide_eq_true_eq, true_and, and_true, at0, at1, at2, at3, at4, Bool.not_eq_true', decide_eq_false_iff_not, lg2, Int.reduceLT, ↓reduceIte, pw6, tp6]
  refine go_draw (by decide) (by decide) fun w _ _ => ?_
  simp only [fSeqS, fSet, fSetN, fRet, fIfS, fNext, fBreak, fCont, fNever, fBin, fCmp, fV, fN, fC, lk, lk_z, lk_s, gAdd, gSub, gMul, gDiv, gMod, gPow, gShl, gShlW, gShr, gv, gLt, gLe, gGt, gGe, gEq, gNe, gIx, fNeg, fTV, fNot, fAnd, fOr, fAndV, fOrV, fNotV, fIf, fLN, fLC, fAN, fAC, fAB, fNV, fTup, fCB, bInt, bAbs, bLen, bMax2, bMin2, bTuple, fSeq, seqOf, fCall, fCallK, fAsg, gNm, gsNil, gsCons, gTpl, gSq, fPar, fMV, fMN, setAll, fApp, fExt, fSetIx, fFrz, fForS, fRng1, fRng2, fBits, List.set_cons_zero, List.set_cons_succ, List.length_cons, List.length_nil, endsOf, decide_eq_true_eq, true_and, and_true, at0, at1, at2, at3, at4, Bool.not_eq_true', decide_eq_false_iff_not, lg2, Int.reduceLT, ↓reduceIte]
  have l9 : (9 : Int).natAbs.log2 < 9000 := by decide
  have c1 : CMulW 97 101 := mw (k := 20) (l := 20) (Sm.nat (by decide) (by decide)) (Sm.nat (by decide) (by decide))
  have c2 : CMulW 101 103 := mw (k := 20) (l := 20) (Sm.nat (by decide) (by decide)) (Sm.nat (by decide) (by decide))
  split
  · refine go_pick (by simp) (by simp) fun d hd => ?_
    simp only [List.mem_cons, List.not_mem_nil, or_false] at hd
    rcases hd with rfl | rfl | rfl | rfl | rfl | rfl | rfl | rfl | rfl | rfl
    · exact hq' _ (sfi 2)
    · exact hq' _ (sfi 3)
    · exact hq' _ (sfi 5)
    · exact hq' _ (sfi 6)
    · exact hq' _ (sfi 7)
    · exact hq' _ (sfi 10)
    · exact hq' _ (sfi 11)
    · exact hq' _ (sfi 13)
    · exact hq' _ (sfi 21)
    · exact hq' _ (sfi 30)
  · split
    · refine ⟨l9, c1, c2, ?_⟩
      refine go_pick (by simp) (by simp) fun d hd => ?_
      simp only [List.mem_cons, List.not_mem_nil, or_false] at hd
      rcases hd with rfl | rfl | rfl | rfl | rfl | rfl | rfl | rfl
      · exact hq' _ (sfi 999997)
      · exact hq' _ (sfi 999983)
      · exact hq' _ (sfi 510510)
      · exact hq' _ (sfi 30030)
      · exact hq' _ (sfi 110891)
      · exact hq' _ (sfi 10007)
      · exact hq' _ (sfi 9797)
      · exact hq' _ (sfi 10403)
    · refine go_draw (by decide) (by decide) fun x x0 x1 => ?_
      simp only [fSeqS, fSet, fSetN, fRet, fIfS, fNext, fBreak, fCont, fNever, fBin, fCmp, fV, fN, fC, lk, lk_z, lk_s, gAdd, gSub, gMul, gDiv, gMod, gPow, gShl, gShlW, gShr, gv, gLt, gLe, gGt, gGe, gEq, gNe, gIx, fNeg, fTV, fNot, fAnd, fOr, fAndV, fOrV, fNotV, fIf, fLN, fLC, fAN, fAC, fAB, fNV, fTup, fCB, bInt, bAbs, bLen, bMax2, bMin2, bTuple, fSeq, seqOf, fCall, fCallK, fAsg, gNm, gsNil, gsCons, gTpl, gSq, fPar, fMV, fMN, setAll, fApp, fExt, fSetIx, fFrz, fForS, fRng1, fRng2, fBits, List.set_cons_zero, List.set_cons_succ, List.length_cons, List.length_nil, endsOf, decide_eq_true_eq, true_and, and_true, at0, at1, at2, at3, at4, Bool.not_eq_true', decide_eq_false_iff_not, lg2, Int.reduceLT, ↓reduceIte]
      refine ⟨rfl, ⟨2 + x, rfl, by omega, by omega⟩, ?_⟩
      rintro d ⟨n, m, k, e, rfl, k1, k2, kf⟩
      try simp only [fSeqS, fSet, fSetN, fRet, fIfS, fNext, fBreak, fCont, fNever, fBin, fCmp, fV, fN, fC, lk, lk_z, lk_s, gAdd, gSub, gMul, gDiv, gMod, gPow, gShl, gShlW, gShr, gv, gLt, gLe, gGt, gGe, gEq, gNe, gIx, fNeg, fTV, fNot, fAnd, fOr, fAndV, fOrV, fNotV, fIf, fLN, fLC, fAN, fAC, fAB, fNV, fTup, fCB, bInt, bAbs, bLen, bMax2, bMin2, bTuple, fSeq, seqOf, fCall, fCallK, fAsg, gNm, gsNil, gsCons, gTpl, gSq, fPar, fMV, fMN, setAll, fApp, fExt, fSetIx, fFrz, fForS, fRng1, fRng2, fBits, List.set_cons_zero, List.set_cons_succ, List.length_cons, List.length_nil, endsOf, decide_eq_true_eq, true_and, and_true, at0, at1, at2, at3, at4, Bool.not_eq_true', decide_eq_false_iff_not, lg2, Int.reduceLT, ↓reduceIte]
      split
      · exact hq' k ⟨by omega, k2, kf⟩
      · exact hq' _ (sfi 2)
theorem r__law_near : ∀ ss (Q : D → Prop), S__law_near ss Q → g__law_near (endsOf Q) (initE N__law_near ss) := by
  rintro ss Q ⟨_, ⟨n, st, rfl, hn, st0, st1⟩, hq⟩
  have hq' := fun (h k : Int) a b c d => hq (.tuple [.int h, .int k]) ⟨h, k, rfl, a, b, c, d⟩
  have n2 := hn.1
  have n3 := hn.2.1
  simp only [N__law_near, initE, List.length_cons, List.length_nil, Nat.reduceAdd, Nat.reduceSub, List.replicate, List.cons_append, List.nil_append, List.append_nil]
  simp only [g__law_near, fSeqS, fSet, fSetN, fRet, fIfS, fNext, fBreak, fCont, fNever, fBin, fCmp, fV, fN, fC, lk, lk_z, lk_s, gAdd, gSub, gMul, gDiv, gMod, gPow, gShl, gShlW, gShr, gv, gLt, gLe, gGt, gGe, gEq, gNe, gIx, fNeg, fTV, fNot, fAnd, fOr, fAndV, fOrV, fNotV, fIf, fLN, fLC, fAN, fAC, fAB, fNV, fTup, fCB, bInt, bAbs, bLen, bMax2, bMin2, bTuple, fSeq, seqOf, fCall, fCallK, fAsg, gNm, gsNil, gsCons, gTpl, gSq, fPar, fMV, fMN, setAll, fApp, fExt, fSetIx, fFrz, fForS, fRng1, fRng2, fBits, List.set_cons_zero, List.set_cons_succ, List.length_cons, List.length_nil, endsOf, decide_eq_true_eq, true_and, and_true, at0, at1, at2, at3, at4, Bool.not_eq_true', decide_eq_false_iff_not, lg2, Int.reduceLT, ↓reduceIte, pw11, tp11]
  refine go_root (hn.sm.le (by decide)) ?_
  have hw := rF_ok n
  unfold Rn at hw
  rw [if_neg (by omega)] at hw
  generalize rF n = w at hw
  have w1 := rt_pos hw (by omega)
  have sqw : w * w < n := by
    have := hw.2.1
    apply Classical.byContradiction
    intro c
    have e : w * w = n := by omega
    by_cases z : 2 ≤ w
    · exact hn.2.2 w z ⟨1, by rw [e, Int.mul_one]⟩
    · have : w = 1 := by omega
      subst this
      omega
  have w1000 : w ≤ 1000 := by
    apply Classical.byContradiction
    intro c
    have := sq_le (a := 1001) (b := w) (by decide) (by omega)
    omega
  try simp only [fSeqS, fSet, fSetN, fRet, fIfS, fNext, fBreak, fCont, fNever, fBin, fCmp, fV, fN, fC, lk, lk_z, lk_s, gAdd, gSub, gMul, gDiv, gMod, gPow, gShl, gShlW, gShr, gv, gLt, gLe, gGt, gGe, gEq, gNe, gIx, fNeg, fTV, fNot, fAnd, fOr, fAndV, fOrV, fNotV, fIf, fLN, fLC, fAN, fAC, fAB, fNV, fTup, fCB, bInt, bAbs, bLen, bMax2, bMin2, bTuple, fSeq, seqOf, fCall, fCallK, fAsg, gNm, gsNil, gsCons, gTpl, gSq, fPar, fMV, fMN, setAll, fApp, fExt, fSetIx, fFrz, fForS, fRng1, fRng2, fBits, List.set_cons_zero, List.set_cons_succ, List.length_cons, List.length_nil, endsOf, decide_eq_true_eq, true_and, and_true, at0, at1, at2, at3, at4, Bool.not_eq_true', decide_eq_false_iff_not, lg2, Int.reduceLT, ↓reduceIte]
  refine ⟨by omega, by omega, ?_⟩
  have c9 : CMulW 9 100000000000 := mw (k := 40) (l := 40) (Sm.nat (by decide) (by decide)) (Sm.nat (by decide) (by decide))
  refine for_of (fun _ ρ => ∃ (m q h k h' k' : Int) (t : Sl), ρ = [.bg, iS n, iS st, iS w, iS m, iS q, iS ((w + m) / q), iS h, iS k, iS h', iS k', t] ∧ 1 ≤ q ∧ q ≤ w + m ∧ m ≤ w ∧ (∃ z, n - m * m = q * z) ∧
    0 ≤ h ∧ h ≤ 900000000000 ∧ 0 ≤ k ∧ k ≤ h ∧ 1 ≤ h' ∧ h' ≤ 900000000000 ∧ 1 ≤ k' ∧ k' ≤ h') ?_ ?_ _ _ ⟨0, 1, 1, 0, w, 1, .un, by simp, by decide, by omega, by omega, ⟨n, by omega⟩, by decide, by decide, by decide, by decide, by omega, by omega, by decide, by omega⟩
  · rintro d ds ρ ⟨m, q, h, k, h', k', t, rfl, q1, qw, mw', ⟨z, hz⟩, h0, h1, k0, k1, h'0, h'1, k'0, k'1⟩ K hK
    have d1 := Int.ediv_mul_le (w + m) (b := q) (by omega)
    have d2 := Int.lt_ediv_add_one_mul_self (w + m) (b := q) (by omega)
    have t1 : 1 ≤ (w + m) / q := by
      have := (Int.le_ediv_iff_mul_le (a := 1) (b := w + m) (c := q) (by omega)).mpr (by omega)
      exact this
    have t2 : (w + m) / q ≤ 2000 := by
      have := Int.mul_le_mul_of_nonneg_left (a := 1) (b := q) (c := (w + m) / q) (by omega) (by omega)
      omega
    generalize (w + m) / q = T at d1 d2 t1 t2
    rw [Int.add_mul, Int.one_mul] at d2
    have sT : Sm 20 T := Sm.nat (by omega) (by omega)
    have sq : Sm 20 q := Sm.nat (by omega) (by omega)
    have b1 : T * q - m ≤ w := by omega
    have b2 : w - q < T * q - m := by omega
    have dv : ∃ z', n - (T * q - m) * (T * q - m) = q * z' := by
      refine ⟨z - T * (T * q) + 2 * (T * m), ?_⟩
      have e : (T * q - m) * (T * q - m) = (T * q) * (T * q) - 2 * (T * m * q) + m * m := by
        rw [Int.sub_mul, Int.mul_sub, Int.mul_sub]
        have e1 : T * q * m = T * m * q := by rw [Int.mul_assoc, Int.mul_comm q m, Int.mul_assoc]
        have e2 : m * (T * q) = T * m * q := by rw [← Int.mul_assoc, Int.mul_comm m T]
        omega
      have e3 : q * (z - T * (T * q) + 2 * (T * m)) = q * z - (T * q) * (T * q) + 2 * (T * m * q) := by
        rw [Int.mul_add, Int.mul_sub]
        have e4 : q * (T * (T * q)) = T * q * (T * q) := by rw [← Int.mul_assoc, Int.mul_comm q T]
        have e5 : q * (2 * (T * m)) = 2 * (T * m * q) := by rw [Int.mul_comm q, Int.mul_assoc]
        omega
      omega
    obtain ⟨z', hz'⟩ := dv
    generalize hM : T * q - m = M at b1 b2 hz'
    have sM : Sm 20 M := sm_small (by omega) (by omega)
    have absM : M * M ≤ w * w := by
      by_cases c : 0 ≤ M
      · exact sq_le c b1
      · have := sq_le (a := -M) (b := w) (by omega) (by omega)
        rwa [Int.neg_mul_neg] at this
    have p : 0 < q * z' := by omega
    have z1 : 1 ≤ z' := by
      apply Classical.byContradiction
      intro c
      have := Int.mul_nonneg (a := q) (b := -z') (by omega) (by omega)
      rw [Int.mul_neg] at this
      omega
    have ez : (n - M * M) / q = z' := by
      rw [hz']
      exact Int.mul_ediv_cancel_left z' (by omega)
    have zw : z' ≤ w + M := by
      apply Classical.byContradiction
      intro c
      have m1 := Int.mul_le_mul_of_nonneg_left (a := w + M + 1) (b := z') (c := q) (by omega) (by omega)
      have m2 := Int.mul_le_mul_of_nonneg_right (a := w - M + 1) (b := q) (c := w + M + 1) (by omega) (by omega)
      have e : (w - M + 1) * (w + M + 1) = (w + 1) * (w + 1) - M * M := by
        have e1 : w - M + 1 = (w + 1) - M := by omega
        have e2 : w + M + 1 = (w + 1) + M := by omega
        have key : ∀ W : Int, (W - M) * (W + M) = W * W - M * M := fun W => by
          rw [Int.sub_mul, Int.mul_add, Int.mul_add, Int.mul_comm M W]
          omega
        rw [e1, e2]
        exact key (w + 1)
      have := hw.2.2
      omega
    have sz : Sm 20 z' := Sm.nat (by omega) (by omega)
    have sh' : Sm 40 h' := Sm.nat (by omega) (by omega)
    have sk' : Sm 40 k' := Sm.nat (by omega) (by omega)
    simp only [fSeqS, fSet, fSetN, fRet, fIfS, fNext, fBreak, fCont, fNever, fBin, fCmp, fV, fN, fC, lk, lk_z, lk_s, gAdd, gSub, gMul, gDiv, gMod, gPow, gShl, gShlW, gShr, gv, gLt, gLe, gGt, gGe, gEq, gNe, gIx, fNeg, fTV, fNot, fAnd, fOr, fAndV, fOrV, fNotV, fIf, fLN, fLC, fAN, fAC, fAB, fNV, fTup, fCB, bInt, bAbs, bLen, bMax2, bMin2, bTuple, fSeq, seqOf, fCall, fCallK, fAsg, gNm, gsNil, gsCons, gTpl, gSq, fPar, fMV, fMN, setAll, fApp, fExt, fSetIx, fFrz, fForS, fRng1, fRng2, fBits, List.set_cons_zero, List.set_cons_succ, List.length_cons, List.length_nil, endsOf, decide_eq_true_eq, true_and, and_true, at0, at1, at2, at3, at4, Bool.not_eq_true', decide_eq_false_iff_not, lg2, Int.reduceLT, ↓reduceIte, pw11, tp11, hM, ez, c9, sq.log, sz.log, mw sT sq, mw sM sM]
    rw [if_pos (by omega : 0 < q), if_pos (by omega : 0 < z')]
    have t1' : 1 ≤ (w + M) / z' := (Int.le_ediv_iff_mul_le (a := 1) (b := w + M) (c := z') (by omega)).mpr (by omega)
    have t2' : (w + M) / z' ≤ 2000 := by
      have := Int.ediv_mul_le (w + M) (b := z') (by omega)
      have := Int.mul_le_mul_of_nonneg_left (a := 1) (b := z') (c := (w + M) / z') (by omega) (by omega)
      omega
    have sT' : Sm 20 ((w + M) / z') := Sm.nat (by omega) (by omega)
    refine ⟨mw sT' sh', ?_⟩
    split
    · exact hq' _ _ (by omega) h'1 (by omega) k'1
    · rename_i le
      refine ⟨mw sT' sh', mw sT' sk', hK _ ⟨M, z', h', k', _, _, _, rfl, z1, zw, b1, ⟨q, by rw [hz', Int.mul_comm]⟩, by omega, h'1, by omega, k'1, ?_, by omega, ?_, ?_⟩⟩
      · have := Int.mul_nonneg (a := (w + M) / z') (b := h') (by omega) (by omega)
        have := Int.mul_le_mul_of_nonneg_right (a := 1) (b := (w + M) / z') (c := h') (by omega) (by omega)
        omega
      · have := Int.mul_le_mul_of_nonneg_right (a := 1) (b := (w + M) / z') (c := k') (by omega) (by omega)
        omega
      · have := Int.mul_le_mul_of_nonneg_left (a := k') (b := h') (c := (w + M) / z') (by omega) (by omega)
        omega
  · rintro ρ ⟨m, q, h, k, h', k', t, rfl, q1, qw, mw', _, h0, h1, k0, k1, h'0, h'1, k'0, k'1⟩
    simp only [fSeqS, fSet, fSetN, fRet, fIfS, fNext, fBreak, fCont, fNever, fBin, fCmp, fV, fN, fC, lk, lk_z, lk_s, gAdd, gSub, gMul, gDiv, gMod, gPow, gShl, gShlW, gShr, gv, gLt, gLe, gGt, gGe, gEq, gNe, gIx, fNeg, fTV, fNot, fAnd, fOr, fAndV, fOrV, fNotV, fIf, fLN, fLC, fAN, fAC, fAB, fNV, fTup, fCB, bInt, bAbs, bLen, bMax2, bMin2, bTuple, fSeq, seqOf, fCall, fCallK, fAsg, gNm, gsNil, gsCons, gTpl, gSq, fPar, fMV, fMN, setAll, fApp, fExt, fSetIx, fFrz, fForS, fRng1, fRng2, fBits, List.set_cons_zero, List.set_cons_succ, List.length_cons, List.length_nil, endsOf, decide_eq_true_eq, true_and, and_true, at0, at1, at2, at3, at4, Bool.not_eq_true', decide_eq_false_iff_not, lg2, Int.reduceLT, ↓reduceIte]
    exact hq' _ _ (by omega) h'1 (by omega) k'1
end T
end DL
namespace DL
namespace T
open PySem L2 PySem.Spec PyProof.Rows
theorem perm1 {α : Type} (x : α) : perm [0] [x] = [x] := rfl
theorem perm2 {α : Type} (x y : α) : perm [1, 0] [x, y] = [y, x] := rfl
theorem r__law_told : ∀ ss (Q : D → Prop), S__law_told ss Q → g__law_told (endsOf Q) (initE N__law_told ss) := by
  rintro ss Q ⟨q, b, rfl, h, hq'⟩
  simp only [N__law_told, initE, List.length_cons, List.length_nil, Nat.reduceAdd, Nat.reduceSub, List.replicate, List.cons_append, List.nil_append, List.append_nil]
  unfold g__law_told
  cases q with
  | sign s =>
    refine take_str rfl ?_
    simp only [fSeqS, fSet, fSetN, fRet, fIfS, fNext, fBreak, fCont, fNever, fBin, fCmp, fV, fN, fC, lk, lk_z, lk_s, gAdd, gSub, gMul, gDiv, gMod, gPow, gShl, gShlW, gShr, gv, gLt, gLe, gGt, gGe, gEq, gNe, gIx, fNeg, fTV, fNot, fAnd, fOr, fAndV, fOrV, fNotV, fIf, fLN, fLC, fAN, fAC, fAB, fNV, fTup, fCB, bInt, bAbs, bLen, bMax2, bMin2, bTuple, fSeq, seqOf, fCall, fCallK, fAsg, gNm, gsNil, gsCons, gTpl, gSq, fPar, fMV, fMN, setAll, fApp, fExt, fSetIx, fFrz, fForS, fRng1, fRng2, fBits, List.set_cons_zero, List.set_cons_succ, List.length_cons, List.length_nil, endsOf, decide_eq_true_eq, true_and, and_true, at0, at1, at2, at3, at4, Bool.not_eq_true', decide_eq_false_iff_not, lg2, Int.reduceLT, ↓reduceIte, Ask.row, perm1, perm2]
    split <;> exact go1 (F := fun s => .int (sgn s.a s.b s.d)) (h.le (by decide)) hq'
  | order s t =>
    refine skip_str rfl (by dsimp only [Ask.word]; decide +kernel) (take_str rfl ?_)
    simp only [fSeqS, fSet, fSetN, fRet, fIfS, fNext, fBreak, fCont, fNever, fBin, fCmp, fV, fN, fC, lk, lk_z, lk_s, gAdd, gSub, gMul, gDiv, gMod, gPow, gShl, gShlW, gShr, gv, gLt, gLe, gGt, gGe, gEq, gNe, gIx, fNeg, fTV, fNot, fAnd, fOr, fAndV, fOrV, fNotV, fIf, fLN, fLC, fAN, fAC, fAB, fNV, fTup, fCB, bInt, bAbs, bLen, bMax2, bMin2, bTuple, fSeq, seqOf, fCall, fCallK, fAsg, gNm, gsNil, gsCons, gTpl, gSq, fPar, fMV, fMN, setAll, fApp, fExt, fSetIx, fFrz, fForS, fRng1, fRng2, fBits, List.set_cons_zero, List.set_cons_succ, List.length_cons, List.length_nil, endsOf, decide_eq_true_eq, true_and, and_true, at0, at1, at2, at3, at4, Bool.not_eq_true', decide_eq_false_iff_not, lg2, Int.reduceLT, ↓reduceIte, Ask.row, perm1, perm2]
    split <;> exact go2 (F := fun s t => .int (sgn (sumS s (negS t)).a (sumS s (negS t)).b (sumS s (negS t)).d)) h hq'
  | whole s =>
    refine skip_str rfl (by dsimp only [Ask.word]; decide +kernel) (skip_str rfl (by dsimp only [Ask.word]; decide +kernel) (take_str rfl ?_))
    simp only [fSeqS, fSet, fSetN, fRet, fIfS, fNext, fBreak, fCont, fNever, fBin, fCmp, fV, fN, fC, lk, lk_z, lk_s, gAdd, gSub, gMul, gDiv, gMod, gPow, gShl, gShlW, gShr, gv, gLt, gLe, gGt, gGe, gEq, gNe, gIx, fNeg, fTV, fNot, fAnd, fOr, fAndV, fOrV, fNotV, fIf, fLN, fLC, fAN, fAC, fAB, fNV, fTup, fCB, bInt, bAbs, bLen, bMax2, bMin2, bTuple, fSeq, seqOf, fCall, fCallK, fAsg, gNm, gsNil, gsCons, gTpl, gSq, fPar, fMV, fMN, setAll, fApp, fExt, fSetIx, fFrz, fForS, fRng1, fRng2, fBits, List.set_cons_zero, List.set_cons_succ, List.length_cons, List.length_nil, endsOf, decide_eq_true_eq, true_and, and_true, at0, at1, at2, at3, at4, Bool.not_eq_true', decide_eq_false_iff_not, lg2, Int.reduceLT, ↓reduceIte, Ask.row, perm1, perm2]
    split <;> exact go1 (F := fun s => .int (wholeS s (rF (s.b * s.b * s.d)))) h hq'
  | less s t =>
    refine skip_str rfl (by dsimp only [Ask.word]; decide +kernel) (skip_str rfl (by dsimp only [Ask.word]; decide +kernel) (skip_str rfl (by dsimp only [Ask.word]; decide +kernel) (take_str rfl ?_)))
    simp only [fSeqS, fSet, fSetN, fRet, fIfS, fNext, fBreak, fCont, fNever, fBin, fCmp, fV, fN, fC, lk, lk_z, lk_s, gAdd, gSub, gMul, gDiv, gMod, gPow, gShl, gShlW, gShr, gv, gLt, gLe, gGt, gGe, gEq, gNe, gIx, fNeg, fTV, fNot, fAnd, fOr, fAndV, fOrV, fNotV, fIf, fLN, fLC, fAN, fAC, fAB, fNV, fTup, fCB, bInt, bAbs, bLen, bMax2, bMin2, bTuple, fSeq, seqOf, fCall, fCallK, fAsg, gNm, gsNil, gsCons, gTpl, gSq, fPar, fMV, fMN, setAll, fApp, fExt, fSetIx, fFrz, fForS, fRng1, fRng2, fBits, List.set_cons_zero, List.set_cons_succ, List.length_cons, List.length_nil, endsOf, decide_eq_true_eq, true_and, and_true, at0, at1, at2, at3, at4, Bool.not_eq_true', decide_eq_false_iff_not, lg2, Int.reduceLT, ↓reduceIte, Ask.row, perm1, perm2]
    refine go1 (F := fun s => (negS s).D) trivial ?_
    try simp only [fSeqS, fSet, fSetN, fRet, fIfS, fNext, fBreak, fCont, fNever, fBin, fCmp, fV, fN, fC, lk, lk_z, lk_s, gAdd, gSub, gMul, gDiv, gMod, gPow, gShl, gShlW, gShr, gv, gLt, gLe, gGt, gGe, gEq, gNe, gIx, fNeg, fTV, fNot, fAnd, fOr, fAndV, fOrV, fNotV, fIf, fLN, fLC, fAN, fAC, fAB, fNV, fTup, fCB, bInt, bAbs, bLen, bMax2, bMin2, bTuple, fSeq, seqOf, fCall, fCallK, fAsg, gNm, gsNil, gsCons, gTpl, gSq, fPar, fMV, fMN, setAll, fApp, fExt, fSetIx, fFrz, fForS, fRng1, fRng2, fBits, List.set_cons_zero, List.set_cons_succ, List.length_cons, List.length_nil, endsOf, decide_eq_true_eq, true_and, and_true, at0, at1, at2, at3, at4, Bool.not_eq_true', decide_eq_false_iff_not, lg2, Int.reduceLT, ↓reduceIte]
    refine go2 (F := fun s t => (sumS s t).D) ⟨h.1, h.2.neg⟩ ?_
    try simp only [fSeqS, fSet, fSetN, fRet, fIfS, fNext, fBreak, fCont, fNever, fBin, fCmp, fV, fN, fC, lk, lk_z, lk_s, gAdd, gSub, gMul, gDiv, gMod, gPow, gShl, gShlW, gShr, gv, gLt, gLe, gGt, gGe, gEq, gNe, gIx, fNeg, fTV, fNot, fAnd, fOr, fAndV, fOrV, fNotV, fIf, fLN, fLC, fAN, fAC, fAB, fNV, fTup, fCB, bInt, bAbs, bLen, bMax2, bMin2, bTuple, fSeq, seqOf, fCall, fCallK, fAsg, gNm, gsNil, gsCons, gTpl, gSq, fPar, fMV, fMN, setAll, fApp, fExt, fSetIx, fFrz, fForS, fRng1, fRng2, fBits, List.set_cons_zero, List.set_cons_succ, List.length_cons, List.length_nil, endsOf, decide_eq_true_eq, true_and, and_true, at0, at1, at2, at3, at4, Bool.not_eq_true', decide_eq_false_iff_not, lg2, Int.reduceLT, ↓reduceIte]
    exact go1 (F := fun s => .int (sgn s.a s.b s.d)) ((h.1.sum h.2.neg).le (by decide)) hq'
  | of s =>
    refine skip_str rfl (by dsimp only [Ask.word]; decide +kernel) (skip_str rfl (by dsimp only [Ask.word]; decide +kernel) (skip_str rfl (by dsimp only [Ask.word]; decide +kernel) (skip_str rfl (by dsimp only [Ask.word]; decide +kernel) (take_str rfl ?_))))
    simp only [fSeqS, fSet, fSetN, fRet, fIfS, fNext, fBreak, fCont, fNever, fBin, fCmp, fV, fN, fC, lk, lk_z, lk_s, gAdd, gSub, gMul, gDiv, gMod, gPow, gShl, gShlW, gShr, gv, gLt, gLe, gGt, gGe, gEq, gNe, gIx, fNeg, fTV, fNot, fAnd, fOr, fAndV, fOrV, fNotV, fIf, fLN, fLC, fAN, fAC, fAB, fNV, fTup, fCB, bInt, bAbs, bLen, bMax2, bMin2, bTuple, fSeq, seqOf, fCall, fCallK, fAsg, gNm, gsNil, gsCons, gTpl, gSq, fPar, fMV, fMN, setAll, fApp, fExt, fSetIx, fFrz, fForS, fRng1, fRng2, fBits, List.set_cons_zero, List.set_cons_succ, List.length_cons, List.length_nil, endsOf, decide_eq_true_eq, true_and, and_true, at0, at1, at2, at3, at4, Bool.not_eq_true', decide_eq_false_iff_not, lg2, Int.reduceLT, ↓reduceIte, Ask.row, perm1, perm2]
    exact go4 (F := fun s => (nrm s.a s.b s.c s.d).D) h hq'
  | sum s t =>
    refine skip_str rfl (by dsimp only [Ask.word]; decide +kernel) (skip_str rfl (by dsimp only [Ask.word]; decide +kernel) (skip_str rfl (by dsimp only [Ask.word]; decide +kernel) (skip_str rfl (by dsimp only [Ask.word]; decide +kernel) (skip_str rfl (by dsimp only [Ask.word]; decide +kernel) (take_str rfl ?_)))))
    simp only [fSeqS, fSet, fSetN, fRet, fIfS, fNext, fBreak, fCont, fNever, fBin, fCmp, fV, fN, fC, lk, lk_z, lk_s, gAdd, gSub, gMul, gDiv, gMod, gPow, gShl, gShlW, gShr, gv, gLt, gLe, gGt, gGe, gEq, gNe, gIx, fNeg, fTV, fNot, fAnd, fOr, fAndV, fOrV, fNotV, fIf, fLN, fLC, fAN, fAC, fAB, fNV, fTup, fCB, bInt, bAbs, bLen, bMax2, bMin2, bTuple, fSeq, seqOf, fCall, fCallK, fAsg, gNm, gsNil, gsCons, gTpl, gSq, fPar, fMV, fMN, setAll, fApp, fExt, fSetIx, fFrz, fForS, fRng1, fRng2, fBits, List.set_cons_zero, List.set_cons_succ, List.length_cons, List.length_nil, endsOf, decide_eq_true_eq, true_and, and_true, at0, at1, at2, at3, at4, Bool.not_eq_true', decide_eq_false_iff_not, lg2, Int.reduceLT, ↓reduceIte, Ask.row, perm1, perm2]
    exact go2 (F := fun s t => (sumS s t).D) ⟨h.1.le (by decide), h.2.le (by decide)⟩ hq'
  | times s t =>
    refine skip_str rfl (by dsimp only [Ask.word]; decide +kernel) (skip_str rfl (by dsimp only [Ask.word]; decide +kernel) (skip_str rfl (by dsimp only [Ask.word]; decide +kernel) (skip_str rfl (by dsimp only [Ask.word]; decide +kernel) (skip_str rfl (by dsimp only [Ask.word]; decide +kernel) (skip_str rfl (by dsimp only [Ask.word]; decide +kernel) ?_)))))
    simp only [fSeqS, fSet, fSetN, fRet, fIfS, fNext, fBreak, fCont, fNever, fBin, fCmp, fV, fN, fC, lk, lk_z, lk_s, gAdd, gSub, gMul, gDiv, gMod, gPow, gShl, gShlW, gShr, gv, gLt, gLe, gGt, gGe, gEq, gNe, gIx, fNeg, fTV, fNot, fAnd, fOr, fAndV, fOrV, fNotV, fIf, fLN, fLC, fAN, fAC, fAB, fNV, fTup, fCB, bInt, bAbs, bLen, bMax2, bMin2, bTuple, fSeq, seqOf, fCall, fCallK, fAsg, gNm, gsNil, gsCons, gTpl, gSq, fPar, fMV, fMN, setAll, fApp, fExt, fSetIx, fFrz, fForS, fRng1, fRng2, fBits, List.set_cons_zero, List.set_cons_succ, List.length_cons, List.length_nil, endsOf, decide_eq_true_eq, true_and, and_true, at0, at1, at2, at3, at4, Bool.not_eq_true', decide_eq_false_iff_not, lg2, Int.reduceLT, ↓reduceIte, Ask.row, perm1, perm2]
    exact go2 (F := fun s t => (mulS s t).D) ⟨h.1.le (by decide), h.2.le (by decide)⟩ hq'
theorem r__law_due : ∀ ss (Q : D → Prop), S__law_due ss Q → g__law_due (endsOf Q) (initE N__law_due ss) := by
  rintro ss Q ⟨q, rfl, h, ho, hq'⟩
  simp only [N__law_due, initE, List.length_cons, List.length_nil, Nat.reduceAdd, Nat.reduceSub, List.replicate, List.cons_append, List.nil_append, List.append_nil]
  unfold g__law_due
  cases q with
  | sign s =>
    refine take_str rfl ?_
    simp only [fSeqS, fSet, fSetN, fRet, fIfS, fNext, fBreak, fCont, fNever, fBin, fCmp, fV, fN, fC, lk, lk_z, lk_s, gAdd, gSub, gMul, gDiv, gMod, gPow, gShl, gShlW, gShr, gv, gLt, gLe, gGt, gGe, gEq, gNe, gIx, fNeg, fTV, fNot, fAnd, fOr, fAndV, fOrV, fNotV, fIf, fLN, fLC, fAN, fAC, fAB, fNV, fTup, fCB, bInt, bAbs, bLen, bMax2, bMin2, bTuple, fSeq, seqOf, fCall, fCallK, fAsg, gNm, gsNil, gsCons, gTpl, gSq, fPar, fMV, fMN, setAll, fApp, fExt, fSetIx, fFrz, fForS, fRng1, fRng2, fBits, List.set_cons_zero, List.set_cons_succ, List.length_cons, List.length_nil, endsOf, decide_eq_true_eq, true_and, and_true, at0, at1, at2, at3, at4, Bool.not_eq_true', decide_eq_false_iff_not, lg2, Int.reduceLT, ↓reduceIte, Ask.row, D4]
    exact go__law_own_sign ⟨h.a.le (by decide), h.b.le (by decide), h.d.le (by decide)⟩ hq'
  | whole s =>
    refine skip_str rfl (by dsimp only [Ask.word]; decide +kernel) (take_str rfl ?_)
    simp only [fSeqS, fSet, fSetN, fRet, fIfS, fNext, fBreak, fCont, fNever, fBin, fCmp, fV, fN, fC, lk, lk_z, lk_s, gAdd, gSub, gMul, gDiv, gMod, gPow, gShl, gShlW, gShr, gv, gLt, gLe, gGt, gGe, gEq, gNe, gIx, fNeg, fTV, fNot, fAnd, fOr, fAndV, fOrV, fNotV, fIf, fLN, fLC, fAN, fAC, fAB, fNV, fTup, fCB, bInt, bAbs, bLen, bMax2, bMin2, bTuple, fSeq, seqOf, fCall, fCallK, fAsg, gNm, gsNil, gsCons, gTpl, gSq, fPar, fMV, fMN, setAll, fApp, fExt, fSetIx, fFrz, fForS, fRng1, fRng2, fBits, List.set_cons_zero, List.set_cons_succ, List.length_cons, List.length_nil, endsOf, decide_eq_true_eq, true_and, and_true, at0, at1, at2, at3, at4, Bool.not_eq_true', decide_eq_false_iff_not, lg2, Int.reduceLT, ↓reduceIte, Ask.row]
    exact go1 (F := fun s => .int (wholeS s (rF (s.b * s.b * s.d)))) h hq'
  | sum s t =>
    refine skip_str rfl (by dsimp only [Ask.word]; decide +kernel) (skip_str rfl (by dsimp only [Ask.word]; decide +kernel) (take_str rfl ?_))
    simp only [fSeqS, fSet, fSetN, fRet, fIfS, fNext, fBreak, fCont, fNever, fBin, fCmp, fV, fN, fC, lk, lk_z, lk_s, gAdd, gSub, gMul, gDiv, gMod, gPow, gShl, gShlW, gShr, gv, gLt, gLe, gGt, gGe, gEq, gNe, gIx, fNeg, fTV, fNot, fAnd, fOr, fAndV, fOrV, fNotV, fIf, fLN, fLC, fAN, fAC, fAB, fNV, fTup, fCB, bInt, bAbs, bLen, bMax2, bMin2, bTuple, fSeq, seqOf, fCall, fCallK, fAsg, gNm, gsNil, gsCons, gTpl, gSq, fPar, fMV, fMN, setAll, fApp, fExt, fSetIx, fFrz, fForS, fRng1, fRng2, fBits, List.set_cons_zero, List.set_cons_succ, List.length_cons, List.length_nil, endsOf, decide_eq_true_eq, true_and, and_true, at0, at1, at2, at3, at4, Bool.not_eq_true', decide_eq_false_iff_not, lg2, Int.reduceLT, ↓reduceIte, Ask.row]
    exact go2 (F := fun s t => (sumS s t).D) ⟨h.1.le (by decide), h.2.le (by decide)⟩ hq'
  | times s t =>
    refine skip_str rfl (by dsimp only [Ask.word]; decide +kernel) (skip_str rfl (by dsimp only [Ask.word]; decide +kernel) (skip_str rfl (by dsimp only [Ask.word]; decide +kernel) (take_str rfl ?_)))
    simp only [fSeqS, fSet, fSetN, fRet, fIfS, fNext, fBreak, fCont, fNever, fBin, fCmp, fV, fN, fC, lk, lk_z, lk_s, gAdd, gSub, gMul, gDiv, gMod, gPow, gShl, gShlW, gShr, gv, gLt, gLe, gGt, gGe, gEq, gNe, gIx, fNeg, fTV, fNot, fAnd, fOr, fAndV, fOrV, fNotV, fIf, fLN, fLC, fAN, fAC, fAB, fNV, fTup, fCB, bInt, bAbs, bLen, bMax2, bMin2, bTuple, fSeq, seqOf, fCall, fCallK, fAsg, gNm, gsNil, gsCons, gTpl, gSq, fPar, fMV, fMN, setAll, fApp, fExt, fSetIx, fFrz, fForS, fRng1, fRng2, fBits, List.set_cons_zero, List.set_cons_succ, List.length_cons, List.length_nil, endsOf, decide_eq_true_eq, true_and, and_true, at0, at1, at2, at3, at4, Bool.not_eq_true', decide_eq_false_iff_not, lg2, Int.reduceLT, ↓reduceIte, Ask.row]
    exact go2 (F := fun s t => (mulS s t).D) ⟨h.1.le (by decide), h.2.le (by decide)⟩ hq'
  | of s => cases ho
  | order s t =>
    refine skip_str rfl (by dsimp only [Ask.word]; decide +kernel) (skip_str rfl (by dsimp only [Ask.word]; decide +kernel) (skip_str rfl (by dsimp only [Ask.word]; decide +kernel) (skip_str rfl (by dsimp only [Ask.word]; decide +kernel) ?_)))
    simp only [fSeqS, fSet, fSetN, fRet, fIfS, fNext, fBreak, fCont, fNever, fBin, fCmp, fV, fN, fC, lk, lk_z, lk_s, gAdd, gSub, gMul, gDiv, gMod, gPow, gShl, gShlW, gShr, gv, gLt, gLe, gGt, gGe, gEq, gNe, gIx, fNeg, fTV, fNot, fAnd, fOr, fAndV, fOrV, fNotV, fIf, fLN, fLC, fAN, fAC, fAB, fNV, fTup, fCB, bInt, bAbs, bLen, bMax2, bMin2, bTuple, fSeq, seqOf, fCall, fCallK, fAsg, gNm, gsNil, gsCons, gTpl, gSq, fPar, fMV, fMN, setAll, fApp, fExt, fSetIx, fFrz, fForS, fRng1, fRng2, fBits, List.set_cons_zero, List.set_cons_succ, List.length_cons, List.length_nil, endsOf, decide_eq_true_eq, true_and, and_true, at0, at1, at2, at3, at4, Bool.not_eq_true', decide_eq_false_iff_not, lg2, Int.reduceLT, ↓reduceIte, Ask.row, D4]
    refine go2 (s := s) (t := negS t) (F := fun s t => (sumS s t).D) ⟨h.1, h.2.neg⟩ ?_
    simp only [fSeqS, fSet, fSetN, fRet, fIfS, fNext, fBreak, fCont, fNever, fBin, fCmp, fV, fN, fC, lk, lk_z, lk_s, gAdd, gSub, gMul, gDiv, gMod, gPow, gShl, gShlW, gShr, gv, gLt, gLe, gGt, gGe, gEq, gNe, gIx, fNeg, fTV, fNot, fAnd, fOr, fAndV, fOrV, fNotV, fIf, fLN, fLC, fAN, fAC, fAB, fNV, fTup, fCB, bInt, bAbs, bLen, bMax2, bMin2, bTuple, fSeq, seqOf, fCall, fCallK, fAsg, gNm, gsNil, gsCons, gTpl, gSq, fPar, fMV, fMN, setAll, fApp, fExt, fSetIx, fFrz, fForS, fRng1, fRng2, fBits, List.set_cons_zero, List.set_cons_succ, List.length_cons, List.length_nil, endsOf, decide_eq_true_eq, true_and, and_true, at0, at1, at2, at3, at4, Bool.not_eq_true', decide_eq_false_iff_not, lg2, Int.reduceLT, ↓reduceIte, D4]
    have u := h.1.sum h.2.neg
    exact go__law_own_sign ⟨u.a.le (by decide), u.b.le (by decide), u.d.le (by decide)⟩ hq'
  | less s t =>
    refine skip_str rfl (by dsimp only [Ask.word]; decide +kernel) (skip_str rfl (by dsimp only [Ask.word]; decide +kernel) (skip_str rfl (by dsimp only [Ask.word]; decide +kernel) (skip_str rfl (by dsimp only [Ask.word]; decide +kernel) ?_)))
    simp only [fSeqS, fSet, fSetN, fRet, fIfS, fNext, fBreak, fCont, fNever, fBin, fCmp, fV, fN, fC, lk, lk_z, lk_s, gAdd, gSub, gMul, gDiv, gMod, gPow, gShl, gShlW, gShr, gv, gLt, gLe, gGt, gGe, gEq, gNe, gIx, fNeg, fTV, fNot, fAnd, fOr, fAndV, fOrV, fNotV, fIf, fLN, fLC, fAN, fAC, fAB, fNV, fTup, fCB, bInt, bAbs, bLen, bMax2, bMin2, bTuple, fSeq, seqOf, fCall, fCallK, fAsg, gNm, gsNil, gsCons, gTpl, gSq, fPar, fMV, fMN, setAll, fApp, fExt, fSetIx, fFrz, fForS, fRng1, fRng2, fBits, List.set_cons_zero, List.set_cons_succ, List.length_cons, List.length_nil, endsOf, decide_eq_true_eq, true_and, and_true, at0, at1, at2, at3, at4, Bool.not_eq_true', decide_eq_false_iff_not, lg2, Int.reduceLT, ↓reduceIte, Ask.row, D4]
    refine go2 (s := s) (t := negS t) (F := fun s t => (sumS s t).D) ⟨h.1, h.2.neg⟩ ?_
    simp only [fSeqS, fSet, fSetN, fRet, fIfS, fNext, fBreak, fCont, fNever, fBin, fCmp, fV, fN, fC, lk, lk_z, lk_s, gAdd, gSub, gMul, gDiv, gMod, gPow, gShl, gShlW, gShr, gv, gLt, gLe, gGt, gGe, gEq, gNe, gIx, fNeg, fTV, fNot, fAnd, fOr, fAndV, fOrV, fNotV, fIf, fLN, fLC, fAN, fAC, fAB, fNV, fTup, fCB, bInt, bAbs, bLen, bMax2, bMin2, bTuple, fSeq, seqOf, fCall, fCallK, fAsg, gNm, gsNil, gsCons, gTpl, gSq, fPar, fMV, fMN, setAll, fApp, fExt, fSetIx, fFrz, fForS, fRng1, fRng2, fBits, List.set_cons_zero, List.set_cons_succ, List.length_cons, List.length_nil, endsOf, decide_eq_true_eq, true_and, and_true, at0, at1, at2, at3, at4, Bool.not_eq_true', decide_eq_false_iff_not, lg2, Int.reduceLT, ↓reduceIte, D4]
    have u := h.1.sum h.2.neg
    exact go__law_own_sign ⟨u.a.le (by decide), u.b.le (by decide), u.d.le (by decide)⟩ hq'
theorem r__law_like : ∀ ss (Q : D → Prop), S__law_like ss Q → g__law_like (endsOf Q) (initE N__law_like ss) := by
  rintro ss Q ⟨_, ⟨d, rfl, h⟩, hq⟩
  have hq' := hq _ rfl
  simp only [N__law_like, initE, List.length_cons, List.length_nil, Nat.reduceAdd, Nat.reduceSub, List.replicate, List.cons_append, List.nil_append, List.append_nil]
  simp only [g__law_like, fSeqS, fSet, fSetN, fRet, fIfS, fNext, fBreak, fCont, fNever, fBin, fCmp, fV, fN, fC, lk, lk_z, lk_s, gAdd, gSub, gMul, gDiv, gMod, gPow, gShl, gShlW, gShr, gv, gLt, gLe, gGt, gGe, gIx, fNeg, fTV, fNot, fAnd, fOr, fAndV, fOrV, fNotV, fIf, fLN, fLC, fAN, fAC, fAB, fNV, fTup, fCB, bInt, bAbs, bLen, bMax2, bMin2, bTuple, fSeq, seqOf, fCall, fCallK, fAsg, gNm, gsNil, gsCons, gTpl, gSq, fPar, fMV, fMN, setAll, fApp, fExt, fSetIx, fFrz, fForS, fRng1, fRng2, fBits, List.set_cons_zero, List.set_cons_succ, List.length_cons, List.length_nil, endsOf, decide_eq_true_eq, true_and, and_true, at0, at1, at2, at3, at4, Bool.not_eq_true', decide_eq_false_iff_not, lg2, Int.reduceLT, ↓reduceIte]
  refine h.eq (by decide) ?_
  try simp only [↓reduceIte]
  refine h.repr (by decide) (by decide) ?_
  refine h.repr (by decide) (by decide) ?_
  simp only [fSeqS, fSet, fSetN, fRet, fIfS, fNext, fBreak, fCont, fNever, fBin, fCmp, fV, fN, fC, lk, lk_z, lk_s, gAdd, gSub, gMul, gDiv, gMod, gPow, gShl, gShlW, gShr, gv, gLt, gLe, gGt, gGe, gEq, gNe, gIx, fNeg, fTV, fNot, fAnd, fOr, fAndV, fOrV, fNotV, fIf, fLN, fLC, fAN, fAC, fAB, fNV, fTup, fCB, bInt, bAbs, bLen, bMax2, bMin2, bTuple, fSeq, seqOf, fCall, fCallK, fAsg, gNm, gsNil, gsCons, gTpl, gSq, fPar, fMV, fMN, setAll, fApp, fExt, fSetIx, fFrz, fForS, fRng1, fRng2, fBits, List.set_cons_zero, List.set_cons_succ, List.length_cons, List.length_nil, endsOf, decide_eq_true_eq, true_and, and_true, at0, at1, at2, at3, at4, Bool.not_eq_true', decide_eq_false_iff_not, lg2, Int.reduceLT, ↓reduceIte]
  simpa using hq'
end T
end DL
namespace DL
namespace T
open PySem L2 PySem.Spec PyProof.Rows
theorem go_near {n st : Int} {Q : D → Prop} (h : SF n) (h0 : 0 ≤ st) (h1 : st ≤ 1000) (hq : ∀ h k : Int, 0 < h → h ≤ 900000000000 → 0 < k → k ≤ h → Q (.tuple [.int h, .int k])) : S__law_near [.bg, iS n, iS st] Q :=
  ⟨rfl, ⟨n, st, rfl, h, h0, h1⟩, fun d ⟨a, b, e, x1, x2, x3, x4⟩ => by
    rw [e]; exact hq a b x1 x2 x3 x4⟩
/-- asks that are in order -/
def AllOk (l : List Ask) : Prop := ∀ q ∈ l, q.ok ∧ q.isOf = false
theorem AllOk.app {l m : List Ask} (h : AllOk l) (k : AllOk m) : AllOk (l ++ m) := fun q hq => (List.mem_append.mp hq).elim (h q) (k q)
theorem AllOk.nil : AllOk [] := fun _ h => by cases h
theorem AllOk.cons {q : Ask} {l : List Ask} (h : q.ok) (o : q.isOf = false) (k : AllOk l) : AllOk (q :: l) := fun x hx => by
  rcases List.mem_cons.mp hx with rfl | hx
  · exact ⟨h, o⟩
  · exact k x hx
theorem ext_asks {i : Nat} {fa : SE} {E : En} {ρ : Env} {l : List Ask} (qs : List Ask) (h : lk ρ i = .ow (l.map Ask.D)) (hfa : ∀ P : D → Prop, P (.list (qs.map Ask.D)) → fa ρ P) (len : l.length + qs.length ≤ 1000) (k : E.nx (ρ.set i (.ow ((l ++ qs).map Ask.D)))) : fExt i fa E ρ := by
  unfold fExt
  rw [h]
  refine hfa _ ⟨?_, ?_⟩
  · rw [List.length_map, List.length_map]
    unfold most
    omega
  · rw [← List.map_append]; exact k
theorem bd_of {m : Nat} {a b c d : Int} (ha : Sm m a) (hb : Sm m b) (hc : Sm m c) (c0 : 0 < c) (d0 : 0 ≤ d) (d1 : Sm 20 d) : Bd m ⟨a, b, c, d⟩ := ⟨ha, hb, hc, c0, d0, d1⟩
theorem s60 {i : Int} (h0 : -1000000000000000000 ≤ i) (h1 : i ≤ 1000000000000000000) : Sm 60 i := by
  unfold Sm
  omega
theorem sgn_bd {s x : Int} (h : s = 1 ∨ s = -1) : s * x = x ∨ s * x = -x := by
  rcases h with rfl | rfl <;> omega
theorem seq_go {A B : SS} {E : En} {ρ : Env} (h : A ⟨B E, E.rt, E.bk, E.ct⟩ ρ) : fSeqS A B E ρ := h
theorem sz0 (k : Nat) : Sm k 0 := by
  unfold Sm
  exact Nat.pos_of_ne_zero (fun z => by simp at z)
theorem r__law_near_asks : ∀ ss (Q : D → Prop), S__law_near_asks ss Q → g__law_near_asks (endsOf Q) (initE N__law_near_asks ss) := by
  rintro ss Q ⟨_, ⟨n, rfl, hn⟩, hq⟩
  have hq' := fun (l : List Ask) (h1 : l.length ≤ 300) (h2 : AllOk l) => hq (.list (l.map Ask.D)) ⟨l, rfl, h1, h2⟩
  have n0 : 0 ≤ n := by have := hn.1; omega
  have sn := hn.sm
  simp only [N__law_near_asks, initE, List.length_cons, List.length_nil, Nat.reduceAdd, Nat.reduceSub, List.replicate, List.cons_append, List.nil_append, List.append_nil]
  simp only [g__law_near_asks, fSeqS, fSet, fSetN, fRet, fIfS, fNext, fBreak, fCont, fNever, fBin, fCmp, fV, fN, fC, lk, lk_z, lk_s, gAdd, gSub, gMul, gDiv, gMod, gPow, gShl, gShlW, gShr, gv, gLt, gLe, gGt, gGe, gEq, gNe, gIx, fNeg, fTV, fNot, fAnd, fOr, fAndV, fOrV, fNotV, fIf, fLN, fLC, fAN, fAC, fAB, fNV, fTup, fCB, bInt, bAbs, bLen, bMax2, bMin2, bTuple, fSeq, seqOf, fCall, fCallK, fAsg, gNm, gsNil, gsCons, gTpl, gSq, fPar, fMV, fMN, setAll, fApp, fExt, fSetIx, fFrz, fForS, fRng1, fRng2, fBits, List.set_cons_zero, List.set_cons_succ, List.length_cons, List.length_nil, endsOf, decide_eq_true_eq, true_and, and_true, at0, at1, at2, at3, at4, Bool.not_eq_true', decide_eq_false_iff_not, lg2, Int.reduceLT, ↓reduceIte]
  unfold q__law_near_asks_13
  simp only [fSeqS, fSet, fSetN, fRet, fIfS, fNext, fBreak, fCont, fNever, fBin, fCmp, fV, fN, fC, lk, lk_z, lk_s, gAdd, gSub, gMul, gDiv, gMod, gPow, gShl, gShlW, gShr, gv, gLt, gLe, gGt, gGe, gEq, gNe, gIx, fNeg, fTV, fNot, fAnd, fOr, fAndV, fOrV, fNotV, fIf, fLN, fLC, fAN, fAC, fAB, fNV, fTup, fCB, bInt, bAbs, bLen, bMax2, bMin2, bTuple, fSeq, seqOf, fCall, fCallK, fAsg, gNm, gsNil, gsCons, gTpl, gSq, fPar, fMV, fMN, setAll, fApp, fExt, fSetIx, fFrz, fForS, fRng1, fRng2, fBits, List.set_cons_zero, List.set_cons_succ, List.length_cons, List.length_nil, endsOf, decide_eq_true_eq, true_and, and_true, at0, at1, at2, at3, at4, Bool.not_eq_true', decide_eq_false_iff_not, lg2, Int.reduceLT, ↓reduceIte]
  refine ⟨by decide, by decide, ?_⟩
  refine for_of (fun ds ρ => ∃ (l : List Ask) (s3 s4 s5 s6 s7 s8 s9 s10 s11 s12 s13 s14 s15 s16 s17 s18 : Sl), ρ = [.bg, iS n, .ow (l.map Ask.D), s3, s4, s5, s6, s7, s8, s9, s10, s11, s12, s13, s14, s15, s16, s17, s18] ∧ AllOk l ∧ l.length + 12 * ds.length ≤ 60) ?_ ?_ _ _ ⟨[], _, _, _, _, _, _, _, _, _, _, _, _, _, _, _, _, rfl, AllOk.nil, by rw [rng_len]; decide⟩
  · rintro d ds ρ ⟨l, s3, s4, s5, s6, s7, s8, s9, s10, s11, s12, s13, s14, s15, s16, s17, s18, rfl, hl, hlen⟩ K hK
    rw [List.length_cons] at hlen
    unfold q__law_near_asks_12
    simp only [fSeqS, fSet, fSetN, fRet, fIfS, fNext, fBreak, fCont, fNever, fBin, fCmp, fV, fN, fC, lk, lk_z, lk_s, gAdd, gSub, gMul, gDiv, gMod, gPow, gShl, gShlW, gShr, gv, gLt, gLe, gGt, gGe, gEq, gNe, gIx, fNeg, fTV, fNot, fAnd, fOr, fAndV, fOrV, fNotV, fIf, fLN, fLC, fAN, fAC, fAB, fNV, fTup, fCB, bInt, bAbs, bLen, bMax2, bMin2, bTuple, fSeq, seqOf, fCall, fCallK, fAsg, gNm, gsNil, gsCons, gTpl, gSq, fPar, fMV, fMN, setAll, fApp, fExt, fSetIx, fFrz, fForS, fRng1, fRng2, fBits, List.set_cons_zero, List.set_cons_succ, List.length_cons, List.length_nil, endsOf, decide_eq_true_eq, true_and, and_true, at0, at1, at2, at3, at4, Bool.not_eq_true', decide_eq_false_iff_not, lg2, Int.reduceLT, ↓reduceIte]
    refine go_draw (by decide) (by decide) fun r r0 r1 => ?_
    try simp only [fSeqS, fSet, fSetN, fRet, fIfS, fNext, fBreak, fCont, fNever, fBin, fCmp, fV, fN, fC, lk, lk_z, lk_s, gAdd, gSub, gMul, gDiv, gMod, gPow, gShl, gShlW, gShr, gv, gLt, gLe, gGt, gGe, gEq, gNe, gIx, fNeg, fTV, fNot, fAnd, fOr, fAndV, fOrV, fNotV, fIf, fLN, fLC, fAN, fAC, fAB, fNV, fTup, fCB, bInt, bAbs, bLen, bMax2, bMin2, bTuple, fSeq, seqOf, fCall, fCallK, fAsg, gNm, gsNil, gsCons, gTpl, gSq, fPar, fMV, fMN, setAll, fApp, fExt, fSetIx, fFrz, fForS, fRng1, fRng2, fBits, List.set_cons_zero, List.set_cons_succ, List.length_cons, List.length_nil, endsOf, decide_eq_true_eq, true_and, and_true, at0, at1, at2, at3, at4, Bool.not_eq_true', decide_eq_false_iff_not, lg2, Int.reduceLT, ↓reduceIte]
    refine go_pick (by simp) (by simp) fun d hd => ?_
    obtain ⟨st, rfl, st0, st1⟩ : ∃ st : Int, d = .int st ∧ 0 ≤ st ∧ st ≤ 1000 := by
      simp only [List.mem_cons, List.not_mem_nil, or_false] at hd
      rcases hd with rfl | rfl | rfl | rfl | rfl | rfl <;> exact ⟨_, rfl, by omega, by omega⟩
    try simp only [fSeqS, fSet, fSetN, fRet, fIfS, fNext, fBreak, fCont, fNever, fBin, fCmp, fV, fN, fC, lk, lk_z, lk_s, gAdd, gSub, gMul, gDiv, gMod, gPow, gShl, gShlW, gShr, gv, gLt, gLe, gGt, gGe, gEq, gNe, gIx, fNeg, fTV, fNot, fAnd, fOr, fAndV, fOrV, fNotV, fIf, fLN, fLC, fAN, fAC, fAB, fNV, fTup, fCB, bInt, bAbs, bLen, bMax2, bMin2, bTuple, fSeq, seqOf, fCall, fCallK, fAsg, gNm, gsNil, gsCons, gTpl, gSq, fPar, fMV, fMN, setAll, fApp, fExt, fSetIx, fFrz, fForS, fRng1, fRng2, fBits, List.set_cons_zero, List.set_cons_succ, List.length_cons, List.length_nil, endsOf, decide_eq_true_eq, true_and, and_true, at0, at1, at2, at3, at4, Bool.not_eq_true', decide_eq_false_iff_not, lg2, Int.reduceLT, ↓reduceIte]
    refine go_near hn st0 st1 fun h k h0 h1 k0 k1 => ?_
    try simp only [fSeqS, fSet, fSetN, fRet, fIfS, fNext, fBreak, fCont, fNever, fBin, fCmp, fV, fN, fC, lk, lk_z, lk_s, gAdd, gSub, gMul, gDiv, gMod, gPow, gShl, gShlW, gShr, gv, gLt, gLe, gGt, gGe, gEq, gNe, gIx, fNeg, fTV, fNot, fAnd, fOr, fAndV, fOrV, fNotV, fIf, fLN, fLC, fAN, fAC, fAB, fNV, fTup, fCB, bInt, bAbs, bLen, bMax2, bMin2, bTuple, fSeq, seqOf, fCall, fCallK, fAsg, gNm, gsNil, gsCons, gTpl, gSq, fPar, fMV, fMN, setAll, fApp, fExt, fSetIx, fFrz, fForS, fRng1, fRng2, fBits, List.set_cons_zero, List.set_cons_succ, List.length_cons, List.length_nil, endsOf, decide_eq_true_eq, true_and, and_true, at0, at1, at2, at3, at4, Bool.not_eq_true', decide_eq_false_iff_not, lg2, Int.reduceLT, ↓reduceIte]
    unfold q__law_near_asks_11
    simp only [fSeqS, fSet, fSetN, fRet, fIfS, fNext, fBreak, fCont, fNever, fBin, fCmp, fV, fN, fC, lk, lk_z, lk_s, gAdd, gSub, gMul, gDiv, gMod, gPow, gShl, gShlW, gShr, gv, gLt, gLe, gGt, gGe, gEq, gNe, gIx, fNeg, fTV, fNot, fAnd, fOr, fAndV, fOrV, fNotV, fIf, fLN, fLC, fAN, fAC, fAB, fNV, fTup, fCB, bInt, bAbs, bLen, bMax2, bMin2, bTuple, fSeq, seqOf, fCall, fCallK, fAsg, gNm, gsNil, gsCons, gTpl, gSq, fPar, fMV, fMN, setAll, fApp, fExt, fSetIx, fFrz, fForS, fRng1, fRng2, fBits, List.set_cons_zero, List.set_cons_succ, List.length_cons, List.length_nil, endsOf, decide_eq_true_eq, true_and, and_true, at0, at1, at2, at3, at4, Bool.not_eq_true', decide_eq_false_iff_not, lg2, Int.reduceLT, ↓reduceIte]
    refine go_draw (by decide) (by decide) fun r r0 r1 => ?_
    try simp only [fSeqS, fSet, fSetN, fRet, fIfS, fNext, fBreak, fCont, fNever, fBin, fCmp, fV, fN, fC, lk, lk_z, lk_s, gAdd, gSub, gMul, gDiv, gMod, gPow, gShl, gShlW, gShr, gv, gLt, gLe, gGt, gGe, gEq, gNe, gIx, fNeg, fTV, fNot, fAnd, fOr, fAndV, fOrV, fNotV, fIf, fLN, fLC, fAN, fAC, fAB, fNV, fTup, fCB, bInt, bAbs, bLen, bMax2, bMin2, bTuple, fSeq, seqOf, fCall, fCallK, fAsg, gNm, gsNil, gsCons, gTpl, gSq, fPar, fMV, fMN, setAll, fApp, fExt, fSetIx, fFrz, fForS, fRng1, fRng2, fBits, List.set_cons_zero, List.set_cons_succ, List.length_cons, List.length_nil, endsOf, decide_eq_true_eq, true_and, and_true, at0, at1, at2, at3, at4, Bool.not_eq_true', decide_eq_false_iff_not, lg2, Int.reduceLT, ↓reduceIte]
    refine go_pick (by simp) (by simp) fun d hd => ?_
    obtain ⟨st, rfl, st0, st1⟩ : ∃ st : Int, d = .int st ∧ 0 ≤ st ∧ st ≤ 1000 := by
      simp only [List.mem_cons, List.not_mem_nil, or_false] at hd
      rcases hd with rfl | rfl | rfl <;> exact ⟨_, rfl, by omega, by omega⟩
    try simp only [fSeqS, fSet, fSetN, fRet, fIfS, fNext, fBreak, fCont, fNever, fBin, fCmp, fV, fN, fC, lk, lk_z, lk_s, gAdd, gSub, gMul, gDiv, gMod, gPow, gShl, gShlW, gShr, gv, gLt, gLe, gGt, gGe, gEq, gNe, gIx, fNeg, fTV, fNot, fAnd, fOr, fAndV, fOrV, fNotV, fIf, fLN, fLC, fAN, fAC, fAB, fNV, fTup, fCB, bInt, bAbs, bLen, bMax2, bMin2, bTuple, fSeq, seqOf, fCall, fCallK, fAsg, gNm, gsNil, gsCons, gTpl, gSq, fPar, fMV, fMN, setAll, fApp, fExt, fSetIx, fFrz, fForS, fRng1, fRng2, fBits, List.set_cons_zero, List.set_cons_succ, List.length_cons, List.length_nil, endsOf, decide_eq_true_eq, true_and, and_true, at0, at1, at2, at3, at4, Bool.not_eq_true', decide_eq_false_iff_not, lg2, Int.reduceLT, ↓reduceIte]
    refine go_near hn st0 st1 fun oh ok oh0 oh1 ok0 ok1 => ?_
    try simp only [fSeqS, fSet, fSetN, fRet, fIfS, fNext, fBreak, fCont, fNever, fBin, fCmp, fV, fN, fC, lk, lk_z, lk_s, gAdd, gSub, gMul, gDiv, gMod, gPow, gShl, gShlW, gShr, gv, gLt, gLe, gGt, gGe, gEq, gNe, gIx, fNeg, fTV, fNot, fAnd, fOr, fAndV, fOrV, fNotV, fIf, fLN, fLC, fAN, fAC, fAB, fNV, fTup, fCB, bInt, bAbs, bLen, bMax2, bMin2, bTuple, fSeq, seqOf, fCall, fCallK, fAsg, gNm, gsNil, gsCons, gTpl, gSq, fPar, fMV, fMN, setAll, fApp, fExt, fSetIx, fFrz, fForS, fRng1, fRng2, fBits, List.set_cons_zero, List.set_cons_succ, List.length_cons, List.length_nil, endsOf, decide_eq_true_eq, true_and, and_true, at0, at1, at2, at3, at4, Bool.not_eq_true', decide_eq_false_iff_not, lg2, Int.reduceLT, ↓reduceIte]
    unfold q__law_near_asks_10
    simp only [fSeqS, fSet, fSetN, fRet, fIfS, fNext, fBreak, fCont, fNever, fBin, fCmp, fV, fN, fC, lk, lk_z, lk_s, gAdd, gSub, gMul, gDiv, gMod, gPow, gShl, gShlW, gShr, gv, gLt, gLe, gGt, gGe, gEq, gNe, gIx, fNeg, fTV, fNot, fAnd, fOr, fAndV, fOrV, fNotV, fIf, fLN, fLC, fAN, fAC, fAB, fNV, fTup, fCB, bInt, bAbs, bLen, bMax2, bMin2, bTuple, fSeq, seqOf, fCall, fCallK, fAsg, gNm, gsNil, gsCons, gTpl, gSq, fPar, fMV, fMN, setAll, fApp, fExt, fSetIx, fFrz, fForS, fRng1, fRng2, fBits, List.set_cons_zero, List.set_cons_succ, List.length_cons, List.length_nil, endsOf, decide_eq_true_eq, true_and, and_true, at0, at1, at2, at3, at4, Bool.not_eq_true', decide_eq_false_iff_not, lg2, Int.reduceLT, ↓reduceIte]
    refine go_pick (by simp) (by simp) fun d hd => ?_
    obtain ⟨sg, rfl, hsg⟩ : ∃ sg : Int, d = .int sg ∧ (sg = 1 ∨ sg = -1) := by
      simp only [List.mem_cons, List.not_mem_nil, or_false] at hd
      rcases hd with rfl | rfl
      · exact ⟨_, rfl, .inl rfl⟩
      · exact ⟨_, rfl, .inr rfl⟩
    try simp only [fSeqS, fSet, fSetN, fRet, fIfS, fNext, fBreak, fCont, fNever, fBin, fCmp, fV, fN, fC, lk, lk_z, lk_s, gAdd, gSub, gMul, gDiv, gMod, gPow, gShl, gShlW, gShr, gv, gLt, gLe, gGt, gGe, gEq, gNe, gIx, fNeg, fTV, fNot, fAnd, fOr, fAndV, fOrV, fNotV, fIf, fLN, fLC, fAN, fAC, fAB, fNV, fTup, fCB, bInt, bAbs, bLen, bMax2, bMin2, bTuple, fSeq, seqOf, fCall, fCallK, fAsg, gNm, gsNil, gsCons, gTpl, gSq, fPar, fMV, fMN, setAll, fApp, fExt, fSetIx, fFrz, fForS, fRng1, fRng2, fBits, List.set_cons_zero, List.set_cons_succ, List.length_cons, List.length_nil, endsOf, decide_eq_true_eq, true_and, and_true, at0, at1, at2, at3, at4, Bool.not_eq_true', decide_eq_false_iff_not, lg2, Int.reduceLT, ↓reduceIte]
    refine go_draw (by decide) (by decide) fun c c0 c1 => ?_
    try simp only [fSeqS, fSet, fSetN, fRet, fIfS, fNext, fBreak, fCont, fNever, fBin, fCmp, fV, fN, fC, lk, lk_z, lk_s, gAdd, gSub, gMul, gDiv, gMod, gPow, gShl, gShlW, gShr, gv, gLt, gLe, gGt, gGe, gEq, gNe, gIx, fNeg, fTV, fNot, fAnd, fOr, fAndV, fOrV, fNotV, fIf, fLN, fLC, fAN, fAC, fAB, fNV, fTup, fCB, bInt, bAbs, bLen, bMax2, bMin2, bTuple, fSeq, seqOf, fCall, fCallK, fAsg, gNm, gsNil, gsCons, gTpl, gSq, fPar, fMV, fMN, setAll, fApp, fExt, fSetIx, fFrz, fForS, fRng1, fRng2, fBits, List.set_cons_zero, List.set_cons_succ, List.length_cons, List.length_nil, endsOf, decide_eq_true_eq, true_and, and_true, at0, at1, at2, at3, at4, Bool.not_eq_true', decide_eq_false_iff_not, lg2, Int.reduceLT, ↓reduceIte]
    refine go_draw (by decide) (by decide) fun wh wh0 wh1 => ?_
    try simp only [fSeqS, fSet, fSetN, fRet, fIfS, fNext, fBreak, fCont, fNever, fBin, fCmp, fV, fN, fC, lk, lk_z, lk_s, gAdd, gSub, gMul, gDiv, gMod, gPow, gShl, gShlW, gShr, gv, gLt, gLe, gGt, gGe, gEq, gNe, gIx, fNeg, fTV, fNot, fAnd, fOr, fAndV, fOrV, fNotV, fIf, fLN, fLC, fAN, fAC, fAB, fNV, fTup, fCB, bInt, bAbs, bLen, bMax2, bMin2, bTuple, fSeq, seqOf, fCall, fCallK, fAsg, gNm, gsNil, gsCons, gTpl, gSq, fPar, fMV, fMN, setAll, fApp, fExt, fSetIx, fFrz, fForS, fRng1, fRng2, fBits, List.set_cons_zero, List.set_cons_succ, List.length_cons, List.length_nil, endsOf, decide_eq_true_eq, true_and, and_true, at0, at1, at2, at3, at4, Bool.not_eq_true', decide_eq_false_iff_not, lg2, Int.reduceLT, ↓reduceIte]
    have ssg : Sm 1 sg := by rcases hsg with rfl | rfl <;> exact (by decide : (1 : Nat) < 2 ^ 1)
    have sh : Sm 40 h := s40 (by omega) (by omega)
    have sk : Sm 40 k := s40 (by omega) (by omega)
    have soh : Sm 40 oh := s40 (by omega) (by omega)
    have sok : Sm 40 ok := s40 (by omega) (by omega)
    have sc : Sm 40 (1 + c) := s40 (by omega) (by omega)
    have swh : Sm 40 (wh - 1000) := s40 (by omega) (by omega)
    have s1 : Sm 40 1 := s40 (by decide) (by decide)
    have s00 : Sm 40 0 := s40 (by decide) (by decide)
    have a1 : Sm 41 (sg * h) := (ssg.mul sh).le (by decide)
    have a2 : Sm 41 (-sg * k) := (ssg.neg.mul sk).le (by decide)
    unfold q__law_near_asks_9
    simp only [fSeqS, fSet, fSetN, fRet, fIfS, fNext, fBreak, fCont, fNever, fBin, fCmp, fV, fN, fC, lk, lk_z, lk_s, gAdd, gSub, gMul, gDiv, gMod, gPow, gShl, gShlW, gShr, gv, gLt, gLe, gGt, gGe, gEq, gNe, gIx, fNeg, fTV, fNot, fAnd, fOr, fAndV, fOrV, fNotV, fIf, fLN, fLC, fAN, fAC, fAB, fNV, fTup, fCB, bInt, bAbs, bLen, bMax2, bMin2, bTuple, fSeq, seqOf, fCall, fCallK, fAsg, gNm, gsNil, gsCons, gTpl, gSq, fPar, fMV, fMN, setAll, fApp, fExt, fSetIx, fFrz, fForS, fRng1, fRng2, fBits, List.set_cons_zero, List.set_cons_succ, List.length_cons, List.length_nil, endsOf, decide_eq_true_eq, true_and, and_true, at0, at1, at2, at3, at4, Bool.not_eq_true', decide_eq_false_iff_not, lg2, Int.reduceLT, ↓reduceIte]
    refine ⟨mw ssg sh, mw ssg.neg sk, ?_⟩
    refine go__law_surd ⟨_, _, _, _⟩ ⟨by show 0 < 1 + c; omega, a1.le (by decide), a2.le (by decide), sc.le (by decide)⟩ ?_
    try simp only [fSeqS, fSet, fSetN, fRet, fIfS, fNext, fBreak, fCont, fNever, fBin, fCmp, fV, fN, fC, lk, lk_z, lk_s, gAdd, gSub, gMul, gDiv, gMod, gPow, gShl, gShlW, gShr, gv, gLt, gLe, gGt, gGe, gEq, gNe, gIx, fNeg, fTV, fNot, fAnd, fOr, fAndV, fOrV, fNotV, fIf, fLN, fLC, fAN, fAC, fAB, fNV, fTup, fCB, bInt, bAbs, bLen, bMax2, bMin2, bTuple, fSeq, seqOf, fCall, fCallK, fAsg, gNm, gsNil, gsCons, gTpl, gSq, fPar, fMV, fMN, setAll, fApp, fExt, fSetIx, fFrz, fForS, fRng1, fRng2, fBits, List.set_cons_zero, List.set_cons_succ, List.length_cons, List.length_nil, endsOf, decide_eq_true_eq, true_and, and_true, at0, at1, at2, at3, at4, Bool.not_eq_true', decide_eq_false_iff_not, lg2, Int.reduceLT, ↓reduceIte]
    refine go__law_surd ⟨_, _, _, _⟩ ⟨by show (0 : Int) < 1; decide, soh.le (by decide), sok.neg.le (by decide), s1.le (by decide)⟩ ?_
    try simp only [fSeqS, fSet, fSetN, fRet, fIfS, fNext, fBreak, fCont, fNever, fBin, fCmp, fV, fN, fC, lk, lk_z, lk_s, gAdd, gSub, gMul, gDiv, gMod, gPow, gShl, gShlW, gShr, gv, gLt, gLe, gGt, gGe, gEq, gNe, gIx, fNeg, fTV, fNot, fAnd, fOr, fAndV, fOrV, fNotV, fIf, fLN, fLC, fAN, fAC, fAB, fNV, fTup, fCB, bInt, bAbs, bLen, bMax2, bMin2, bTuple, fSeq, seqOf, fCall, fCallK, fAsg, gNm, gsNil, gsCons, gTpl, gSq, fPar, fMV, fMN, setAll, fApp, fExt, fSetIx, fFrz, fForS, fRng1, fRng2, fBits, List.set_cons_zero, List.set_cons_succ, List.length_cons, List.length_nil, endsOf, decide_eq_true_eq, true_and, and_true, at0, at1, at2, at3, at4, Bool.not_eq_true', decide_eq_false_iff_not, lg2, Int.reduceLT, ↓reduceIte]
    have b1 : Bd 100 (nrm (sg * h) (-sg * k) (1 + c) n) := (mk_bd a1 a2 (sc.le (by decide)) (by omega) hn).le (by decide)
    have b2 : Bd 100 (nrm oh (-ok) 1 n) := (mk_bd soh sok.neg s1 (by decide) hn).le (by decide)
    generalize nrm (sg * h) (-sg * k) (1 + c) n = one at b1
    generalize nrm oh (-ok) 1 n = other at b2
    unfold q__law_near_asks_8
    simp only [fSeqS, fSet, fSetN, fRet, fIfS, fNext, fBreak, fCont, fNever, fBin, fCmp, fV, fN, fC, lk, lk_z, lk_s, gAdd, gSub, gMul, gDiv, gMod, gPow, gShl, gShlW, gShr, gv, gLt, gLe, gGt, gGe, gEq, gNe, gIx, fNeg, fTV, fNot, fAnd, fOr, fAndV, fOrV, fNotV, fIf, fLN, fLC, fAN, fAC, fAB, fNV, fTup, fCB, bInt, bAbs, bLen, bMax2, bMin2, bTuple, fSeq, seqOf, fCall, fCallK, fAsg, gNm, gsNil, gsCons, gTpl, gSq, fPar, fMV, fMN, setAll, fApp, fExt, fSetIx, fFrz, fForS, fRng1, fRng2, fBits, List.set_cons_zero, List.set_cons_succ, List.length_cons, List.length_nil, endsOf, decide_eq_true_eq, true_and, and_true, at0, at1, at2, at3, at4, Bool.not_eq_true', decide_eq_false_iff_not, lg2, Int.reduceLT, ↓reduceIte]
    refine ⟨mw ssg sh, mw swh sc, mw ssg.neg sk, ?_⟩
    have a3 : Sm 90 (sg * h + (wh - 1000) * (1 + c)) := ((a1.le (l := 89) (by decide)).add ((swh.mul sc).le (by decide))).le (by decide)
    refine go__law_surd ⟨_, _, _, _⟩ ⟨by show 0 < 1 + c; omega, a3.le (by decide), a2.le (by decide), sc.le (by decide)⟩ ?_
    try simp only [fSeqS, fSet, fSetN, fRet, fIfS, fNext, fBreak, fCont, fNever, fBin, fCmp, fV, fN, fC, lk, lk_z, lk_s, gAdd, gSub, gMul, gDiv, gMod, gPow, gShl, gShlW, gShr, gv, gLt, gLe, gGt, gGe, gEq, gNe, gIx, fNeg, fTV, fNot, fAnd, fOr, fAndV, fOrV, fNotV, fIf, fLN, fLC, fAN, fAC, fAB, fNV, fTup, fCB, bInt, bAbs, bLen, bMax2, bMin2, bTuple, fSeq, seqOf, fCall, fCallK, fAsg, gNm, gsNil, gsCons, gTpl, gSq, fPar, fMV, fMN, setAll, fApp, fExt, fSetIx, fFrz, fForS, fRng1, fRng2, fBits, List.set_cons_zero, List.set_cons_succ, List.length_cons, List.length_nil, endsOf, decide_eq_true_eq, true_and, and_true, at0, at1, at2, at3, at4, Bool.not_eq_true', decide_eq_false_iff_not, lg2, Int.reduceLT, ↓reduceIte]
    have b3 : Bd 100 (nrm (sg * h + (wh - 1000) * (1 + c)) (-sg * k) (1 + c) n) := (mk_bd a3 (a2.le (by decide)) (sc.le (by decide)) (by omega) hn).le (by decide)
    generalize nrm (sg * h + (wh - 1000) * (1 + c)) (-sg * k) (1 + c) n = mixed at b3
    have B : ∀ {s : S4}, Bd 100 s → Bd 960 s := fun h => h.le (by decide)
    unfold q__law_near_asks_7
    refine seq_go ?_
    refine ext_asks (l := l) [.sign one, .whole one, .whole mixed, .order one other] rfl (fun P h => by simp only [fSeqS, fSet, fSetN, fRet, fIfS, fNext, fBreak, fCont, fNever, fBin, fCmp, fV, fN, fC, lk, lk_z, lk_s, gAdd, gSub, gMul, gDiv, gMod, gPow, gShl, gShlW, gShr, gv, gLt, gLe, gGt, gGe, gEq, gNe, gIx, fNeg, fTV, fNot, fAnd, fOr, fAndV, fOrV, fNotV, fIf, fLN, fLC, fAN, fAC, fAB, fNV, fTup, fCB, bInt, bAbs, bLen, bMax2, bMin2, bTuple, fSeq, seqOf, fCall, fCallK, fAsg, gNm, gsNil, gsCons, gTpl, gSq, fPar, fMV, fMN, setAll, fApp, fExt, fSetIx, fFrz, fForS, fRng1, fRng2, fBits, List.set_cons_zero, List.set_cons_succ, List.length_cons, List.length_nil, endsOf, decide_eq_true_eq, true_and, and_true, at0, at1, at2, at3, at4, Bool.not_eq_true', decide_eq_false_iff_not, lg2, Int.reduceLT, ↓reduceIte]; exact h) (by simp only [List.length_cons, List.length_nil]; omega) ?_
    have hl1 := hl.app (m := [.sign one, .whole one, .whole mixed, .order one other]) (.cons (B b1) rfl (.cons (B b1) rfl (.cons (B b3) rfl (.cons ⟨B b1, B b2⟩ rfl .nil))))
    have e1 : (l ++ [Ask.sign one, .whole one, .whole mixed, .order one other]).length = l.length + 4 := List.length_append
    generalize l ++ [Ask.sign one, .whole one, .whole mixed, .order one other] = l1 at hl1 e1
    have b4 : Bd 100 ⟨wh - 1000, 0, 1, 0⟩ := bd_of (swh.le (by decide)) (s00.le (by decide)) (s1.le (by decide)) (by decide) (by decide) (sz0 20)
    simp only [List.set_cons_succ, List.set_cons_zero]
    unfold q__law_near_asks_6
    refine seq_go ?_
    refine ext_asks (l := l1) [.order other one, .order mixed ⟨wh - 1000, 0, 1, 0⟩, .less one other] rfl (fun P h => by simp only [fSeqS, fSet, fSetN, fRet, fIfS, fNext, fBreak, fCont, fNever, fBin, fCmp, fV, fN, fC, lk, lk_z, lk_s, gAdd, gSub, gMul, gDiv, gMod, gPow, gShl, gShlW, gShr, gv, gLt, gLe, gGt, gGe, gEq, gNe, gIx, fNeg, fTV, fNot, fAnd, fOr, fAndV, fOrV, fNotV, fIf, fLN, fLC, fAN, fAC, fAB, fNV, fTup, fCB, bInt, bAbs, bLen, bMax2, bMin2, bTuple, fSeq, seqOf, fCall, fCallK, fAsg, gNm, gsNil, gsCons, gTpl, gSq, fPar, fMV, fMN, setAll, fApp, fExt, fSetIx, fFrz, fForS, fRng1, fRng2, fBits, List.set_cons_zero, List.set_cons_succ, List.length_cons, List.length_nil, endsOf, decide_eq_true_eq, true_and, and_true, at0, at1, at2, at3, at4, Bool.not_eq_true', decide_eq_false_iff_not, lg2, Int.reduceLT, ↓reduceIte]; exact h) (by simp only [List.length_cons, List.length_nil]; omega) ?_
    have hl2 := hl1.app (m := [.order other one, .order mixed ⟨wh - 1000, 0, 1, 0⟩, .less one other]) (.cons ⟨B b2, B b1⟩ rfl (.cons ⟨B b3, B b4⟩ rfl (.cons ⟨B b1, B b2⟩ rfl .nil)))
    have e2 : (l1 ++ [Ask.order other one, .order mixed ⟨wh - 1000, 0, 1, 0⟩, .less one other]).length = l1.length + 3 := List.length_append
    generalize l1 ++ [Ask.order other one, .order mixed ⟨wh - 1000, 0, 1, 0⟩, .less one other] = l2 at hl2 e2
    have b5 : Bd 100 ⟨0, 1, 1, n⟩ := bd_of (s00.le (by decide)) (s1.le (by decide)) (s1.le (by decide)) (by decide) n0 sn
    have b6 : Bd 100 ⟨h, 0, k, 0⟩ := bd_of (sh.le (by decide)) (s00.le (by decide)) (sk.le (by decide)) k0 (by decide) (sz0 20)
    simp only [List.set_cons_succ, List.set_cons_zero]
    unfold q__law_near_asks_5
    refine seq_go ?_
    refine ext_asks (l := l2) [.order ⟨0, 1, 1, n⟩ ⟨h, 0, k, 0⟩, .order ⟨h, 0, k, 0⟩ ⟨0, 1, 1, n⟩] rfl (fun P h => by simp only [fSeqS, fSet, fSetN, fRet, fIfS, fNext, fBreak, fCont, fNever, fBin, fCmp, fV, fN, fC, lk, lk_z, lk_s, gAdd, gSub, gMul, gDiv, gMod, gPow, gShl, gShlW, gShr, gv, gLt, gLe, gGt, gGe, gEq, gNe, gIx, fNeg, fTV, fNot, fAnd, fOr, fAndV, fOrV, fNotV, fIf, fLN, fLC, fAN, fAC, fAB, fNV, fTup, fCB, bInt, bAbs, bLen, bMax2, bMin2, bTuple, fSeq, seqOf, fCall, fCallK, fAsg, gNm, gsNil, gsCons, gTpl, gSq, fPar, fMV, fMN, setAll, fApp, fExt, fSetIx, fFrz, fForS, fRng1, fRng2, fBits, List.set_cons_zero, List.set_cons_succ, List.length_cons, List.length_nil, endsOf, decide_eq_true_eq, true_and, and_true, at0, at1, at2, at3, at4, Bool.not_eq_true', decide_eq_false_iff_not, lg2, Int.reduceLT, ↓reduceIte]; exact h) (by simp only [List.length_cons, List.length_nil]; omega) ?_
    have hl3 := hl2.app (m := [.order ⟨0, 1, 1, n⟩ ⟨h, 0, k, 0⟩, .order ⟨h, 0, k, 0⟩ ⟨0, 1, 1, n⟩]) (.cons ⟨B b5, B b6⟩ rfl (.cons ⟨B b6, B b5⟩ rfl .nil))
    have e3 : (l2 ++ [Ask.order ⟨0, 1, 1, n⟩ ⟨h, 0, k, 0⟩, .order ⟨h, 0, k, 0⟩ ⟨0, 1, 1, n⟩]).length = l2.length + 2 := List.length_append
    generalize l2 ++ [Ask.order ⟨0, 1, 1, n⟩ ⟨h, 0, k, 0⟩, .order ⟨h, 0, k, 0⟩ ⟨0, 1, 1, n⟩] = l3 at hl3 e3
    simp only [List.set_cons_succ, List.set_cons_zero]
    unfold q__law_near_asks_4
    simp only [fSeqS, fSet, fSetN, fRet, fIfS, fNext, fBreak, fCont, fNever, fBin, fCmp, fV, fN, fC, lk, lk_z, lk_s, gAdd, gSub, gMul, gDiv, gMod, gPow, gShl, gShlW, gShr, gv, gLt, gLe, gGt, gGe, gEq, gNe, gIx, fNeg, fTV, fNot, fAnd, fOr, fAndV, fOrV, fNotV, fIf, fLN, fLC, fAN, fAC, fAB, fNV, fTup, fCB, bInt, bAbs, bLen, bMax2, bMin2, bTuple, fSeq, seqOf, fCall, fCallK, fAsg, gNm, gsNil, gsCons, gTpl, gSq, fPar, fMV, fMN, setAll, fApp, fExt, fSetIx, fFrz, fForS, fRng1, fRng2, fBits, List.set_cons_zero, List.set_cons_succ, List.length_cons, List.length_nil, endsOf, decide_eq_true_eq, true_and, and_true, at0, at1, at2, at3, at4, Bool.not_eq_true', decide_eq_false_iff_not, lg2, Int.reduceLT, ↓reduceIte, pw6, tp6, pw5, tp5]
    refine go_draw (by decide) (by decide) fun a0 a00 a01 => ?_
    try simp only [fSeqS, fSet, fSetN, fRet, fIfS, fNext, fBreak, fCont, fNever, fBin, fCmp, fV, fN, fC, lk, lk_z, lk_s, gAdd, gSub, gMul, gDiv, gMod, gPow, gShl, gShlW, gShr, gv, gLt, gLe, gGt, gGe, gEq, gNe, gIx, fNeg, fTV, fNot, fAnd, fOr, fAndV, fOrV, fNotV, fIf, fLN, fLC, fAN, fAC, fAB, fNV, fTup, fCB, bInt, bAbs, bLen, bMax2, bMin2, bTuple, fSeq, seqOf, fCall, fCallK, fAsg, gNm, gsNil, gsCons, gTpl, gSq, fPar, fMV, fMN, setAll, fApp, fExt, fSetIx, fFrz, fForS, fRng1, fRng2, fBits, List.set_cons_zero, List.set_cons_succ, List.length_cons, List.length_nil, endsOf, decide_eq_true_eq, true_and, and_true, at0, at1, at2, at3, at4, Bool.not_eq_true', decide_eq_false_iff_not, lg2, Int.reduceLT, ↓reduceIte]
    refine go_draw (by decide) (by decide) fun b0 b00 b01 => ?_
    try simp only [fSeqS, fSet, fSetN, fRet, fIfS, fNext, fBreak, fCont, fNever, fBin, fCmp, fV, fN, fC, lk, lk_z, lk_s, gAdd, gSub, gMul, gDiv, gMod, gPow, gShl, gShlW, gShr, gv, gLt, gLe, gGt, gGe, gEq, gNe, gIx, fNeg, fTV, fNot, fAnd, fOr, fAndV, fOrV, fNotV, fIf, fLN, fLC, fAN, fAC, fAB, fNV, fTup, fCB, bInt, bAbs, bLen, bMax2, bMin2, bTuple, fSeq, seqOf, fCall, fCallK, fAsg, gNm, gsNil, gsCons, gTpl, gSq, fPar, fMV, fMN, setAll, fApp, fExt, fSetIx, fFrz, fForS, fRng1, fRng2, fBits, List.set_cons_zero, List.set_cons_succ, List.length_cons, List.length_nil, endsOf, decide_eq_true_eq, true_and, and_true, at0, at1, at2, at3, at4, Bool.not_eq_true', decide_eq_false_iff_not, lg2, Int.reduceLT, ↓reduceIte]
    refine go_draw (by decide) (by decide) fun g0 g00 g01 => ?_
    simp only [fSeqS, fSet, fSetN, fRet, fIfS, fNext, fBreak, fCont, fNever, fBin, fCmp, fV, fN, fC, lk, lk_z, lk_s, gAdd, gSub, gMul, gDiv, gMod, gPow, gShl, gShlW, gShr, gv, gLt, gLe, gGt, gGe, gEq, gNe, gIx, fNeg, fTV, fNot, fAnd, fOr, fAndV, fOrV, fNotV, fIf, fLN, fLC, fAN, fAC, fAB, fNV, fTup, fCB, bInt, bAbs, bLen, bMax2, bMin2, bTuple, fSeq, seqOf, fCall, fCallK, fAsg, gNm, gsNil, gsCons, gTpl, gSq, fPar, fMV, fMN, setAll, fApp, fExt, fSetIx, fFrz, fForS, fRng1, fRng2, fBits, List.set_cons_zero, List.set_cons_succ, List.length_cons, List.length_nil, endsOf, decide_eq_true_eq, true_and, and_true, at0, at1, at2, at3, at4, Bool.not_eq_true', decide_eq_false_iff_not, lg2, Int.reduceLT, ↓reduceIte, pw5, tp5]
    unfold q__law_near_asks_3
    simp only [fSeqS, fSet, fSetN, fRet, fIfS, fNext, fBreak, fCont, fNever, fBin, fCmp, fV, fN, fC, lk, lk_z, lk_s, gAdd, gSub, gMul, gDiv, gMod, gPow, gShl, gShlW, gShr, gv, gLt, gLe, gGt, gGe, gEq, gNe, gIx, fNeg, fTV, fNot, fAnd, fOr, fAndV, fOrV, fNotV, fIf, fLN, fLC, fAN, fAC, fAB, fNV, fTup, fCB, bInt, bAbs, bLen, bMax2, bMin2, bTuple, fSeq, seqOf, fCall, fCallK, fAsg, gNm, gsNil, gsCons, gTpl, gSq, fPar, fMV, fMN, setAll, fApp, fExt, fSetIx, fFrz, fForS, fRng1, fRng2, fBits, List.set_cons_zero, List.set_cons_succ, List.length_cons, List.length_nil, endsOf, decide_eq_true_eq, true_and, and_true, at0, at1, at2, at3, at4, Bool.not_eq_true', decide_eq_false_iff_not, lg2, Int.reduceLT, ↓reduceIte]
    refine go_draw (by decide) (by decide) fun st st0 st1 => ?_
    try simp only [fSeqS, fSet, fSetN, fRet, fIfS, fNext, fBreak, fCont, fNever, fBin, fCmp, fV, fN, fC, lk, lk_z, lk_s, gAdd, gSub, gMul, gDiv, gMod, gPow, gShl, gShlW, gShr, gv, gLt, gLe, gGt, gGe, gEq, gNe, gIx, fNeg, fTV, fNot, fAnd, fOr, fAndV, fOrV, fNotV, fIf, fLN, fLC, fAN, fAC, fAB, fNV, fTup, fCB, bInt, bAbs, bLen, bMax2, bMin2, bTuple, fSeq, seqOf, fCall, fCallK, fAsg, gNm, gsNil, gsCons, gTpl, gSq, fPar, fMV, fMN, setAll, fApp, fExt, fSetIx, fFrz, fForS, fRng1, fRng2, fBits, List.set_cons_zero, List.set_cons_succ, List.length_cons, List.length_nil, endsOf, decide_eq_true_eq, true_and, and_true, at0, at1, at2, at3, at4, Bool.not_eq_true', decide_eq_false_iff_not, lg2, Int.reduceLT, ↓reduceIte]
    refine go_near hn st0 (by omega) fun h k h0 h1 k0 k1 => ?_
    try simp only [fSeqS, fSet, fSetN, fRet, fIfS, fNext, fBreak, fCont, fNever, fBin, fCmp, fV, fN, fC, lk, lk_z, lk_s, gAdd, gSub, gMul, gDiv, gMod, gPow, gShl, gShlW, gShr, gv, gLt, gLe, gGt, gGe, gEq, gNe, gIx, fNeg, fTV, fNot, fAnd, fOr, fAndV, fOrV, fNotV, fIf, fLN, fLC, fAN, fAC, fAB, fNV, fTup, fCB, bInt, bAbs, bLen, bMax2, bMin2, bTuple, fSeq, seqOf, fCall, fCallK, fAsg, gNm, gsNil, gsCons, gTpl, gSq, fPar, fMV, fMN, setAll, fApp, fExt, fSetIx, fFrz, fForS, fRng1, fRng2, fBits, List.set_cons_zero, List.set_cons_succ, List.length_cons, List.length_nil, endsOf, decide_eq_true_eq, true_and, and_true, at0, at1, at2, at3, at4, Bool.not_eq_true', decide_eq_false_iff_not, lg2, Int.reduceLT, ↓reduceIte]
    have sh : Sm 40 h := s40 (by omega) (by omega)
    have sk : Sm 40 k := s40 (by omega) (by omega)
    have a1 : Sm 41 (sg * h) := (ssg.mul sh).le (by decide)
    have a2 : Sm 41 (-sg * k) := (ssg.neg.mul sk).le (by decide)
    have sa : Sm 40 (a0 - 100000) := s40 (by omega) (by omega)
    have sb : Sm 40 (b0 - 100000) := s40 (by omega) (by omega)
    have sgg : Sm 40 (1 + g0) := s40 (by omega) (by omega)
    unfold q__law_near_asks_2
    simp only [fSeqS, fSet, fSetN, fRet, fIfS, fNext, fBreak, fCont, fNever, fBin, fCmp, fV, fN, fC, lk, lk_z, lk_s, gAdd, gSub, gMul, gDiv, gMod, gPow, gShl, gShlW, gShr, gv, gLt, gLe, gGt, gGe, gEq, gNe, gIx, fNeg, fTV, fNot, fAnd, fOr, fAndV, fOrV, fNotV, fIf, fLN, fLC, fAN, fAC, fAB, fNV, fTup, fCB, bInt, bAbs, bLen, bMax2, bMin2, bTuple, fSeq, seqOf, fCall, fCallK, fAsg, gNm, gsNil, gsCons, gTpl, gSq, fPar, fMV, fMN, setAll, fApp, fExt, fSetIx, fFrz, fForS, fRng1, fRng2, fBits, List.set_cons_zero, List.set_cons_succ, List.length_cons, List.length_nil, endsOf, decide_eq_true_eq, true_and, and_true, at0, at1, at2, at3, at4, Bool.not_eq_true', decide_eq_false_iff_not, lg2, Int.reduceLT, ↓reduceIte]
    refine go__law_surd ⟨_, _, _, _⟩ ⟨by show 0 < 1 + g0; omega, sa.le (by decide), sb.le (by decide), sgg.le (by decide)⟩ ?_
    try simp only [fSeqS, fSet, fSetN, fRet, fIfS, fNext, fBreak, fCont, fNever, fBin, fCmp, fV, fN, fC, lk, lk_z, lk_s, gAdd, gSub, gMul, gDiv, gMod, gPow, gShl, gShlW, gShr, gv, gLt, gLe, gGt, gGe, gEq, gNe, gIx, fNeg, fTV, fNot, fAnd, fOr, fAndV, fOrV, fNotV, fIf, fLN, fLC, fAN, fAC, fAB, fNV, fTup, fCB, bInt, bAbs, bLen, bMax2, bMin2, bTuple, fSeq, seqOf, fCall, fCallK, fAsg, gNm, gsNil, gsCons, gTpl, gSq, fPar, fMV, fMN, setAll, fApp, fExt, fSetIx, fFrz, fForS, fRng1, fRng2, fBits, List.set_cons_zero, List.set_cons_succ, List.length_cons, List.length_nil, endsOf, decide_eq_true_eq, true_and, and_true, at0, at1, at2, at3, at4, Bool.not_eq_true', decide_eq_false_iff_not, lg2, Int.reduceLT, ↓reduceIte]
    have b7 : Bd 100 (nrm (a0 - 100000) (b0 - 100000) (1 + g0) n) := (mk_bd sa sb sgg (by omega) hn).le (by decide)
    generalize nrm (a0 - 100000) (b0 - 100000) (1 + g0) n = few at b7
    unfold q__law_near_asks_1
    simp only [fSeqS, fSet, fSetN, fRet, fIfS, fNext, fBreak, fCont, fNever, fBin, fCmp, fV, fN, fC, lk, lk_z, lk_s, gAdd, gSub, gMul, gDiv, gMod, gPow, gShl, gShlW, gShr, gv, gLt, gLe, gGt, gGe, gEq, gNe, gIx, fNeg, fTV, fNot, fAnd, fOr, fAndV, fOrV, fNotV, fIf, fLN, fLC, fAN, fAC, fAB, fNV, fTup, fCB, bInt, bAbs, bLen, bMax2, bMin2, bTuple, fSeq, seqOf, fCall, fCallK, fAsg, gNm, gsNil, gsCons, gTpl, gSq, fPar, fMV, fMN, setAll, fApp, fExt, fSetIx, fFrz, fForS, fRng1, fRng2, fBits, List.set_cons_zero, List.set_cons_succ, List.length_cons, List.length_nil, endsOf, decide_eq_true_eq, true_and, and_true, at0, at1, at2, at3, at4, Bool.not_eq_true', decide_eq_false_iff_not, lg2, Int.reduceLT, ↓reduceIte, pw10, tp10]
    split
    · have b8 : Bd 100 ⟨sg * h, -sg * k, 1, n⟩ := bd_of (a1.le (by decide)) (a2.le (by decide)) (s1.le (by decide)) (by decide) n0 sn
      refine ⟨mw ssg sh, mw ssg.neg sk, ?_⟩
      refine go2 (s := few) (t := ⟨sg * h, -sg * k, 1, n⟩) (F := fun s t => (sumS s t).D) ⟨B b7, B b8⟩ ?_
      try simp only [fSeqS, fSet, fSetN, fRet, fIfS, fNext, fBreak, fCont, fNever, fBin, fCmp, fV, fN, fC, lk, lk_z, lk_s, gAdd, gSub, gMul, gDiv, gMod, gPow, gShl, gShlW, gShr, gv, gLt, gLe, gGt, gGe, gEq, gNe, gIx, fNeg, fTV, fNot, fAnd, fOr, fAndV, fOrV, fNotV, fIf, fLN, fLC, fAN, fAC, fAB, fNV, fTup, fCB, bInt, bAbs, bLen, bMax2, bMin2, bTuple, fSeq, seqOf, fCall, fCallK, fAsg, gNm, gsNil, gsCons, gTpl, gSq, fPar, fMV, fMN, setAll, fApp, fExt, fSetIx, fFrz, fForS, fRng1, fRng2, fBits, List.set_cons_zero, List.set_cons_succ, List.length_cons, List.length_nil, endsOf, decide_eq_true_eq, true_and, and_true, at0, at1, at2, at3, at4, Bool.not_eq_true', decide_eq_false_iff_not, lg2, Int.reduceLT, ↓reduceIte]
      have b9 : Bd 960 (sumS few ⟨sg * h, -sg * k, 1, n⟩) := (b7.sum b8).le (by decide)
      generalize sumS few ⟨sg * h, -sg * k, 1, n⟩ = close at b9
      unfold q__law_near_asks_0
      refine ext_asks (l := l3) [.order few close, .order close few, .less close few] rfl (fun P h => by simp only [fSeqS, fSet, fSetN, fRet, fIfS, fNext, fBreak, fCont, fNever, fBin, fCmp, fV, fN, fC, lk, lk_z, lk_s, gAdd, gSub, gMul, gDiv, gMod, gPow, gShl, gShlW, gShr, gv, gLt, gLe, gGt, gGe, gEq, gNe, gIx, fNeg, fTV, fNot, fAnd, fOr, fAndV, fOrV, fNotV, fIf, fLN, fLC, fAN, fAC, fAB, fNV, fTup, fCB, bInt, bAbs, bLen, bMax2, bMin2, bTuple, fSeq, seqOf, fCall, fCallK, fAsg, gNm, gsNil, gsCons, gTpl, gSq, fPar, fMV, fMN, setAll, fApp, fExt, fSetIx, fFrz, fForS, fRng1, fRng2, fBits, List.set_cons_zero, List.set_cons_succ, List.length_cons, List.length_nil, endsOf, decide_eq_true_eq, true_and, and_true, at0, at1, at2, at3, at4, Bool.not_eq_true', decide_eq_false_iff_not, lg2, Int.reduceLT, ↓reduceIte]; exact h) (by simp only [List.length_cons, List.length_nil]; omega) ?_
      refine hK _ ⟨_, _, _, _, _, _, _, _, _, _, _, _, _, _, _, _, _, rfl, hl3.app (.cons ⟨B b7, b9⟩ rfl (.cons ⟨b9, B b7⟩ rfl (.cons ⟨b9, B b7⟩ rfl .nil))), ?_⟩
      rw [List.length_append]
      simp only [List.length_cons, List.length_nil]
      omega
    · exact hK _ ⟨l3, _, _, _, _, _, _, _, _, _, _, _, _, _, _, _, _, rfl, hl3, by omega⟩
  · rintro ρ ⟨l, s3, s4, s5, s6, s7, s8, s9, s10, s11, s12, s13, s14, s15, s16, s17, s18, rfl, hl, hlen⟩
    simp only [fSeqS, fSet, fSetN, fRet, fIfS, fNext, fBreak, fCont, fNever, fBin, fCmp, fV, fN, fC, lk, lk_z, lk_s, gAdd, gSub, gMul, gDiv, gMod, gPow, gShl, gShlW, gShr, gv, gLt, gLe, gGt, gGe, gEq, gNe, gIx, fNeg, fTV, fNot, fAnd, fOr, fAndV, fOrV, fNotV, fIf, fLN, fLC, fAN, fAC, fAB, fNV, fTup, fCB, bInt, bAbs, bLen, bMax2, bMin2, bTuple, fSeq, seqOf, fCall, fCallK, fAsg, gNm, gsNil, gsCons, gTpl, gSq, fPar, fMV, fMN, setAll, fApp, fExt, fSetIx, fFrz, fForS, fRng1, fRng2, fBits, List.set_cons_zero, List.set_cons_succ, List.length_cons, List.length_nil, endsOf, decide_eq_true_eq, true_and, and_true, at0, at1, at2, at3, at4, Bool.not_eq_true', decide_eq_false_iff_not, lg2, Int.reduceLT, ↓reduceIte]
    exact hq' l (by omega) hl
end T
end DL
namespace DL
namespace T
open PySem L2 PySem.Spec PyProof.Rows
theorem app_ask {i : Nat} {fa : SE} {E : En} {ρ : Env} {l : List Ask} (q : Ask) (h : lk ρ i = .ow (l.map Ask.D)) (hfa : ∀ P : D → Prop, P q.D → fa ρ P) (len : l.length < 1000) (k : E.nx (ρ.set i (.ow ((l ++ [q]).map Ask.D)))) : fApp i fa E ρ := by
  unfold fApp
  rw [h]
  refine hfa _ ⟨?_, ?_⟩
  · rw [List.length_map]
    unfold most
    omega
  · rw [List.map_append] at k
    exact k
/-- surds in a list -/
def AllS (zs : List D) : Prop := ∀ z ∈ zs, ∃ s : S4, z = s.D ∧ Bd 100 s
theorem r__law_plain_asks : ∀ ss (Q : D → Prop), S__law_plain_asks ss Q → g__law_plain_asks (endsOf Q) (initE N__law_plain_asks ss) := by
  rintro ss Q ⟨_, ⟨n, rfl, hn⟩, hq⟩
  have hq' := fun (l : List Ask) (h1 : l.length ≤ 300) (h2 : AllOk l) => hq (.list (l.map Ask.D)) ⟨l, rfl, h1, h2⟩
  have n0 : 0 ≤ n := by have := hn.1; omega
  have sn := hn.sm
  have s1 : Sm 40 1 := s40 (by decide) (by decide)
  have s00 : Sm 40 0 := s40 (by decide) (by decide)
  have B : ∀ {s : S4}, Bd 100 s → Bd 960 s := fun h => h.le (by decide)
  simp only [N__law_plain_asks, initE, List.length_cons, List.length_nil, Nat.reduceAdd, Nat.reduceSub, List.replicate, List.cons_append, List.nil_append, List.append_nil]
  unfold g__law_plain_asks
  refine seq_go ?_
  simp only [fSeqS, fSet, fSetN, fRet, fIfS, fNext, fBreak, fCont, fNever, fBin, fCmp, fV, fN, fC, lk, lk_z, lk_s, gAdd, gSub, gMul, gDiv, gMod, gPow, gShl, gShlW, gShr, gv, gLt, gLe, gGt, gGe, gEq, gNe, gIx, fNeg, fTV, fNot, fAnd, fOr, fAndV, fOrV, fNotV, fIf, fLN, fLC, fAN, fAC, fAB, fNV, fTup, fCB, bInt, bAbs, bLen, bMax2, bMin2, bTuple, fSeq, seqOf, fCall, fCallK, fAsg, gNm, gsNil, gsCons, gTpl, gSq, fPar, fMV, fMN, setAll, fApp, fExt, fSetIx, fFrz, fForS, fRng1, fRng2, fBits, List.set_cons_zero, List.set_cons_succ, List.length_cons, List.length_nil, endsOf, decide_eq_true_eq, true_and, and_true, at0, at1, at2, at3, at4, Bool.not_eq_true', decide_eq_false_iff_not, lg2, Int.reduceLT, ↓reduceIte, fLc]
  refine ⟨by decide, by decide, by rw [rng_len]; decide, ?_⟩
  refine lc_of (fun ds Q => ∀ ys : List D, AllS ys → ys.length = ds.length → Q ys) ?_ ?_ _ _ ?_
  · rintro d ds Q2 h2 K hK
    simp only [fSeqS, fSet, fSetN, fRet, fIfS, fNext, fBreak, fCont, fNever, fBin, fCmp, fV, fN, fC, lk, lk_z, lk_s, gAdd, gSub, gMul, gDiv, gMod, gPow, gShl, gShlW, gShr, gv, gLt, gLe, gGt, gGe, gEq, gNe, gIx, fNeg, fTV, fNot, fAnd, fOr, fAndV, fOrV, fNotV, fIf, fLN, fLC, fAN, fAC, fAB, fNV, fTup, fCB, bInt, bAbs, bLen, bMax2, bMin2, bTuple, fSeq, seqOf, fCall, fCallK, fAsg, gNm, gsNil, gsCons, gTpl, gSq, fPar, fMV, fMN, setAll, fApp, fExt, fSetIx, fFrz, fForS, fRng1, fRng2, fBits, List.set_cons_zero, List.set_cons_succ, List.length_cons, List.length_nil, endsOf, decide_eq_true_eq, true_and, and_true, at0, at1, at2, at3, at4, Bool.not_eq_true', decide_eq_false_iff_not, lg2, Int.reduceLT, ↓reduceIte, fYes, wipeE]
    refine ⟨rfl, ⟨n, rfl, hn⟩, ?_⟩
    rintro d ⟨s, rfl, hs⟩
    refine hK _ fun ys h3 h4 => h2 _ (fun z hz => ?_) (by simp [h4])
    rcases List.mem_cons.mp hz with rfl | hz
    · exact ⟨s, rfl, hs.le (by decide)⟩
    · exact h3 z hz
  · exact fun Q2 h2 => h2 [] (fun z hz => by cases hz) rfl
  intro ys hys hlen
  rw [rng_len] at hlen
  have hlen : ys.length = 4 := hlen
  try refine ⟨rfl, ?_⟩
  unfold q__law_plain_asks_12
  refine seq_go ?_
  simp only [fSeqS, fSet, fSetN, fRet, fIfS, fNext, fBreak, fCont, fNever, fBin, fCmp, fV, fN, fC, lk, lk_z, lk_s, gAdd, gSub, gMul, gDiv, gMod, gPow, gShl, gShlW, gShr, gv, gLt, gLe, gGt, gGe, gEq, gNe, gIx, fNeg, fTV, fNot, fAnd, fOr, fAndV, fOrV, fNotV, fIf, fLN, fLC, fAN, fAC, fAB, fNV, fTup, fCB, bInt, bAbs, bLen, bMax2, bMin2, bTuple, fSeq, seqOf, fCall, fCallK, fAsg, gNm, gsNil, gsCons, gTpl, gSq, fPar, fMV, fMN, setAll, fApp, fExt, fSetIx, fFrz, fForS, fRng1, fRng2, fBits, List.set_cons_zero, List.set_cons_succ, List.length_cons, List.length_nil, endsOf, decide_eq_true_eq, true_and, and_true, at0, at1, at2, at3, at4, Bool.not_eq_true', decide_eq_false_iff_not, lg2, Int.reduceLT, ↓reduceIte]
  refine go_draw (by decide) (by decide) fun x x0 x1 => ?_
  try simp only [fSeqS, fSet, fSetN, fRet, fIfS, fNext, fBreak, fCont, fNever, fBin, fCmp, fV, fN, fC, lk, lk_z, lk_s, gAdd, gSub, gMul, gDiv, gMod, gPow, gShl, gShlW, gShr, gv, gLt, gLe, gGt, gGe, gEq, gNe, gIx, fNeg, fTV, fNot, fAnd, fOr, fAndV, fOrV, fNotV, fIf, fLN, fLC, fAN, fAC, fAB, fNV, fTup, fCB, bInt, bAbs, bLen, bMax2, bMin2, bTuple, fSeq, seqOf, fCall, fCallK, fAsg, gNm, gsNil, gsCons, gTpl, gSq, fPar, fMV, fMN, setAll, fApp, fExt, fSetIx, fFrz, fForS, fRng1, fRng2, fBits, List.set_cons_zero, List.set_cons_succ, List.length_cons, List.length_nil, endsOf, decide_eq_true_eq, true_and, and_true, at0, at1, at2, at3, at4, Bool.not_eq_true', decide_eq_false_iff_not, lg2, Int.reduceLT, ↓reduceIte]
  refine go_draw (by decide) (by decide) fun y y0 y1 => ?_
  try simp only [fSeqS, fSet, fSetN, fRet, fIfS, fNext, fBreak, fCont, fNever, fBin, fCmp, fV, fN, fC, lk, lk_z, lk_s, gAdd, gSub, gMul, gDiv, gMod, gPow, gShl, gShlW, gShr, gv, gLt, gLe, gGt, gGe, gEq, gNe, gIx, fNeg, fTV, fNot, fAnd, fOr, fAndV, fOrV, fNotV, fIf, fLN, fLC, fAN, fAC, fAB, fNV, fTup, fCB, bInt, bAbs, bLen, bMax2, bMin2, bTuple, fSeq, seqOf, fCall, fCallK, fAsg, gNm, gsNil, gsCons, gTpl, gSq, fPar, fMV, fMN, setAll, fApp, fExt, fSetIx, fFrz, fForS, fRng1, fRng2, fBits, List.set_cons_zero, List.set_cons_succ, List.length_cons, List.length_nil, endsOf, decide_eq_true_eq, true_and, and_true, at0, at1, at2, at3, at4, Bool.not_eq_true', decide_eq_false_iff_not, lg2, Int.reduceLT, ↓reduceIte]
  have sx : Sm 40 (-1 - x) := s40 (by omega) (by omega)
  have sy : Sm 40 (2 + y) := s40 (by omega) (by omega)
  refine go__law_surd ⟨_, _, _, _⟩ ⟨by show 0 < 2 + y; omega, sx.le (by decide), (sz0 4000), sy.le (by decide)⟩ ?_
  try simp only [fSeqS, fSet, fSetN, fRet, fIfS, fNext, fBreak, fCont, fNever, fBin, fCmp, fV, fN, fC, lk, lk_z, lk_s, gAdd, gSub, gMul, gDiv, gMod, gPow, gShl, gShlW, gShr, gv, gLt, gLe, gGt, gGe, gEq, gNe, gIx, fNeg, fTV, fNot, fAnd, fOr, fAndV, fOrV, fNotV, fIf, fLN, fLC, fAN, fAC, fAB, fNV, fTup, fCB, bInt, bAbs, bLen, bMax2, bMin2, bTuple, fSeq, seqOf, fCall, fCallK, fAsg, gNm, gsNil, gsCons, gTpl, gSq, fPar, fMV, fMN, setAll, fApp, fExt, fSetIx, fFrz, fForS, fRng1, fRng2, fBits, List.set_cons_zero, List.set_cons_succ, List.length_cons, List.length_nil, endsOf, decide_eq_true_eq, true_and, and_true, at0, at1, at2, at3, at4, Bool.not_eq_true', decide_eq_false_iff_not, lg2, Int.reduceLT, ↓reduceIte]
  have b1 : Bd 100 (nrm (-1 - x) 0 (2 + y) 0) := (nrm_bd sx s00 sy (by omega) (by decide) (sz0 20)).le (by decide)
  generalize nrm (-1 - x) 0 (2 + y) 0 = few at b1
  unfold q__law_plain_asks_11
  refine seq_go ?_
  simp only [fSeqS, fSet, fSetN, fRet, fIfS, fNext, fBreak, fCont, fNever, fBin, fCmp, fV, fN, fC, lk, lk_z, lk_s, gAdd, gSub, gMul, gDiv, gMod, gPow, gShl, gShlW, gShr, gv, gLt, gLe, gGt, gGe, gEq, gNe, gIx, fNeg, fTV, fNot, fAnd, fOr, fAndV, fOrV, fNotV, fIf, fLN, fLC, fAN, fAC, fAB, fNV, fTup, fCB, bInt, bAbs, bLen, bMax2, bMin2, bTuple, fSeq, seqOf, fCall, fCallK, fAsg, gNm, gsNil, gsCons, gTpl, gSq, fPar, fMV, fMN, setAll, fApp, fExt, fSetIx, fFrz, fForS, fRng1, fRng2, fBits, List.set_cons_zero, List.set_cons_succ, List.length_cons, List.length_nil, endsOf, decide_eq_true_eq, true_and, and_true, at0, at1, at2, at3, at4, Bool.not_eq_true', decide_eq_false_iff_not, lg2, Int.reduceLT, ↓reduceIte, pw12, tp12]
  refine go_integer fun w w0 w1 => ?_
  try simp only [fSeqS, fSet, fSetN, fRet, fIfS, fNext, fBreak, fCont, fNever, fBin, fCmp, fV, fN, fC, lk, lk_z, lk_s, gAdd, gSub, gMul, gDiv, gMod, gPow, gShl, gShlW, gShr, gv, gLt, gLe, gGt, gGe, gEq, gNe, gIx, fNeg, fTV, fNot, fAnd, fOr, fAndV, fOrV, fNotV, fIf, fLN, fLC, fAN, fAC, fAB, fNV, fTup, fCB, bInt, bAbs, bLen, bMax2, bMin2, bTuple, fSeq, seqOf, fCall, fCallK, fAsg, gNm, gsNil, gsCons, gTpl, gSq, fPar, fMV, fMN, setAll, fApp, fExt, fSetIx, fFrz, fForS, fRng1, fRng2, fBits, List.set_cons_zero, List.set_cons_succ, List.length_cons, List.length_nil, endsOf, decide_eq_true_eq, true_and, and_true, at0, at1, at2, at3, at4, Bool.not_eq_true', decide_eq_false_iff_not, lg2, Int.reduceLT, ↓reduceIte]
  refine ⟨by rw [hlen]; unfold most; decide, ?_⟩
  have sw : Sm 40 w := s40 w0 w1
  have b2 : Bd 100 ⟨0, 0, 1, 0⟩ := bd_of (sz0 100) (sz0 100) (s1.le (by decide)) (by decide) (by decide) (sz0 20)
  have b3 : Bd 100 ⟨0, 1000000000000, 1, n⟩ := bd_of (sz0 100) ((s40 (by decide) (by decide)).le (by decide)) (s1.le (by decide)) (by decide) n0 sn
  have b4 : Bd 100 ⟨w, 0, 1, 0⟩ := bd_of (sw.le (by decide)) (sz0 100) (s1.le (by decide)) (by decide) (by decide) (sz0 20)
  have hz : AllS (ys ++ [PyData.tuple [.int 0, .int 0, .int 1, .int 0], few.D, .tuple [.int 0, .int 1000000000000, .int 1, .int n], .tuple [.int w, .int 0, .int 1, .int 0]]) := fun z hz => by
    rcases List.mem_append.mp hz with h | h
    · exact hys z h
    · simp only [List.mem_cons, List.not_mem_nil, or_false] at h
      rcases h with rfl | rfl | rfl | rfl
      · exact ⟨_, rfl, b2⟩
      · exact ⟨_, rfl, b1⟩
      · exact ⟨_, rfl, b3⟩
      · exact ⟨_, rfl, b4⟩
  have el : (ys ++ [PyData.tuple [.int 0, .int 0, .int 1, .int 0], few.D, .tuple [.int 0, .int 1000000000000, .int 1, .int n], .tuple [.int w, .int 0, .int 1, .int 0]]).length = 8 := by
    rw [List.length_append, hlen]; rfl
  generalize hzs : ys ++ [PyData.tuple [.int 0, .int 0, .int 1, .int 0], few.D, .tuple [.int 0, .int 1000000000000, .int 1, .int n], .tuple [.int w, .int 0, .int 1, .int 0]] = zs at hz el
  clear hzs
  unfold q__law_plain_asks_10
  refine seq_go ?_
  simp only [fSeqS, fSet, fSetN, fRet, fIfS, fNext, fBreak, fCont, fNever, fBin, fCmp, fV, fN, fC, lk, lk_z, lk_s, gAdd, gSub, gMul, gDiv, gMod, gPow, gShl, gShlW, gShr, gv, gLt, gLe, gGt, gGe, gEq, gNe, gIx, fNeg, fTV, fNot, fAnd, fOr, fAndV, fOrV, fNotV, fIf, fLN, fLC, fAN, fAC, fAB, fNV, fTup, fCB, bInt, bAbs, bLen, bMax2, bMin2, bTuple, fSeq, seqOf, fCall, fCallK, fAsg, gNm, gsNil, gsCons, gTpl, gSq, fPar, fMV, fMN, setAll, fApp, fExt, fSetIx, fFrz, fForS, fRng1, fRng2, fBits, List.set_cons_zero, List.set_cons_succ, List.length_cons, List.length_nil, endsOf, decide_eq_true_eq, true_and, and_true, at0, at1, at2, at3, at4, Bool.not_eq_true', decide_eq_false_iff_not, lg2, Int.reduceLT, ↓reduceIte]
  refine for_of (fun ds ρ => ∃ (l : List Ask) (s5 s6 s7 s8 s9 s10 s11 s12 s13 s14 s4 : Sl), ρ = [.bg, iS n, .sh (.list zs), .ow (l.map Ask.D), s4, s5, s6, s7, s8, s9, s10, s11, s12, s13, s14] ∧ AllOk l ∧ AllS ds ∧ l.length + 8 * ds.length ≤ 64) ?_ ?_ _ _ ⟨[], _, _, _, _, _, _, _, _, _, _, _, rfl, AllOk.nil, hz, by rw [el]; decide⟩
  · rintro d ds ρ ⟨l, s5, s6, s7, s8, s9, s10, s11, s12, s13, s14, s4, rfl, hl, hs, hlen⟩ K hK
    rw [List.length_cons] at hlen
    obtain ⟨s, rfl, bs⟩ := hs d List.mem_cons_self
    have hs' : AllS ds := fun z hz => hs z (List.mem_cons_of_mem _ hz)
    unfold q__law_plain_asks_4
    simp only [fSeqS, fSet, fSetN, fRet, fIfS, fNext, fBreak, fCont, fNever, fBin, fCmp, fV, fN, fC, lk, lk_z, lk_s, gAdd, gSub, gMul, gDiv, gMod, gPow, gShl, gShlW, gShr, gv, gLt, gLe, gGt, gGe, gEq, gNe, gIx, fNeg, fTV, fNot, fAnd, fOr, fAndV, fOrV, fNotV, fIf, fLN, fLC, fAN, fAC, fAB, fNV, fTup, fCB, bInt, bAbs, bLen, bMax2, bMin2, bTuple, fSeq, seqOf, fCall, fCallK, fAsg, gNm, gsNil, gsCons, gTpl, gSq, fPar, fMV, fMN, setAll, fApp, fExt, fSetIx, fFrz, fForS, fRng1, fRng2, fBits, List.set_cons_zero, List.set_cons_succ, List.length_cons, List.length_nil, endsOf, decide_eq_true_eq, true_and, and_true, at0, at1, at2, at3, at4, Bool.not_eq_true', decide_eq_false_iff_not, lg2, Int.reduceLT, ↓reduceIte, D4]
    have bn : Bd 100 ⟨-s.a, -s.b, s.c, s.d⟩ := bs.neg
    have bm : Bd 100 ⟨s.a, -s.b, s.c, s.d⟩ := bd_of bs.a bs.b.neg bs.c bs.c0 bs.d0 bs.d
    unfold q__law_plain_asks_3
    refine seq_go ?_
    refine ext_asks (l := l) [.sign s, .whole s, .whole ⟨-s.a, -s.b, s.c, s.d⟩, .sign ⟨s.a, -s.b, s.c, s.d⟩] rfl (fun P h => by simp only [fSeqS, fSet, fSetN, fRet, fIfS, fNext, fBreak, fCont, fNever, fBin, fCmp, fV, fN, fC, lk, lk_z, lk_s, gAdd, gSub, gMul, gDiv, gMod, gPow, gShl, gShlW, gShr, gv, gLt, gLe, gGt, gGe, gEq, gNe, gIx, fNeg, fTV, fNot, fAnd, fOr, fAndV, fOrV, fNotV, fIf, fLN, fLC, fAN, fAC, fAB, fNV, fTup, fCB, bInt, bAbs, bLen, bMax2, bMin2, bTuple, fSeq, seqOf, fCall, fCallK, fAsg, gNm, gsNil, gsCons, gTpl, gSq, fPar, fMV, fMN, setAll, fApp, fExt, fSetIx, fFrz, fForS, fRng1, fRng2, fBits, List.set_cons_zero, List.set_cons_succ, List.length_cons, List.length_nil, endsOf, decide_eq_true_eq, true_and, and_true, at0, at1, at2, at3, at4, Bool.not_eq_true', decide_eq_false_iff_not, lg2, Int.reduceLT, ↓reduceIte]; exact h) (by simp only [List.length_cons, List.length_nil]; omega) ?_
    have hl1 := hl.app (m := [.sign s, .whole s, .whole ⟨-s.a, -s.b, s.c, s.d⟩, .sign ⟨s.a, -s.b, s.c, s.d⟩]) (.cons (B bs) rfl (.cons (B bs) rfl (.cons (B bn) rfl (.cons (B bm) rfl .nil))))
    have e1 : (l ++ [Ask.sign s, .whole s, .whole ⟨-s.a, -s.b, s.c, s.d⟩, .sign ⟨s.a, -s.b, s.c, s.d⟩]).length = l.length + 4 := List.length_append
    generalize l ++ [Ask.sign s, .whole s, .whole ⟨-s.a, -s.b, s.c, s.d⟩, .sign ⟨s.a, -s.b, s.c, s.d⟩] = l1 at hl1 e1
    simp only [List.set_cons_succ, List.set_cons_zero]
    unfold q__law_plain_asks_2
    refine seq_go ?_
    simp only [fSeqS, fSet, fSetN, fRet, fIfS, fNext, fBreak, fCont, fNever, fBin, fCmp, fV, fN, fC, lk, lk_z, lk_s, gAdd, gSub, gMul, gDiv, gMod, gPow, gShl, gShlW, gShr, gv, gLt, gLe, gGt, gGe, gEq, gNe, gIx, fNeg, fTV, fNot, fAnd, fOr, fAndV, fOrV, fNotV, fIf, fLN, fLC, fAN, fAC, fAB, fNV, fTup, fCB, bInt, bAbs, bLen, bMax2, bMin2, bTuple, fSeq, seqOf, fCall, fCallK, fAsg, gNm, gsNil, gsCons, gTpl, gSq, fPar, fMV, fMN, setAll, fApp, fExt, fSetIx, fFrz, fForS, fRng1, fRng2, fBits, List.set_cons_zero, List.set_cons_succ, List.length_cons, List.length_nil, endsOf, decide_eq_true_eq, true_and, and_true, at0, at1, at2, at3, at4, Bool.not_eq_true', decide_eq_false_iff_not, lg2, Int.reduceLT, ↓reduceIte]
    refine go_pick (fun z => by rw [z] at el; cases el) (by omega) fun d hd => ?_
    obtain ⟨t, rfl, bt⟩ := hz d hd
    try simp only [fSeqS, fSet, fSetN, fRet, fIfS, fNext, fBreak, fCont, fNever, fBin, fCmp, fV, fN, fC, lk, lk_z, lk_s, gAdd, gSub, gMul, gDiv, gMod, gPow, gShl, gShlW, gShr, gv, gLt, gLe, gGt, gGe, gEq, gNe, gIx, fNeg, fTV, fNot, fAnd, fOr, fAndV, fOrV, fNotV, fIf, fLN, fLC, fAN, fAC, fAB, fNV, fTup, fCB, bInt, bAbs, bLen, bMax2, bMin2, bTuple, fSeq, seqOf, fCall, fCallK, fAsg, gNm, gsNil, gsCons, gTpl, gSq, fPar, fMV, fMN, setAll, fApp, fExt, fSetIx, fFrz, fForS, fRng1, fRng2, fBits, List.set_cons_zero, List.set_cons_succ, List.length_cons, List.length_nil, endsOf, decide_eq_true_eq, true_and, and_true, at0, at1, at2, at3, at4, Bool.not_eq_true', decide_eq_false_iff_not, lg2, Int.reduceLT, ↓reduceIte]
    unfold q__law_plain_asks_1
    refine seq_go ?_
    refine app_ask (l := l1) (.order s ⟨s.a, -s.b, s.c, s.d⟩) rfl (fun P h => by simp only [fSeqS, fSet, fSetN, fRet, fIfS, fNext, fBreak, fCont, fNever, fBin, fCmp, fV, fN, fC, lk, lk_z, lk_s, gAdd, gSub, gMul, gDiv, gMod, gPow, gShl, gShlW, gShr, gv, gLt, gLe, gGt, gGe, gEq, gNe, gIx, fNeg, fTV, fNot, fAnd, fOr, fAndV, fOrV, fNotV, fIf, fLN, fLC, fAN, fAC, fAB, fNV, fTup, fCB, bInt, bAbs, bLen, bMax2, bMin2, bTuple, fSeq, seqOf, fCall, fCallK, fAsg, gNm, gsNil, gsCons, gTpl, gSq, fPar, fMV, fMN, setAll, fApp, fExt, fSetIx, fFrz, fForS, fRng1, fRng2, fBits, List.set_cons_zero, List.set_cons_succ, List.length_cons, List.length_nil, endsOf, decide_eq_true_eq, true_and, and_true, at0, at1, at2, at3, at4, Bool.not_eq_true', decide_eq_false_iff_not, lg2, Int.reduceLT, ↓reduceIte]; exact h) (by omega) ?_
    have hl2 := hl1.app (m := [.order s ⟨s.a, -s.b, s.c, s.d⟩]) (.cons ⟨B bs, B bm⟩ rfl .nil)
    have e2 : (l1 ++ [Ask.order s ⟨s.a, -s.b, s.c, s.d⟩]).length = l1.length + 1 := List.length_append
    generalize l1 ++ [Ask.order s ⟨s.a, -s.b, s.c, s.d⟩] = l2 at hl2 e2
    simp only [List.set_cons_succ, List.set_cons_zero]
    unfold q__law_plain_asks_0
    refine ext_asks (l := l2) [.order s t, .order t s, .less s t] rfl (fun P h => by simp only [fSeqS, fSet, fSetN, fRet, fIfS, fNext, fBreak, fCont, fNever, fBin, fCmp, fV, fN, fC, lk, lk_z, lk_s, gAdd, gSub, gMul, gDiv, gMod, gPow, gShl, gShlW, gShr, gv, gLt, gLe, gGt, gGe, gEq, gNe, gIx, fNeg, fTV, fNot, fAnd, fOr, fAndV, fOrV, fNotV, fIf, fLN, fLC, fAN, fAC, fAB, fNV, fTup, fCB, bInt, bAbs, bLen, bMax2, bMin2, bTuple, fSeq, seqOf, fCall, fCallK, fAsg, gNm, gsNil, gsCons, gTpl, gSq, fPar, fMV, fMN, setAll, fApp, fExt, fSetIx, fFrz, fForS, fRng1, fRng2, fBits, List.set_cons_zero, List.set_cons_succ, List.length_cons, List.length_nil, endsOf, decide_eq_true_eq, true_and, and_true, at0, at1, at2, at3, at4, Bool.not_eq_true', decide_eq_false_iff_not, lg2, Int.reduceLT, ↓reduceIte]; exact h) (by simp only [List.length_cons, List.length_nil]; omega) ?_
    refine hK _ ⟨_, _, _, _, _, _, _, _, _, _, _, _, rfl, hl2.app (.cons ⟨B bs, B bt⟩ rfl (.cons ⟨B bt, B bs⟩ rfl (.cons ⟨B bs, B bt⟩ rfl .nil))), hs', ?_⟩
    rw [List.length_append]
    simp only [List.length_cons, List.length_nil]
    omega
  · rintro ρ ⟨l, s5, s6, s7, s8, s9, s10, s11, s12, s13, s14, s4, rfl, hl, _, hlen⟩
    have hlen : l.length ≤ 64 := by omega
    obtain ⟨z0, zr, rfl⟩ : ∃ z0 zr, zs = z0 :: zr := by
      cases zs with
      | nil => cases el
      | cons a b => exact ⟨a, b, rfl⟩
    obtain ⟨s, rfl, bs⟩ := hz z0 List.mem_cons_self
    dsimp only
    unfold q__law_plain_asks_9
    refine seq_go ?_
    have bz : Bd 100 (nrm s.a s.b s.c n) := nrm_bd bs.a bs.b bs.c bs.c0 n0 sn
    refine app_ask (l := l) (.order s (nrm s.a s.b s.c n)) rfl (fun P h => by
      simp only [fSeqS, fSet, fSetN, fRet, fIfS, fNext, fBreak, fCont, fNever, fBin, fCmp, fV, fN, fC, lk, lk_z, lk_s, gAdd, gSub, gMul, gDiv, gMod, gPow, gShl, gShlW, gShr, gv, gLt, gLe, gGt, gGe, gEq, gNe, gIx, fNeg, fTV, fNot, fAnd, fOr, fAndV, fOrV, fNotV, fIf, fLN, fLC, fAN, fAC, fAB, fNV, fTup, fCB, bInt, bAbs, bLen, bMax2, bMin2, bTuple, fSeq, seqOf, fCall, fCallK, fAsg, gNm, gsNil, gsCons, gTpl, gSq, fPar, fMV, fMN, setAll, fApp, fExt, fSetIx, fFrz, fForS, fRng1, fRng2, fBits, List.set_cons_zero, List.set_cons_succ, List.length_cons, List.length_nil, endsOf, decide_eq_true_eq, true_and, and_true, at0, at1, at2, at3, at4, Bool.not_eq_true', decide_eq_false_iff_not, lg2, Int.reduceLT, ↓reduceIte, D4]
      exact go__law_surd ⟨s.a, s.b, s.c, n⟩ ⟨bs.c0, bs.a.le (by decide), bs.b.le (by decide), bs.c.le (by decide)⟩ h) (by omega) ?_
    have hl1 := hl.app (m := [.order s (nrm s.a s.b s.c n)]) (.cons ⟨B bs, B bz⟩ rfl .nil)
    have e1 : (l ++ [Ask.order s (nrm s.a s.b s.c n)]).length = l.length + 1 := List.length_append
    generalize l ++ [Ask.order s (nrm s.a s.b s.c n)] = l1 at hl1 e1
    simp only [List.set_cons_succ, List.set_cons_zero]
    unfold q__law_plain_asks_8
    refine seq_go ?_
    simp only [fSeqS, fSet, fSetN, fRet, fIfS, fNext, fBreak, fCont, fNever, fBin, fCmp, fV, fN, fC, lk, lk_z, lk_s, gAdd, gSub, gMul, gDiv, gMod, gPow, gShl, gShlW, gShr, gv, gLt, gLe, gGt, gGe, gEq, gNe, gIx, fNeg, fTV, fNot, fAnd, fOr, fAndV, fOrV, fNotV, fIf, fLN, fLC, fAN, fAC, fAB, fNV, fTup, fCB, bInt, bAbs, bLen, bMax2, bMin2, bTuple, fSeq, seqOf, fCall, fCallK, fAsg, gNm, gsNil, gsCons, gTpl, gSq, fPar, fMV, fMN, setAll, fApp, fExt, fSetIx, fFrz, fForS, fRng1, fRng2, fBits, List.set_cons_zero, List.set_cons_succ, List.length_cons, List.length_nil, endsOf, decide_eq_true_eq, true_and, and_true, at0, at1, at2, at3, at4, Bool.not_eq_true', decide_eq_false_iff_not, lg2, Int.reduceLT, ↓reduceIte, pw12, tp12, pw6, tp6]
    refine go_draw (by decide) (by decide) fun f f0 f1 => ?_
    try simp only [fSeqS, fSet, fSetN, fRet, fIfS, fNext, fBreak, fCont, fNever, fBin, fCmp, fV, fN, fC, lk, lk_z, lk_s, gAdd, gSub, gMul, gDiv, gMod, gPow, gShl, gShlW, gShr, gv, gLt, gLe, gGt, gGe, gEq, gNe, gIx, fNeg, fTV, fNot, fAnd, fOr, fAndV, fOrV, fNotV, fIf, fLN, fLC, fAN, fAC, fAB, fNV, fTup, fCB, bInt, bAbs, bLen, bMax2, bMin2, bTuple, fSeq, seqOf, fCall, fCallK, fAsg, gNm, gsNil, gsCons, gTpl, gSq, fPar, fMV, fMN, setAll, fApp, fExt, fSetIx, fFrz, fForS, fRng1, fRng2, fBits, List.set_cons_zero, List.set_cons_succ, List.length_cons, List.length_nil, endsOf, decide_eq_true_eq, true_and, and_true, at0, at1, at2, at3, at4, Bool.not_eq_true', decide_eq_false_iff_not, lg2, Int.reduceLT, ↓reduceIte]
    unfold q__law_plain_asks_7
    refine seq_go ?_
    simp only [fSeqS, fSet, fSetN, fRet, fIfS, fNext, fBreak, fCont, fNever, fBin, fCmp, fV, fN, fC, lk, lk_z, lk_s, gAdd, gSub, gMul, gDiv, gMod, gPow, gShl, gShlW, gShr, gv, gLt, gLe, gGt, gGe, gEq, gNe, gIx, fNeg, fTV, fNot, fAnd, fOr, fAndV, fOrV, fNotV, fIf, fLN, fLC, fAN, fAC, fAB, fNV, fTup, fCB, bInt, bAbs, bLen, bMax2, bMin2, bTuple, fSeq, seqOf, fCall, fCallK, fAsg, gNm, gsNil, gsCons, gTpl, gSq, fPar, fMV, fMN, setAll, fApp, fExt, fSetIx, fFrz, fForS, fRng1, fRng2, fBits, List.set_cons_zero, List.set_cons_succ, List.length_cons, List.length_nil, endsOf, decide_eq_true_eq, true_and, and_true, at0, at1, at2, at3, at4, Bool.not_eq_true', decide_eq_false_iff_not, lg2, Int.reduceLT, ↓reduceIte]
    refine go_pick (by simp) (by simp) fun d hd => ?_
    obtain ⟨sg, rfl, hsg⟩ : ∃ sg : Int, d = .int sg ∧ (sg = 1 ∨ sg = -1) := by
      simp only [List.mem_cons, List.not_mem_nil, or_false] at hd
      rcases hd with rfl | rfl
      · exact ⟨_, rfl, .inl rfl⟩
      · exact ⟨_, rfl, .inr rfl⟩
    try simp only [fSeqS, fSet, fSetN, fRet, fIfS, fNext, fBreak, fCont, fNever, fBin, fCmp, fV, fN, fC, lk, lk_z, lk_s, gAdd, gSub, gMul, gDiv, gMod, gPow, gShl, gShlW, gShr, gv, gLt, gLe, gGt, gGe, gEq, gNe, gIx, fNeg, fTV, fNot, fAnd, fOr, fAndV, fOrV, fNotV, fIf, fLN, fLC, fAN, fAC, fAB, fNV, fTup, fCB, bInt, bAbs, bLen, bMax2, bMin2, bTuple, fSeq, seqOf, fCall, fCallK, fAsg, gNm, gsNil, gsCons, gTpl, gSq, fPar, fMV, fMN, setAll, fApp, fExt, fSetIx, fFrz, fForS, fRng1, fRng2, fBits, List.set_cons_zero, List.set_cons_succ, List.length_cons, List.length_nil, endsOf, decide_eq_true_eq, true_and, and_true, at0, at1, at2, at3, at4, Bool.not_eq_true', decide_eq_false_iff_not, lg2, Int.reduceLT, ↓reduceIte]
    refine go_draw (by decide) (by decide) fun m m0 m1 => ?_
    try simp only [fSeqS, fSet, fSetN, fRet, fIfS, fNext, fBreak, fCont, fNever, fBin, fCmp, fV, fN, fC, lk, lk_z, lk_s, gAdd, gSub, gMul, gDiv, gMod, gPow, gShl, gShlW, gShr, gv, gLt, gLe, gGt, gGe, gEq, gNe, gIx, fNeg, fTV, fNot, fAnd, fOr, fAndV, fOrV, fNotV, fIf, fLN, fLC, fAN, fAC, fAB, fNV, fTup, fCB, bInt, bAbs, bLen, bMax2, bMin2, bTuple, fSeq, seqOf, fCall, fCallK, fAsg, gNm, gsNil, gsCons, gTpl, gSq, fPar, fMV, fMN, setAll, fApp, fExt, fSetIx, fFrz, fForS, fRng1, fRng2, fBits, List.set_cons_zero, List.set_cons_succ, List.length_cons, List.length_nil, endsOf, decide_eq_true_eq, true_and, and_true, at0, at1, at2, at3, at4, Bool.not_eq_true', decide_eq_false_iff_not, lg2, Int.reduceLT, ↓reduceIte]
    have ssg : Sm 1 sg := by rcases hsg with rfl | rfl <;> exact (by decide : (1 : Nat) < 2 ^ 1)
    have c1 : Sm 40 (1000000000000 - f - 1) := s40 (by omega) (by omega)
    have c2 : Sm 40 (1000000000000 - f - 2 + m / 2) := s40 (by omega) (by omega)
    have c3 : Sm 40 (1000000000000 - f) := s40 (by omega) (by omega)
    have c4 : Sm 40 (1000000000000 - f - 1 + m / 2) := s40 (by omega) (by omega)
    have p1 : Bd 100 ⟨sg * (1000000000000 - f - 1), 0, 1000000000000 - f, 0⟩ := bd_of ((ssg.mul c1).le (by decide)) (sz0 100) (c3.le (by decide)) (by omega) (by decide) (sz0 20)
    have p2 : Bd 100 ⟨sg * (1000000000000 - f - 2 + m / 2), 0, 1000000000000 - f - 1 + m / 2, 0⟩ := bd_of ((ssg.mul c2).le (by decide)) (sz0 100) (c4.le (by decide)) (by omega) (by decide) (sz0 20)
    unfold q__law_plain_asks_6
    refine seq_go ?_
    simp only [fSeqS, fSet, fSetN, fRet, fIfS, fNext, fBreak, fCont, fNever, fBin, fCmp, fV, fN, fC, lk, lk_z, lk_s, gAdd, gSub, gMul, gDiv, gMod, gPow, gShl, gShlW, gShr, gv, gLt, gLe, gGt, gGe, gEq, gNe, gIx, fNeg, fTV, fNot, fAnd, fOr, fAndV, fOrV, fNotV, fIf, fLN, fLC, fAN, fAC, fAB, fNV, fTup, fCB, bInt, bAbs, bLen, bMax2, bMin2, bTuple, fSeq, seqOf, fCall, fCallK, fAsg, gNm, gsNil, gsCons, gTpl, gSq, fPar, fMV, fMN, setAll, fApp, fExt, fSetIx, fFrz, fForS, fRng1, fRng2, fBits, List.set_cons_zero, List.set_cons_succ, List.length_cons, List.length_nil, endsOf, decide_eq_true_eq, true_and, and_true, at0, at1, at2, at3, at4, Bool.not_eq_true', decide_eq_false_iff_not, lg2, Int.reduceLT, ↓reduceIte]
    refine ⟨mw ssg c1, mw ssg c2, ?_⟩
    unfold q__law_plain_asks_5
    simp only [fSeqS, fSet, fSetN, fRet, fIfS, fNext, fBreak, fCont, fNever, fBin, fCmp, fV, fN, fC, lk, lk_z, lk_s, gAdd, gSub, gMul, gDiv, gMod, gPow, gShl, gShlW, gShr, gv, gLt, gLe, gGt, gGe, gEq, gNe, gIx, fNeg, fTV, fNot, fAnd, fOr, fAndV, fOrV, fNotV, fIf, fLN, fLC, fAN, fAC, fAB, fNV, fTup, fCB, bInt, bAbs, bLen, bMax2, bMin2, bTuple, fSeq, seqOf, fCall, fCallK, fAsg, gNm, gsNil, gsCons, gTpl, gSq, fPar, fMV, fMN, setAll, fApp, fExt, fSetIx, fFrz, fForS, fRng1, fRng2, fBits, List.set_cons_zero, List.set_cons_succ, List.length_cons, List.length_nil, endsOf, decide_eq_true_eq, true_and, and_true, at0, at1, at2, at3, at4, Bool.not_eq_true', decide_eq_false_iff_not, lg2, Int.reduceLT, ↓reduceIte]
    have hl2 := hl1.app (m := [.order ⟨sg * (1000000000000 - f - 1), 0, 1000000000000 - f, 0⟩ ⟨sg * (1000000000000 - f - 2 + m / 2), 0, 1000000000000 - f - 1 + m / 2, 0⟩, .order ⟨sg * (1000000000000 - f - 2 + m / 2), 0, 1000000000000 - f - 1 + m / 2, 0⟩ ⟨sg * (1000000000000 - f - 1), 0, 1000000000000 - f, 0⟩, .whole ⟨sg * (1000000000000 - f - 1), 0, 1000000000000 - f, 0⟩, .whole ⟨sg * (1000000000000 - f - 2 + m / 2), 0, 1000000000000 - f - 1 + m / 2, 0⟩]) (.cons ⟨B p1, B p2⟩ rfl (.cons ⟨B p2, B p1⟩ rfl (.cons (B p1) rfl (.cons (B p2) rfl .nil))))
    have fin := hq' _ (by rw [List.length_append]; simp only [List.length_cons, List.length_nil]; omega) hl2
    rw [List.map_append] at fin
    exact ⟨by rw [List.length_map, sizeLine_eq]; omega, fin⟩
end T
end DL
namespace DL
namespace T
open PySem L2 PySem.Spec PyProof.Rows
theorem D_ni {m : Nat} {s : S4} (h : Bd m s) (hm : m ≤ 1800) : Ni 1 2500 s.D := by
  have f : ∀ {i : Int}, Sm m i → Ni 0 600 (.int i) := fun {i} h => Ni.int (h.le (by omega))
  refine (Ni.tup (NiA.cons (f h.a) (NiA.cons (f h.b) (NiA.cons (f h.c) (NiA.cons (Ni.int (h.d.le (by decide))) (NiA.nil (w := 0))))))).le (Nat.le_refl _) (by decide)
theorem sgn_sm (a b d : Int) : Sm 1900 (sgn a b d) := by
  have k : ∀ i : Int, (i = 0 ∨ i = 1 ∨ i = -1) → Sm 1900 i := fun i h => Sm.le (k := 1) (by
    unfold Sm
    omega) (by decide)
  unfold sgn
  refine k _ ?_
  split
  · split
    · exact .inr (.inl rfl)
    · exact .inl rfl
  · split
    · exact .inr (.inr rfl)
    · split
      · exact .inr (.inl rfl)
      · exact .inr (.inr rfl)
theorem rF_sm {n : Int} {b : Nat} (hn : n < 2 ^ (2 * b)) (h : -(2 ^ b) < n) : Sm (b + 1) (rF n) := by
  have hr := rF_ok n
  have pp : (0 : Int) < 2 ^ b := Int.pow_pos (by decide)
  unfold Rn at hr
  split at hr
  · rw [hr]
    unfold Sm
    have e : ((n.natAbs : Nat) : Int) < ((2 ^ (b + 1) : Nat) : Int) := by
      rw [Int.natCast_pow, Int.pow_succ]
      have : ((2 : Nat) : Int) ^ b = 2 ^ b := rfl
      omega
    exact_mod_cast e
  · have lt : rF n < 2 ^ b := by
      apply Classical.byContradiction
      intro c
      have m := sq_le (Int.le_of_lt pp) (by omega : (2 : Int) ^ b ≤ rF n)
      rw [← Int.pow_add, show b + b = 2 * b by omega] at m
      have := hr.2.1
      omega
    refine (Sm.nat hr.1 lt).le (by omega)
theorem whole_sm {s : S4} (h : Bd 960 s) : Sm 1900 (wholeS s (rF (s.b * s.b * s.d))) := by
  have n0 : 0 ≤ s.b * s.b * s.d := by
    refine Int.mul_nonneg ?_ h.d0
    by_cases c : 0 ≤ s.b
    · exact Int.mul_nonneg c c
    · have := Int.mul_nonneg (a := -s.b) (b := -s.b) (by omega) (by omega)
      rwa [Int.neg_mul_neg] at this
  have ns : Sm 1940 (s.b * s.b * s.d) := (h.b.mul h.b).mul h.d
  have nl : s.b * s.b * s.d < 2 ^ (2 * 970) := by
    unfold Sm at ns
    have e : (((s.b * s.b * s.d).natAbs : Nat) : Int) < ((2 ^ 1940 : Nat) : Int) := by exact_mod_cast ns
    rw [Int.natAbs_of_nonneg n0, Int.natCast_pow] at e
    exact e
  have pp : (0 : Int) < 2 ^ 970 := Int.pow_pos (by decide)
  have r := rF_sm (b := 970) nl (by
    generalize (2 : Int) ^ 970 = z at pp
    omega)
  unfold wholeS
  split
  · exact ((((h.a.le (l := 971) (by decide)).add r).div h.c0)).le (by decide)
  · exact ((((h.a.le (l := 971) (by decide)).sub r).sub ((Sm.nat (k := 972) (by decide) (by
      have : (2 : Int) ^ 1 ≤ 2 ^ 972 := by exact_mod_cast Nat.pow_le_pow_right (by decide : 0 < 2) (by decide : 1 ≤ 972)
      omega)))).div h.c0).le (by decide)
noncomputable def dueD (q : Ask) : D := .tuple [.str "told", q.val]
theorem told_ni {d : D} {n w : Nat} (h : Ni n w d) (hn : n ≤ 10) (hw : w ≤ 1000000) : Ni 20 2000000 (.tuple [.str "told", d]) :=
  (Ni.tup (NiA.cons (n := 10) ((Ni.str (w := 100)).le (by decide) (Nat.le_refl _)) (NiA.cons (h.le hn hw) (NiA.nil (w := 0))))).le (by decide) (by decide)
theorem val_ni {q : Ask} (h : q.ok) : Ni 20 2000000 (dueD q) := by
  have one : ∀ {i : Int}, Sm 1900 i → Ni 20 2000000 (.tuple [.str "told", .int i]) := fun {i} h => told_ni (Ni.int h) (by decide) (by decide)
  have two : ∀ {s : S4}, Bd 1800 s → Ni 20 2000000 (.tuple [.str "told", s.D]) := fun {s} h => told_ni (D_ni h (by decide)) (by decide) (by decide)
  cases q with
  | sign s => exact one (sgn_sm _ _ _)
  | whole s => exact one (whole_sm h)
  | order s t => exact one (sgn_sm _ _ _)
  | less s t => exact one (sgn_sm _ _ _)
  | sum s t => exact two ((h.1.sum h.2).le (by decide))
  | times s t => exact two ((h.1.mul h.2).le (by decide))
  | of s => exact two ((nrm_bd h.1.a h.1.b h.1.c h.1.c0 h.1.d0 h.1.d).le (by decide))
theorem ask_ni {q : Ask} (h : q.ok) : Ni 6 8000 q.D := by
  have w : Ni 5 100 (.str q.word) := by
    have : Ni 0 100 (.str q.word) := by
      cases q <;> dsimp only [Ask.word] <;> exact Ni.str
    exact this.le (by decide) (Nat.le_refl _)
  have fin : ∀ {r : D}, Ni 5 7000 r → Ni 6 8000 (.list [.str q.word, r]) := fun {r} h => (Ni.list (NiA.cons w (NiA.cons h (NiA.nil (w := 0))))).le (by decide) (by decide)
  have one : ∀ {s : S4} {m : Nat}, Bd m s → m ≤ 1800 → Ni 5 7000 (.list [s.D]) := fun h hm => (Ni.list (NiA.cons (D_ni h hm) (NiA.nil (w := 0)))).le (by decide) (by decide)
  have two : ∀ {s t : S4} {m : Nat}, Bd m s → Bd m t → m ≤ 1800 → Ni 5 7000 (.list [s.D, t.D]) := fun h k hm => (Ni.list (NiA.cons (D_ni h hm) (NiA.cons (D_ni k hm) (NiA.nil (w := 0))))).le (by decide) (by decide)
  unfold Ask.D
  refine fin ?_
  cases q with
  | sign s => exact one h (by decide)
  | whole s => exact one h (by decide)
  | order s t => exact two h.1 h.2 (by decide)
  | less s t => exact two h.1 h.2 (by decide)
  | sum s t => exact two h.1 h.2 (by decide)
  | times s t => exact two h.1 h.2 (by decide)
  | of s =>
    have f : ∀ {i : Int}, Sm 480 i → Ni 0 600 (.int i) := fun {i} h => Ni.int (h.le (by decide))
    exact (Ni.list (NiA.cons (f h.1.a) (NiA.cons (f h.1.b) (NiA.cons (f h.1.c) (NiA.cons (Ni.int (h.1.d.le (by decide))) (NiA.nil (w := 0))))))).le (by decide) (by decide)
theorem asks_ni {l : List Ask} (h : AllOk l) (hl : l.length ≤ 300) : Ni 7 3000000 (.list (l.map Ask.D)) := by
  refine (Ni.list (NiA.all (n := 6) (w := 8000) fun d hd => ?_)).le (Nat.le_refl _) ?_
  · obtain ⟨q, hq, rfl⟩ := List.mem_map.mp hd
    exact ask_ni (h q hq).1
  · rw [List.length_map]
    have := Nat.mul_le_mul_right (8000 + 2) hl
    omega
end T
end DL
namespace DL
namespace T
open PySem L2 PySem.Spec PyProof.Rows
theorem go_like {d : D} {Q : D → Prop} (h : Ni 20 2000000 d) (hq : Q (.bool true)) : S__law_like [.sh d, .sh d] Q := ⟨rfl, ⟨d, rfl, h⟩, fun e he => by
  rw [he]; exact hq⟩
theorem asks_at {l : List Ask} {i : Nat} (h : i < l.length) : atI (l.map Ask.D) ((i : Nat) : Int) = some (l[i].D) := atI_nat (by rw [List.getElem?_map, List.getElem?_eq_getElem h]; rfl)
theorem dues_at {l : List Ask} {i : Nat} (h : i < l.length) : atI (l.map dueD) ((i : Nat) : Int) = some (dueD l[i]) := atI_nat (by rw [List.getElem?_map, List.getElem?_eq_getElem h]; rfl)
/-- places below n -/
def Places (n : Nat) (ds : List D) : Prop := ∀ d ∈ ds, ∃ i : Nat, d = .int (i : Int) ∧ i < n
theorem places_rng {n : Nat} {j : Int} (h : j = (n : Int)) : Places n (rng 0 (j - 0).toNat) := fun d hd => by
  obtain ⟨i, hi⟩ := List.getElem?_of_mem hd
  obtain ⟨h1, h2⟩ := rng_get hi
  exact ⟨i, by rw [h2, Int.zero_add], by omega⟩
theorem r__law_are_right : ∀ ss (Q : D → Prop), S__law_are_right ss Q → g__law_are_right (endsOf Q) (initE N__law_are_right ss) := by
  rintro ss Q ⟨_, ⟨d, rfl, l, rfl, hl, ho⟩, hq⟩
  have hq' := hq _ rfl
  have ho : AllOk l := ho
  simp only [N__law_are_right, initE, List.length_cons, List.length_nil, Nat.reduceAdd, Nat.reduceSub, List.replicate, List.cons_append, List.nil_append, List.append_nil]
  unfold g__law_are_right
  refine seq_go ?_
  simp only [fSeqS, fSet, fSetN, fRet, fIfS, fNext, fBreak, fCont, fNever, fBin, fCmp, fV, fN, fC, lk, lk_z, lk_s, gAdd, gSub, gMul, gDiv, gMod, gPow, gShl, gShlW, gShr, gv, gLt, gLe, gGt, gGe, gEq, gNe, gIx, fNeg, fTV, fNot, fAnd, fOr, fAndV, fOrV, fNotV, fIf, fLN, fLC, fAN, fAC, fAB, fNV, fTup, fCB, bInt, bAbs, bLen, bMax2, bMin2, bTuple, fSeq, seqOf, fCall, fCallK, fAsg, gNm, gsNil, gsCons, gTpl, gSq, fPar, fMV, fMN, setAll, fApp, fExt, fSetIx, fFrz, fForS, fRng1, fRng2, fBits, List.set_cons_zero, List.set_cons_succ, List.length_cons, List.length_nil, endsOf, decide_eq_true_eq, true_and, and_true, at0, at1, at2, at3, at4, Bool.not_eq_true', decide_eq_false_iff_not, lg2, Int.reduceLT, ↓reduceIte, fLc]
  refine ⟨by rw [List.length_map]; unfold most; omega, ?_⟩
  refine lc_of (fun ds K => ∃ m : List Ask, ds = m.map Ask.D ∧ AllOk m ∧ K (m.map dueD)) ?_ ?_ _ _ ⟨l, rfl, ho, ?_⟩
  · rintro d ds K ⟨m, e, hm, hK⟩ L hL
    cases m with
    | nil => cases e
    | cons q m =>
      cases e
      have hq := hm q List.mem_cons_self
      simp only [fSeqS, fSet, fSetN, fRet, fIfS, fNext, fBreak, fCont, fNever, fBin, fCmp, fV, fN, fC, lk, lk_z, lk_s, gAdd, gSub, gMul, gDiv, gMod, gPow, gShl, gShlW, gShr, gv, gLt, gLe, gGt, gGe, gEq, gNe, gIx, fNeg, fTV, fNot, fAnd, fOr, fAndV, fOrV, fNotV, fIf, fLN, fLC, fAN, fAC, fAB, fNV, fTup, fCB, bInt, bAbs, bLen, bMax2, bMin2, bTuple, fSeq, seqOf, fCall, fCallK, fAsg, gNm, gsNil, gsCons, gTpl, gSq, fPar, fMV, fMN, setAll, fApp, fExt, fSetIx, fFrz, fForS, fRng1, fRng2, fBits, List.set_cons_zero, List.set_cons_succ, List.length_cons, List.length_nil, endsOf, decide_eq_true_eq, true_and, and_true, at0, at1, at2, at3, at4, Bool.not_eq_true', decide_eq_false_iff_not, lg2, Int.reduceLT, ↓reduceIte, fYes, wipeE, Ask.D]
      refine ⟨q, rfl, hq.1, hq.2, hL _ ⟨m, rfl, fun x hx => hm x (List.mem_cons_of_mem _ hx), hK⟩⟩
  · rintro K ⟨m, e, _, hK⟩
    cases m with
    | nil => exact hK
    | cons q m => cases e
  unfold q__law_are_right_4
  refine seq_go ?_
  simp only [fSeqS, fSet, fSetN, fRet, fIfS, fNext, fBreak, fCont, fNever, fBin, fCmp, fV, fN, fC, lk, lk_z, lk_s, gAdd, gSub, gMul, gDiv, gMod, gPow, gShl, gShlW, gShr, gv, gLt, gLe, gGt, gGe, gEq, gNe, gIx, fNeg, fTV, fNot, fAnd, fOr, fAndV, fOrV, fNotV, fIf, fLN, fLC, fAN, fAC, fAB, fNV, fTup, fCB, bInt, bAbs, bLen, bMax2, bMin2, bTuple, fSeq, seqOf, fCall, fCallK, fAsg, gNm, gsNil, gsCons, gTpl, gSq, fPar, fMV, fMN, setAll, fApp, fExt, fSetIx, fFrz, fForS, fRng1, fRng2, fBits, List.set_cons_zero, List.set_cons_succ, List.length_cons, List.length_nil, endsOf, decide_eq_true_eq, true_and, and_true, at0, at1, at2, at3, at4, Bool.not_eq_true', decide_eq_false_iff_not, lg2, Int.reduceLT, ↓reduceIte]
  refine (asks_ni ho hl).repr (by decide) (by decide) ?_
  refine go_draw (by decide) (by decide) fun t t0 t1 => ?_
  try simp only [fSeqS, fSet, fSetN, fRet, fIfS, fNext, fBreak, fCont, fNever, fBin, fCmp, fV, fN, fC, lk, lk_z, lk_s, gAdd, gSub, gMul, gDiv, gMod, gPow, gShl, gShlW, gShr, gv, gLt, gLe, gGt, gGe, gEq, gNe, gIx, fNeg, fTV, fNot, fAnd, fOr, fAndV, fOrV, fNotV, fIf, fLN, fLC, fAN, fAC, fAB, fNV, fTup, fCB, bInt, bAbs, bLen, bMax2, bMin2, bTuple, fSeq, seqOf, fCall, fCallK, fAsg, gNm, gsNil, gsCons, gTpl, gSq, fPar, fMV, fMN, setAll, fApp, fExt, fSetIx, fFrz, fForS, fRng1, fRng2, fBits, List.set_cons_zero, List.set_cons_succ, List.length_cons, List.length_nil, endsOf, decide_eq_true_eq, true_and, and_true, at0, at1, at2, at3, at4, Bool.not_eq_true', decide_eq_false_iff_not, lg2, Int.reduceLT, ↓reduceIte]
  have both : ∀ (body : SS), (body = q__law_are_right_0 ∨ body = q__law_are_right_1) → ∀ (E : En) (ds : List D), Places l.length ds → E.rt = Q → ∀ s7, (∀ s7, E.nx [.bg, .sh (.list (l.map Ask.D)), .ow (l.map dueD), .un, .un, .sh (.str (PyData.list (l.map Ask.D)).shown), iS t, s7]) →
      fFor (gNm 7) body ds E [.bg, .sh (.list (l.map Ask.D)), .ow (l.map dueD), .un, .un, .sh (.str (PyData.list (l.map Ask.D)).shown), iS t, s7] := by
    intro body hb E ds hds hrt s7 hnx
    refine for_of (fun ds ρ => Places l.length ds ∧ ∃ s7, ρ = [.bg, .sh (.list (l.map Ask.D)), .ow (l.map dueD), .un, .un, .sh (.str (PyData.list (l.map Ask.D)).shown), iS t, s7]) ?_ ?_ _ _ ⟨hds, s7, rfl⟩
    · rintro d ds ρ ⟨hp, s7, rfl⟩ K hK
      obtain ⟨i, rfl, hi⟩ := hp d List.mem_cons_self
      have hp' : Places l.length ds := fun z hz => hp z (List.mem_cons_of_mem _ hz)
      have ok := ho _ (List.getElem_mem hi)
      have e1 := asks_at hi
      have e2 := dues_at hi
      have go : ∀ b : Bool, S__law_told [.sh (.str l[i].word), .sh l[i].row, .sh (.bool b)] fun d => S__law_like [.sh d, .sh (dueD l[i])] fun d => match d with
          | .bool b => (match b with | true => K [.bg, .sh (.list (l.map Ask.D)), .ow (l.map dueD), .un, .un, .sh (.str (PyData.list (l.map Ask.D)).shown), iS t, iS i] | false => False)
          | _ => False := fun b => ⟨l[i], b, rfl, ok.1, go_like (val_ni ok.1) (hK _ ⟨hp', _, rfl⟩)⟩
      have fin : ∀ b : Bool, S__law_told [.sh (.str l[i].word), .sh l[i].row, .sh (.bool b)] fun d => S__law_like [.sh d, .sh (dueD l[i])] fun d => (match d with
          | .bool b => if b = false then E.rt (.bool false) else K [.bg, .sh (.list (l.map Ask.D)), .ow (l.map dueD), .un, .un, .sh (.str (PyData.list (l.map Ask.D)).shown), iS t, iS i]
          | _ => False) := fun b => ⟨l[i], b, rfl, ok.1, go_like (val_ni ok.1) (by
            show (if true = false then _ else _)
            rw [if_neg (by decide)]
            exact hK _ ⟨hp', _, rfl⟩)⟩
      rcases hb with rfl | rfl
      · unfold q__law_are_right_0
        simp only [fSeqS, fSet, fSetN, fRet, fIfS, fNext, fBreak, fCont, fNever, fBin, fCmp, fV, fN, fC, lk, lk_z, lk_s, gAdd, gSub, gMul, gDiv, gMod, gPow, gShl, gShlW, gShr, gv, gLt, gLe, gGt, gGe, gEq, gNe, gIx, fNeg, fTV, fNot, fAnd, fOr, fAndV, fOrV, fNotV, fIf, fLN, fLC, fAN, fAC, fAB, fNV, fTup, fCB, bInt, bAbs, bLen, bMax2, bMin2, bTuple, fSeq, seqOf, fCall, fCallK, fAsg, gNm, gsNil, gsCons, gTpl, gSq, fPar, fMV, fMN, setAll, fApp, fExt, fSetIx, fFrz, fForS, fRng1, fRng2, fBits, List.set_cons_zero, List.set_cons_succ, List.length_cons, List.length_nil, endsOf, decide_eq_true_eq, true_and, and_true, at0, at1, at2, at3, at4, Bool.not_eq_true', decide_eq_false_iff_not, lg2, Int.reduceLT, ↓reduceIte, e1, e2, Ask.D]
        first | exact fin _ | trace_state
      · unfold q__law_are_right_1
        simp only [fSeqS, fSet, fSetN, fRet, fIfS, fNext, fBreak, fCont, fNever, fBin, fCmp, fV, fN, fC, lk, lk_z, lk_s, gAdd, gSub, gMul, gDiv, gMod, gPow, gShl, gShlW, gShr, gv, gLt, gLe, gGt, gGe, gEq, gNe, gIx, fNeg, fTV, fNot, fAnd, fOr, fAndV, fOrV, fNotV, fIf, fLN, fLC, fAN, fAC, fAB, fNV, fTup, fCB, bInt, bAbs, bLen, bMax2, bMin2, bTuple, fSeq, seqOf, fCall, fCallK, fAsg, gNm, gsNil, gsCons, gTpl, gSq, fPar, fMV, fMN, setAll, fApp, fExt, fSetIx, fFrz, fForS, fRng1, fRng2, fBits, List.set_cons_zero, List.set_cons_succ, List.length_cons, List.length_nil, endsOf, decide_eq_true_eq, true_and, and_true, at0, at1, at2, at3, at4, Bool.not_eq_true', decide_eq_false_iff_not, lg2, Int.reduceLT, ↓reduceIte, e1, e2, Ask.D]
        first | exact fin _ | trace_state
    · rintro ρ ⟨_, s7, rfl⟩
      exact hnx s7
  unfold q__law_are_right_3
  refine seq_go ?_
  simp only [fSeqS, fSet, fSetN, fRet, fIfS, fNext, fBreak, fCont, fNever, fBin, fCmp, fV, fN, fC, lk, lk_z, lk_s, gAdd, gSub, gMul, gDiv, gMod, gPow, gShl, gShlW, gShr, gv, gLt, gLe, gGt, gGe, gEq, gNe, gIx, fNeg, fTV, fNot, fAnd, fOr, fAndV, fOrV, fNotV, fIf, fLN, fLC, fAN, fAC, fAB, fNV, fTup, fCB, bInt, bAbs, bLen, bMax2, bMin2, bTuple, fSeq, seqOf, fCall, fCallK, fAsg, gNm, gsNil, gsCons, gTpl, gSq, fPar, fMV, fMN, setAll, fApp, fExt, fSetIx, fFrz, fForS, fRng1, fRng2, fBits, List.set_cons_zero, List.set_cons_succ, List.length_cons, List.length_nil, endsOf, decide_eq_true_eq, true_and, and_true, at0, at1, at2, at3, at4, Bool.not_eq_true', decide_eq_false_iff_not, lg2, Int.reduceLT, ↓reduceIte, fLRng1, List.length_map]
  refine ⟨.of_le (by omega) (by omega) (by omega) (by omega), ?_⟩
  refine both _ (.inl rfl) _ _ (places_rng rfl) rfl _ fun s7 => ?_
  dsimp only
  unfold q__law_are_right_2
  refine seq_go ?_
  simp only [fSeqS, fSet, fSetN, fRet, fIfS, fNext, fBreak, fCont, fNever, fBin, fCmp, fV, fN, fC, lk, lk_z, lk_s, gAdd, gSub, gMul, gDiv, gMod, gPow, gShl, gShlW, gShr, gv, gLt, gLe, gGt, gGe, gEq, gNe, gIx, fNeg, fTV, fNot, fAnd, fOr, fAndV, fOrV, fNotV, fIf, fLN, fLC, fAN, fAC, fAB, fNV, fTup, fCB, bInt, bAbs, bLen, bMax2, bMin2, bTuple, fSeq, seqOf, fCall, fCallK, fAsg, gNm, gsNil, gsCons, gTpl, gSq, fPar, fMV, fMN, setAll, fApp, fExt, fSetIx, fFrz, fForS, fRng1, fRng2, fBits, List.set_cons_zero, List.set_cons_succ, List.length_cons, List.length_nil, endsOf, decide_eq_true_eq, true_and, and_true, at0, at1, at2, at3, at4, Bool.not_eq_true', decide_eq_false_iff_not, lg2, Int.reduceLT, ↓reduceIte, fLRng1, fLRev, List.length_map]
  refine ⟨.of_le (by omega) (by omega) (by omega) (by omega), ?_⟩
  refine both _ (.inr rfl) _ _ (fun d hd => places_rng rfl d (List.mem_reverse.mp hd)) rfl _ fun s7 => ?_
  simp only [fSeqS, fSet, fSetN, fRet, fIfS, fNext, fBreak, fCont, fNever, fBin, fCmp, fV, fN, fC, lk, lk_z, lk_s, gAdd, gSub, gMul, gDiv, gMod, gPow, gShl, gShlW, gShr, gv, gLt, gLe, gGt, gGe, gEq, gNe, gIx, fNeg, fTV, fNot, fAnd, fOr, fAndV, fOrV, fNotV, fIf, fLN, fLC, fAN, fAC, fAB, fNV, fTup, fCB, bInt, bAbs, bLen, bMax2, bMin2, bTuple, fSeq, seqOf, fCall, fCallK, fAsg, gNm, gsNil, gsCons, gTpl, gSq, fPar, fMV, fMN, setAll, fApp, fExt, fSetIx, fFrz, fForS, fRng1, fRng2, fBits, List.set_cons_zero, List.set_cons_succ, List.length_cons, List.length_nil, endsOf, decide_eq_true_eq, true_and, and_true, at0, at1, at2, at3, at4, Bool.not_eq_true', decide_eq_false_iff_not, lg2, Int.reduceLT, ↓reduceIte]
  refine (asks_ni ho hl).repr (by decide) (by decide) ?_
  simp only [fSeqS, fSet, fSetN, fRet, fIfS, fNext, fBreak, fCont, fNever, fBin, fCmp, fV, fN, fC, lk, lk_z, lk_s, gAdd, gSub, gMul, gDiv, gMod, gPow, gShl, gShlW, gShr, gv, gLt, gLe, gGt, gGe, gEq, gNe, gIx, fNeg, fTV, fNot, fAnd, fOr, fAndV, fOrV, fNotV, fIf, fLN, fLC, fAN, fAC, fAB, fNV, fTup, fCB, bInt, bAbs, bLen, bMax2, bMin2, bTuple, fSeq, seqOf, fCall, fCallK, fAsg, gNm, gsNil, gsCons, gTpl, gSq, fPar, fMV, fMN, setAll, fApp, fExt, fSetIx, fFrz, fForS, fRng1, fRng2, fBits, List.set_cons_zero, List.set_cons_succ, List.length_cons, List.length_nil, endsOf, decide_eq_true_eq, true_and, and_true, at0, at1, at2, at3, at4, Bool.not_eq_true', decide_eq_false_iff_not, lg2, Int.reduceLT, ↓reduceIte]
  simpa using hq'
end T
end DL
namespace DL
namespace T
open PySem L2 PySem.Spec PyProof.Rows
theorem r__law_own_bag : ∀ ss (Q : D → Prop), S__law_own_bag ss Q → g__law_own_bag (endsOf Q) (initE N__law_own_bag ss) := by
  rintro ss Q ⟨rfl, hq⟩
  simp only [N__law_own_bag, initE, List.length_cons, List.length_nil, Nat.reduceAdd, Nat.reduceSub, List.replicate, List.cons_append, List.nil_append, List.append_nil]
  unfold g__law_own_bag
  refine seq_go ?_
  simp only [fSeqS, fSet, fSetN, fRet, fIfS, fNext, fBreak, fCont, fNever, fBin, fCmp, fV, fN, fC, lk, lk_z, lk_s, gAdd, gSub, gMul, gDiv, gMod, gPow, gShl, gShlW, gShr, gv, gLt, gLe, gGt, gGe, gEq, gNe, gIx, fNeg, fTV, fNot, fAnd, fOr, fAndV, fOrV, fNotV, fIf, fLN, fLC, fAN, fAC, fAB, fNV, fTup, fCB, bInt, bAbs, bLen, bMax2, bMin2, bTuple, fSeq, seqOf, fCall, fCallK, fAsg, gNm, gsNil, gsCons, gTpl, gSq, fPar, fMV, fMN, setAll, fApp, fExt, fSetIx, fFrz, fForS, fRng1, fRng2, fBits, List.set_cons_zero, List.set_cons_succ, List.length_cons, List.length_nil, endsOf, decide_eq_true_eq, true_and, and_true, at0, at1, at2, at3, at4, Bool.not_eq_true', decide_eq_false_iff_not, lg2, Int.reduceLT, ↓reduceIte, fLc, fScr, wipeE]
  intro ms hml
  refine ⟨by rw [List.length_map]; exact hml, ?_⟩
  refine lc_of (fun ds K => ∃ m : List Int, ds = m.map PyData.int ∧ ∀ cs : List Int, cs.length ≤ m.length → (∀ x ∈ cs, 0 ≤ x) → K (cs.map PyData.int)) ?_ ?_ _ _ ⟨ms, rfl, ?_⟩
  · rintro d ds K ⟨m, e, hK⟩ L hL
    cases m with
    | nil => cases e
    | cons i m =>
      cases e
      simp only [fSeqS, fSet, fSetN, fRet, fIfS, fNext, fBreak, fCont, fNever, fBin, fCmp, fV, fN, fC, lk, lk_z, lk_s, gAdd, gSub, gMul, gDiv, gMod, gPow, gShl, gShlW, gShr, gv, gLt, gLe, gGt, gGe, gEq, gNe, gIx, fNeg, fTV, fNot, fAnd, fOr, fAndV, fOrV, fNotV, fIf, fLN, fLC, fAN, fAC, fAB, fNV, fTup, fCB, bInt, bAbs, bLen, bMax2, bMin2, bTuple, fSeq, seqOf, fCall, fCallK, fAsg, gNm, gsNil, gsCons, gTpl, gSq, fPar, fMV, fMN, setAll, fApp, fExt, fSetIx, fFrz, fForS, fRng1, fRng2, fBits, List.set_cons_zero, List.set_cons_succ, List.length_cons, List.length_nil, endsOf, decide_eq_true_eq, true_and, and_true, at0, at1, at2, at3, at4, Bool.not_eq_true', decide_eq_false_iff_not, lg2, Int.reduceLT, ↓reduceIte, fYes]
      refine hL _ ⟨m, rfl, fun cs hl h => hK ((if i < 0 then -i else i) :: cs) (by simp only [List.length_cons]; omega) fun x hx => ?_⟩
      rcases List.mem_cons.mp hx with rfl | hx
      · split <;> omega
      · exact h x hx
  · rintro K ⟨m, e, hK⟩
    cases m with
    | nil => exact hK [] (Nat.le_refl _) fun x hx => by cases hx
    | cons q m => cases e
  intro cs hcl hcs
  have hcl : cs.length ≤ 4000000 := Nat.le_trans hcl hml
  refine for_of (fun ds ρ => ∃ (c : List Int) (m : Int) (s : Sl), ds = c.map PyData.int ∧ ρ = [.bg, .sh (.list (cs.map PyData.int)), s, iS m] ∧ 0 ≤ m ∧ m < 2147483647) ?_ ?_ _ _ ⟨cs, _, _, rfl, rfl, by omega, by rw [List.length_map]; omega⟩
  · rintro d ds ρ ⟨c, m, s, e, rfl, m0, m1⟩ K hK
    cases c with
    | nil => cases e
    | cons x c =>
      cases e
      have sm : Sm 31 m := Sm.nat m0 (by omega)
      have sk : Sm 17 69621 := Sm.nat (by decide) (by decide)
      simp only [fSeqS, fSet, fSetN, fRet, fIfS, fNext, fBreak, fCont, fNever, fBin, fCmp, fV, fN, fC, lk, lk_z, lk_s, gAdd, gSub, gMul, gDiv, gMod, gPow, gShl, gShlW, gShr, gv, gLt, gLe, gGt, gGe, gEq, gNe, gIx, fNeg, fTV, fNot, fAnd, fOr, fAndV, fOrV, fNotV, fIf, fLN, fLC, fAN, fAC, fAB, fNV, fTup, fCB, bInt, bAbs, bLen, bMax2, bMin2, bTuple, fSeq, seqOf, fCall, fCallK, fAsg, gNm, gsNil, gsCons, gTpl, gSq, fPar, fMV, fMN, setAll, fApp, fExt, fSetIx, fFrz, fForS, fRng1, fRng2, fBits, List.set_cons_zero, List.set_cons_succ, List.length_cons, List.length_nil, endsOf, decide_eq_true_eq, true_and, and_true, at0, at1, at2, at3, at4, Bool.not_eq_true', decide_eq_false_iff_not, lg2, Int.reduceLT, ↓reduceIte]
      have r0 := Int.emod_nonneg x (b := 2147483629) (by decide)
      refine ⟨mw sm sk, hK _ ⟨c, _, _, rfl, rfl, Int.emod_nonneg _ (by decide), Int.emod_lt_of_pos _ (by decide)⟩⟩
  · rintro ρ ⟨c, m, s, _, rfl, m0, m1⟩
    simp only [fSeqS, fSet, fSetN, fRet, fIfS, fNext, fBreak, fCont, fNever, fBin, fCmp, fV, fN, fC, lk, lk_z, lk_s, gAdd, gSub, gMul, gDiv, gMod, gPow, gShl, gShlW, gShr, gv, gLt, gLe, gGt, gGe, gEq, gNe, gIx, fNeg, fTV, fNot, fAnd, fOr, fAndV, fOrV, fNotV, fIf, fLN, fLC, fAN, fAC, fAB, fNV, fTup, fCB, bInt, bAbs, bLen, bMax2, bMin2, bTuple, fSeq, seqOf, fCall, fCallK, fAsg, gNm, gsNil, gsCons, gTpl, gSq, fPar, fMV, fMN, setAll, fApp, fExt, fSetIx, fFrz, fForS, fRng1, fRng2, fBits, List.set_cons_zero, List.set_cons_succ, List.length_cons, List.length_nil, endsOf, decide_eq_true_eq, true_and, and_true, at0, at1, at2, at3, at4, Bool.not_eq_true', decide_eq_false_iff_not, lg2, Int.reduceLT, ↓reduceIte, fLRev]
    have := hq cs.reverse m (fun x hx => hcs x (List.mem_reverse.mp hx)) m0 m1
    rwa [List.map_reverse] at this
theorem r_law : gLaw 1 g_law := by
  unfold gLaw
  simp only [List.replicate]
  unfold g_law
  refine seq_go ?_
  simp only [fSeqS, fSet, fSetN, fRet, fIfS, fNext, fBreak, fCont, fNever, fBin, fCmp, fV, fN, fC, lk, lk_z, lk_s, gAdd, gSub, gMul, gDiv, gMod, gPow, gShl, gShlW, gShr, gv, gLt, gLe, gGt, gGe, gEq, gNe, gIx, fNeg, fTV, fNot, fAnd, fOr, fAndV, fOrV, fNotV, fIf, fLN, fLC, fAN, fAC, fAB, fNV, fTup, fCB, bInt, bAbs, bLen, bMax2, bMin2, bTuple, fSeq, seqOf, fCall, fCallK, fAsg, gNm, gsNil, gsCons, gTpl, gSq, fPar, fMV, fMN, setAll, fApp, fExt, fSetIx, fFrz, fForS, fRng1, fRng2, fBits, List.set_cons_zero, List.set_cons_succ, List.length_cons, List.length_nil, endsOf, decide_eq_true_eq, true_and, and_true, at0, at1, at2, at3, at4, Bool.not_eq_true', decide_eq_false_iff_not, lg2, Int.reduceLT, ↓reduceIte]
  refine ⟨rfl, rfl, ?_⟩
  rintro d ⟨n, rfl, hn⟩
  try simp only [fSeqS, fSet, fSetN, fRet, fIfS, fNext, fBreak, fCont, fNever, fBin, fCmp, fV, fN, fC, lk, lk_z, lk_s, gAdd, gSub, gMul, gDiv, gMod, gPow, gShl, gShlW, gShr, gv, gLt, gLe, gGt, gGe, gEq, gNe, gIx, fNeg, fTV, fNot, fAnd, fOr, fAndV, fOrV, fNotV, fIf, fLN, fLC, fAN, fAC, fAB, fNV, fTup, fCB, bInt, bAbs, bLen, bMax2, bMin2, bTuple, fSeq, seqOf, fCall, fCallK, fAsg, gNm, gsNil, gsCons, gTpl, gSq, fPar, fMV, fMN, setAll, fApp, fExt, fSetIx, fFrz, fForS, fRng1, fRng2, fBits, List.set_cons_zero, List.set_cons_succ, List.length_cons, List.length_nil, endsOf, decide_eq_true_eq, true_and, and_true, at0, at1, at2, at3, at4, Bool.not_eq_true', decide_eq_false_iff_not, lg2, Int.reduceLT, ↓reduceIte]
  unfold q_law_2
  refine seq_go ?_
  simp only [fSeqS, fSet, fSetN, fRet, fIfS, fNext, fBreak, fCont, fNever, fBin, fCmp, fV, fN, fC, lk, lk_z, lk_s, gAdd, gSub, gMul, gDiv, gMod, gPow, gShl, gShlW, gShr, gv, gLt, gLe, gGt, gGe, gEq, gNe, gIx, fNeg, fTV, fNot, fAnd, fOr, fAndV, fOrV, fNotV, fIf, fLN, fLC, fAN, fAC, fAB, fNV, fTup, fCB, bInt, bAbs, bLen, bMax2, bMin2, bTuple, fSeq, seqOf, fCall, fCallK, fAsg, gNm, gsNil, gsCons, gTpl, gSq, fPar, fMV, fMN, setAll, fApp, fExt, fSetIx, fFrz, fForS, fRng1, fRng2, fBits, List.set_cons_zero, List.set_cons_succ, List.length_cons, List.length_nil, endsOf, decide_eq_true_eq, true_and, and_true, at0, at1, at2, at3, at4, Bool.not_eq_true', decide_eq_false_iff_not, lg2, Int.reduceLT, ↓reduceIte]
  refine ⟨rfl, ⟨n, rfl, hn⟩, fun d hd => ?_⟩
  try simp only [fSeqS, fSet, fSetN, fRet, fIfS, fNext, fBreak, fCont, fNever, fBin, fCmp, fV, fN, fC, lk, lk_z, lk_s, gAdd, gSub, gMul, gDiv, gMod, gPow, gShl, gShlW, gShr, gv, gLt, gLe, gGt, gGe, gEq, gNe, gIx, fNeg, fTV, fNot, fAnd, fOr, fAndV, fOrV, fNotV, fIf, fLN, fLC, fAN, fAC, fAB, fNV, fTup, fCB, bInt, bAbs, bLen, bMax2, bMin2, bTuple, fSeq, seqOf, fCall, fCallK, fAsg, gNm, gsNil, gsCons, gTpl, gSq, fPar, fMV, fMN, setAll, fApp, fExt, fSetIx, fFrz, fForS, fRng1, fRng2, fBits, List.set_cons_zero, List.set_cons_succ, List.length_cons, List.length_nil, endsOf, decide_eq_true_eq, true_and, and_true, at0, at1, at2, at3, at4, Bool.not_eq_true', decide_eq_false_iff_not, lg2, Int.reduceLT, ↓reduceIte]
  refine ⟨rfl, ⟨d, rfl, hd⟩, ?_⟩
  rintro d rfl
  try simp only [fSeqS, fSet, fSetN, fRet, fIfS, fNext, fBreak, fCont, fNever, fBin, fCmp, fV, fN, fC, lk, lk_z, lk_s, gAdd, gSub, gMul, gDiv, gMod, gPow, gShl, gShlW, gShr, gv, gLt, gLe, gGt, gGe, gEq, gNe, gIx, fNeg, fTV, fNot, fAnd, fOr, fAndV, fOrV, fNotV, fIf, fLN, fLC, fAN, fAC, fAB, fNV, fTup, fCB, bInt, bAbs, bLen, bMax2, bMin2, bTuple, fSeq, seqOf, fCall, fCallK, fAsg, gNm, gsNil, gsCons, gTpl, gSq, fPar, fMV, fMN, setAll, fApp, fExt, fSetIx, fFrz, fForS, fRng1, fRng2, fBits, List.set_cons_zero, List.set_cons_succ, List.length_cons, List.length_nil, endsOf, decide_eq_true_eq, true_and, and_true, at0, at1, at2, at3, at4, Bool.not_eq_true', decide_eq_false_iff_not, lg2, Int.reduceLT, ↓reduceIte]
  rw [if_neg (by decide)]
  unfold q_law_1
  refine seq_go ?_
  simp only [fSeqS, fSet, fSetN, fRet, fIfS, fNext, fBreak, fCont, fNever, fBin, fCmp, fV, fN, fC, lk, lk_z, lk_s, gAdd, gSub, gMul, gDiv, gMod, gPow, gShl, gShlW, gShr, gv, gLt, gLe, gGt, gGe, gEq, gNe, gIx, fNeg, fTV, fNot, fAnd, fOr, fAndV, fOrV, fNotV, fIf, fLN, fLC, fAN, fAC, fAB, fNV, fTup, fCB, bInt, bAbs, bLen, bMax2, bMin2, bTuple, fSeq, seqOf, fCall, fCallK, fAsg, gNm, gsNil, gsCons, gTpl, gSq, fPar, fMV, fMN, setAll, fApp, fExt, fSetIx, fFrz, fForS, fRng1, fRng2, fBits, List.set_cons_zero, List.set_cons_succ, List.length_cons, List.length_nil, endsOf, decide_eq_true_eq, true_and, and_true, at0, at1, at2, at3, at4, Bool.not_eq_true', decide_eq_false_iff_not, lg2, Int.reduceLT, ↓reduceIte]
  refine ⟨rfl, ⟨n, rfl, hn⟩, fun d hd => ?_⟩
  try simp only [fSeqS, fSet, fSetN, fRet, fIfS, fNext, fBreak, fCont, fNever, fBin, fCmp, fV, fN, fC, lk, lk_z, lk_s, gAdd, gSub, gMul, gDiv, gMod, gPow, gShl, gShlW, gShr, gv, gLt, gLe, gGt, gGe, gEq, gNe, gIx, fNeg, fTV, fNot, fAnd, fOr, fAndV, fOrV, fNotV, fIf, fLN, fLC, fAN, fAC, fAB, fNV, fTup, fCB, bInt, bAbs, bLen, bMax2, bMin2, bTuple, fSeq, seqOf, fCall, fCallK, fAsg, gNm, gsNil, gsCons, gTpl, gSq, fPar, fMV, fMN, setAll, fApp, fExt, fSetIx, fFrz, fForS, fRng1, fRng2, fBits, List.set_cons_zero, List.set_cons_succ, List.length_cons, List.length_nil, endsOf, decide_eq_true_eq, true_and, and_true, at0, at1, at2, at3, at4, Bool.not_eq_true', decide_eq_false_iff_not, lg2, Int.reduceLT, ↓reduceIte]
  refine ⟨rfl, ⟨d, rfl, hd⟩, ?_⟩
  rintro d rfl
  try simp only [fSeqS, fSet, fSetN, fRet, fIfS, fNext, fBreak, fCont, fNever, fBin, fCmp, fV, fN, fC, lk, lk_z, lk_s, gAdd, gSub, gMul, gDiv, gMod, gPow, gShl, gShlW, gShr, gv, gLt, gLe, gGt, gGe, gEq, gNe, gIx, fNeg, fTV, fNot, fAnd, fOr, fAndV, fOrV, fNotV, fIf, fLN, fLC, fAN, fAC, fAB, fNV, fTup, fCB, bInt, bAbs, bLen, bMax2, bMin2, bTuple, fSeq, seqOf, fCall, fCallK, fAsg, gNm, gsNil, gsCons, gTpl, gSq, fPar, fMV, fMN, setAll, fApp, fExt, fSetIx, fFrz, fForS, fRng1, fRng2, fBits, List.set_cons_zero, List.set_cons_succ, List.length_cons, List.length_nil, endsOf, decide_eq_true_eq, true_and, and_true, at0, at1, at2, at3, at4, Bool.not_eq_true', decide_eq_false_iff_not, lg2, Int.reduceLT, ↓reduceIte]
  rw [if_neg (by decide)]
  unfold q_law_0
  simp only [fSeqS, fSet, fSetN, fRet, fIfS, fNext, fBreak, fCont, fNever, fBin, fCmp, fV, fN, fC, lk, lk_z, lk_s, gAdd, gSub, gMul, gDiv, gMod, gPow, gShl, gShlW, gShr, gv, gLt, gLe, gGt, gGe, gEq, gNe, gIx, fNeg, fTV, fNot, fAnd, fOr, fAndV, fOrV, fNotV, fIf, fLN, fLC, fAN, fAC, fAB, fNV, fTup, fCB, bInt, bAbs, bLen, bMax2, bMin2, bTuple, fSeq, seqOf, fCall, fCallK, fAsg, gNm, gsNil, gsCons, gTpl, gSq, fPar, fMV, fMN, setAll, fApp, fExt, fSetIx, fFrz, fForS, fRng1, fRng2, fBits, List.set_cons_zero, List.set_cons_succ, List.length_cons, List.length_nil, endsOf, decide_eq_true_eq, true_and, and_true, at0, at1, at2, at3, at4, Bool.not_eq_true', decide_eq_false_iff_not, lg2, Int.reduceLT, ↓reduceIte]
  exact ⟨rfl, ⟨n, rfl, hn⟩, fun d hd => hd⟩
end T
end DL
namespace DL
namespace T
open PySem L2 PySem.Spec PyProof.Rows
def bnd : Nat → Nat
  | 0 => 956
  | n + 1 => (bnd n - 21) / 2
theorem bnd_ok : ∀ n : Nat, n < 4 → 40 ≤ bnd (n + 1) ∧ bnd (n + 1) ≤ 480 ∧ 2 * bnd (n + 1) + 21 ≤ bnd n ∧ bnd n ≤ 956 := by decide
theorem par_go {js : List Nat} {f : SM} {E : En} {ρ : Env} (h : f ρ fun ss => js.length = ss.length ∧ E.nx (setAll ρ js ss)) : fPar js f E ρ := h
theorem mv_go {fa : SE} {fr : SM} {ρ : Env} {Q : List Sl → Prop} (h : fa ρ fun d => fr ρ fun ss => Q (.sh d :: ss)) : fMV fa fr ρ Q := h
theorem setN_asks {i : Nat} {fa : SL} {E : En} {ρ : Env} (qs : List Ask) (hfa : ∀ P : List D → Prop, P (qs.map Ask.D) → fa ρ P) (k : E.nx (ρ.set i (.ow (qs.map Ask.D)))) : fSetN i fa E ρ := hfa _ k
theorem if_at {t : ST} {f g : SS} {E : En} {ρ : Env} {b : Bool} (ht : ∀ P : Bool → Prop, P b → t ρ P) (h : if b = true then f E ρ else g E ρ) : fIfS t f g E ρ := ht _ h
theorem ext_at {i : Nat} {fa : SE} {E : En} {ρ : Env} {ds es : List D} (h : lk ρ i = .ow ds) (hfa : ∀ P : D → Prop, P (.list es) → fa ρ P) (len : ds.length + es.length ≤ most) (k : E.nx (ρ.set i (.ow (ds ++ es)))) : fExt i fa E ρ := by
  unfold fExt
  rw [h]
  exact hfa _ ⟨len, k⟩
theorem ix43 : ixN 4 3 = some 3 := rfl
theorem r__law_is_told_right : ∀ ss (Q : D → Prop), S__law_is_told_right ss Q → g__law_is_told_right (endsOf Q) (initE N__law_is_told_right ss) := by
  rintro ss Q ⟨_, ⟨n, rfl, hn⟩, hq⟩
  have hq' := hq _ rfl
  simp only [N__law_is_told_right, initE, List.length_cons, List.length_nil, Nat.reduceAdd, Nat.reduceSub, List.replicate, List.cons_append, List.nil_append, List.append_nil]
  unfold g__law_is_told_right
  refine seq_go ?_
  simp only [fSeqS, fSet, fSetN, fRet, fIfS, fNext, fBreak, fCont, fNever, fBin, fCmp, fV, fN, fC, lk, lk_z, lk_s, gAdd, gSub, gMul, gDiv, gMod, gPow, gShl, gShlW, gShr, gv, gLt, gLe, gGt, gGe, gEq, gNe, gIx, fNeg, fTV, fNot, fAnd, fOr, fAndV, fOrV, fNotV, fIf, fLN, fLC, fAN, fAC, fAB, fNV, fTup, fCB, bInt, bAbs, bLen, bMax2, bMin2, bTuple, fSeq, seqOf, fCall, fCallK, fAsg, gNm, gsNil, gsCons, gTpl, gSq, fPar, fMV, fMN, setAll, fApp, fExt, fSetIx, fFrz, fForS, fRng1, fRng2, fBits, List.set_cons_zero, List.set_cons_succ, List.length_cons, List.length_nil, endsOf, decide_eq_true_eq, true_and, and_true, at0, at1, at2, at3, at4, Bool.not_eq_true', decide_eq_false_iff_not, lg2, Int.reduceLT, ↓reduceIte, pw12, tp12, pw6, tp6]
  refine go_integer fun a a0 a1 => ?_
  try simp only [fSeqS, fSet, fSetN, fRet, fIfS, fNext, fBreak, fCont, fNever, fBin, fCmp, fV, fN, fC, lk, lk_z, lk_s, gAdd, gSub, gMul, gDiv, gMod, gPow, gShl, gShlW, gShr, gv, gLt, gLe, gGt, gGe, gEq, gNe, gIx, fNeg, fTV, fNot, fAnd, fOr, fAndV, fOrV, fNotV, fIf, fLN, fLC, fAN, fAC, fAB, fNV, fTup, fCB, bInt, bAbs, bLen, bMax2, bMin2, bTuple, fSeq, seqOf, fCall, fCallK, fAsg, gNm, gsNil, gsCons, gTpl, gSq, fPar, fMV, fMN, setAll, fApp, fExt, fSetIx, fFrz, fForS, fRng1, fRng2, fBits, List.set_cons_zero, List.set_cons_succ, List.length_cons, List.length_nil, endsOf, decide_eq_true_eq, true_and, and_true, at0, at1, at2, at3, at4, Bool.not_eq_true', decide_eq_false_iff_not, lg2, Int.reduceLT, ↓reduceIte]
  refine go_draw (by decide) (by decide) fun b b0 b1 => ?_
  try simp only [fSeqS, fSet, fSetN, fRet, fIfS, fNext, fBreak, fCont, fNever, fBin, fCmp, fV, fN, fC, lk, lk_z, lk_s, gAdd, gSub, gMul, gDiv, gMod, gPow, gShl, gShlW, gShr, gv, gLt, gLe, gGt, gGe, gEq, gNe, gIx, fNeg, fTV, fNot, fAnd, fOr, fAndV, fOrV, fNotV, fIf, fLN, fLC, fAN, fAC, fAB, fNV, fTup, fCB, bInt, bAbs, bLen, bMax2, bMin2, bTuple, fSeq, seqOf, fCall, fCallK, fAsg, gNm, gsNil, gsCons, gTpl, gSq, fPar, fMV, fMN, setAll, fApp, fExt, fSetIx, fFrz, fForS, fRng1, fRng2, fBits, List.set_cons_zero, List.set_cons_succ, List.length_cons, List.length_nil, endsOf, decide_eq_true_eq, true_and, and_true, at0, at1, at2, at3, at4, Bool.not_eq_true', decide_eq_false_iff_not, lg2, Int.reduceLT, ↓reduceIte]
  refine go_draw (by decide) (by decide) fun c c0 c1 => ?_
  simp only [fSeqS, fSet, fSetN, fRet, fIfS, fNext, fBreak, fCont, fNever, fBin, fCmp, fV, fN, fC, lk, lk_z, lk_s, gAdd, gSub, gMul, gDiv, gMod, gPow, gShl, gShlW, gShr, gv, gLt, gLe, gGt, gGe, gEq, gNe, gIx, fNeg, fTV, fNot, fAnd, fOr, fAndV, fOrV, fNotV, fIf, fLN, fLC, fAN, fAC, fAB, fNV, fTup, fCB, bInt, bAbs, bLen, bMax2, bMin2, bTuple, fSeq, seqOf, fCall, fCallK, fAsg, gNm, gsNil, gsCons, gTpl, gSq, fPar, fMV, fMN, setAll, fApp, fExt, fSetIx, fFrz, fForS, fRng1, fRng2, fBits, List.set_cons_zero, List.set_cons_succ, List.length_cons, List.length_nil, endsOf, decide_eq_true_eq, true_and, and_true, at0, at1, at2, at3, at4, Bool.not_eq_true', decide_eq_false_iff_not, lg2, Int.reduceLT, ↓reduceIte, pw6, tp6]
  unfold q__law_is_told_right_16
  generalize hz : q__law_is_told_right_15 = z
  refine seq_go ?_
  simp only [fSeqS, fSet, fSetN, fRet, fIfS, fNext, fBreak, fCont, fNever, fBin, fCmp, fV, fN, fC, lk, lk_z, lk_s, gAdd, gSub, gMul, gDiv, gMod, gPow, gShl, gShlW, gShr, gv, gLt, gLe, gGt, gGe, gEq, gNe, gIx, fNeg, fTV, fNot, fAnd, fOr, fAndV, fOrV, fNotV, fIf, fLN, fLC, fAN, fAC, fAB, fNV, fTup, fCB, bInt, bAbs, bLen, bMax2, bMin2, bTuple, fSeq, seqOf, fCall, fCallK, fAsg, gNm, gsNil, gsCons, gTpl, gSq, fPar, fMV, fMN, setAll, fApp, fExt, fSetIx, fFrz, fForS, fRng1, fRng2, fBits, List.set_cons_zero, List.set_cons_succ, List.length_cons, List.length_nil, endsOf, decide_eq_true_eq, true_and, and_true, at0, at1, at2, at3, at4, Bool.not_eq_true', decide_eq_false_iff_not, lg2, Int.reduceLT, ↓reduceIte]
  subst hz
  refine go_draw (by decide) (by decide) fun x _ _ => ?_
  have key : ∀ f : Int, SF f → q__law_is_told_right_15 { nx := fun x => Q PyData.none, rt := Q, bk := fun x => False, ct := fun x => False }
      [.bg, iS n, .ow [.int a, .int (1000000000000 - b), .int (1 + c), .int f], .un, .un, .un, .un, .un, .un, .un, .un, .un, .un, .un, .un, .un] := by
    intro f hf
    have sa : Sm 40 a := s40 a0 a1
    have sb : Sm 40 (1000000000000 - b) := s40 (by omega) (by omega)
    have sc : Sm 40 (1 + c) := s40 (by omega) (by omega)
    have f0 : 0 ≤ f := by have := hf.1; omega
    have bs : Bd 40 ⟨a, 1000000000000 - b, 1 + c, f⟩ := bd_of sa sb sc (by omega) f0 hf.sm
    have okq : (Ask.of ⟨a, 1000000000000 - b, 1 + c, f⟩).ok := ⟨bs.le (by decide), hf⟩
    unfold q__law_is_told_right_15
    generalize hz : q__law_is_told_right_14 = z
    refine seq_go ?_
    simp only [fSeqS, fSet, fSetN, fRet, fIfS, fNext, fBreak, fCont, fNever, fBin, fCmp, fV, fN, fC, lk, lk_z, lk_s, gAdd, gSub, gMul, gDiv, gMod, gPow, gShl, gShlW, gShr, gv, gLt, gLe, gGt, gGe, gEq, gNe, gIx, fNeg, fTV, fNot, fAnd, fOr, fAndV, fOrV, fNotV, fIf, fLN, fLC, fAN, fAC, fAB, fNV, fTup, fCB, bInt, bAbs, bLen, bMax2, bMin2, bTuple, fSeq, seqOf, fCall, fCallK, fAsg, gNm, gsNil, gsCons, gTpl, gSq, fPar, fMV, fMN, setAll, fApp, fExt, fSetIx, fFrz, fForS, fRng1, fRng2, fBits, List.set_cons_zero, List.set_cons_succ, List.length_cons, List.length_nil, endsOf, decide_eq_true_eq, true_and, and_true, at0, at1, at2, at3, at4, Bool.not_eq_true', decide_eq_false_iff_not, lg2, Int.reduceLT, ↓reduceIte]
    subst hz
    refine ⟨.of ⟨a, 1000000000000 - b, 1 + c, f⟩, false, rfl, okq, ?_⟩
    have b1 : Bd 40 (nrm a (1000000000000 - b) (1 + c) f) := mk_bd sa sb sc (by omega) hf
    simp only [Ask.val]
    unfold q__law_is_told_right_14
    generalize hz : q__law_is_told_right_13 = z
    refine seq_go ?_
    simp only [fSeqS, fSet, fSetN, fRet, fIfS, fNext, fBreak, fCont, fNever, fBin, fCmp, fV, fN, fC, lk, lk_z, lk_s, gAdd, gSub, gMul, gDiv, gMod, gPow, gShl, gShlW, gShr, gv, gLt, gLe, gGt, gGe, gEq, gNe, gIx, fNeg, fTV, fNot, fAnd, fOr, fAndV, fOrV, fNotV, fIf, fLN, fLC, fAN, fAC, fAB, fNV, fTup, fCB, bInt, bAbs, bLen, bMax2, bMin2, bTuple, fSeq, seqOf, fCall, fCallK, fAsg, gNm, gsNil, gsCons, gTpl, gSq, fPar, fMV, fMN, setAll, fApp, fExt, fSetIx, fFrz, fForS, fRng1, fRng2, fBits, List.set_cons_zero, List.set_cons_succ, List.length_cons, List.length_nil, endsOf, decide_eq_true_eq, true_and, and_true, at0, at1, at2, at3, at4, Bool.not_eq_true', decide_eq_false_iff_not, lg2, Int.reduceLT, ↓reduceIte]
    subst hz
    refine go__law_surd ⟨_, _, _, _⟩ ⟨by show 0 < 1 + c; omega, sa.le (by decide), sb.le (by decide), sc.le (by decide)⟩ ?_
    try simp only [fSeqS, fSet, fSetN, fRet, fIfS, fNext, fBreak, fCont, fNever, fBin, fCmp, fV, fN, fC, lk, lk_z, lk_s, gAdd, gSub, gMul, gDiv, gMod, gPow, gShl, gShlW, gShr, gv, gLt, gLe, gGt, gGe, gEq, gNe, gIx, fNeg, fTV, fNot, fAnd, fOr, fAndV, fOrV, fNotV, fIf, fLN, fLC, fAN, fAC, fAB, fNV, fTup, fCB, bInt, bAbs, bLen, bMax2, bMin2, bTuple, fSeq, seqOf, fCall, fCallK, fAsg, gNm, gsNil, gsCons, gTpl, gSq, fPar, fMV, fMN, setAll, fApp, fExt, fSetIx, fFrz, fForS, fRng1, fRng2, fBits, List.set_cons_zero, List.set_cons_succ, List.length_cons, List.length_nil, endsOf, decide_eq_true_eq, true_and, and_true, at0, at1, at2, at3, at4, Bool.not_eq_true', decide_eq_false_iff_not, lg2, Int.reduceLT, ↓reduceIte]
    refine go_like (told_ni (D_ni b1 (by decide)) (by decide) (by decide)) ?_
    try simp only [fSeqS, fSet, fSetN, fRet, fIfS, fNext, fBreak, fCont, fNever, fBin, fCmp, fV, fN, fC, lk, lk_z, lk_s, gAdd, gSub, gMul, gDiv, gMod, gPow, gShl, gShlW, gShr, gv, gLt, gLe, gGt, gGe, gEq, gNe, gIx, fNeg, fTV, fNot, fAnd, fOr, fAndV, fOrV, fNotV, fIf, fLN, fLC, fAN, fAC, fAB, fNV, fTup, fCB, bInt, bAbs, bLen, bMax2, bMin2, bTuple, fSeq, seqOf, fCall, fCallK, fAsg, gNm, gsNil, gsCons, gTpl, gSq, fPar, fMV, fMN, setAll, fApp, fExt, fSetIx, fFrz, fForS, fRng1, fRng2, fBits, List.set_cons_zero, List.set_cons_succ, List.length_cons, List.length_nil, endsOf, decide_eq_true_eq, true_and, and_true, at0, at1, at2, at3, at4, Bool.not_eq_true', decide_eq_false_iff_not, lg2, Int.reduceLT, ↓reduceIte]
    rw [if_neg (by decide)]
    unfold q__law_is_told_right_13
    generalize hz : q__law_is_told_right_12 = z
    refine seq_go ?_
    refine par_go (mv_go ?_)
    simp only [fBin, fN, fC, lk, gIx, at1]
    refine mv_go ?_
    simp only [fBin, fN, fC, lk, gIx, at3]
    refine mv_go ?_
    simp only [fC, fAN, List.length_cons, List.length_nil, true_and, setAll, List.set_cons_succ, List.set_cons_zero]
    subst hz
    revert b1
    generalize nrm a (1000000000000 - b) (1 + c) f = s0
    intro b1
    unfold q__law_is_told_right_12
    generalize hz : q__law_is_told_right_11 = z
    refine seq_go ?_
    simp only [fSeqS, fSet, fSetN, fRet, fIfS, fNext, fBreak, fCont, fNever, fBin, fCmp, fV, fN, fC, lk, lk_z, lk_s, gAdd, gSub, gMul, gDiv, gMod, gPow, gShl, gShlW, gShr, gv, gLt, gLe, gGt, gGe, gEq, gNe, gIx, fNeg, fTV, fNot, fAnd, fOr, fAndV, fOrV, fNotV, fIf, fLN, fLC, fAN, fAC, fAB, fNV, fTup, fCB, bInt, bAbs, bLen, bMax2, bMin2, bTuple, fSeq, seqOf, fCall, fCallK, fAsg, gNm, gsNil, gsCons, gTpl, gSq, fPar, fMV, fMN, setAll, fApp, fExt, fSetIx, fFrz, fForS, fRng1, fRng2, fBits, List.set_cons_zero, List.set_cons_succ, List.length_cons, List.length_nil, endsOf, decide_eq_true_eq, true_and, and_true, at0, at1, at2, at3, at4, Bool.not_eq_true', decide_eq_false_iff_not, lg2, Int.reduceLT, ↓reduceIte]
    subst hz
    refine ⟨by decide, by decide, ?_⟩
    refine for_of (fun ds ρ => ∃ (s : S4) (row : D) (s3 s6 s7 s8 s9 s10 s11 s12 s13 s14 s15 : Sl), ρ = [.bg, iS n, .sh row, s3, .sh s.D, iS f, s6, s7, s8, s9, s10, s11, s12, s13, s14, s15] ∧ ds.length ≤ 4 ∧ Bd (bnd ds.length) s) ?_ ?_ _ _ ⟨s0, _, _, _, _, _, _, _, _, _, _, _, _, rfl, by rw [rng_len]; decide, by rw [rng_len]; exact b1⟩
    · rintro d ds ρ ⟨s, row, s3, s6, s7, s8, s9, s10, s11, s12, s13, s14, s15, rfl, hlen, hs⟩ K hK
      rw [List.length_cons] at hlen hs
      obtain ⟨e1, e2, e3, e4⟩ := bnd_ok ds.length (by omega)
      generalize hE : bnd (ds.length + 1) = e at e1 e2 e3 hs
      generalize hE' : bnd ds.length = e' at e3 e4
      have B : ∀ {m : Nat} {t : S4}, Bd m t → m ≤ 960 → Bd 960 t := fun h hm => h.le hm
      unfold q__law_is_told_right_11
      simp only [fSeqS, fSet, fSetN, fRet, fIfS, fNext, fBreak, fCont, fNever, fBin, fCmp, fV, fN, fC, lk, lk_z, lk_s, gAdd, gSub, gMul, gDiv, gMod, gPow, gShl, gShlW, gShr, gv, gLt, gLe, gGt, gGe, gEq, gNe, gIx, fNeg, fTV, fNot, fAnd, fOr, fAndV, fOrV, fNotV, fIf, fLN, fLC, fAN, fAC, fAB, fNV, fTup, fCB, bInt, bAbs, bLen, bMax2, bMin2, bTuple, fSeq, seqOf, fCall, fCallK, fAsg, gNm, gsNil, gsCons, gTpl, gSq, fPar, fMV, fMN, setAll, fApp, fExt, fSetIx, fFrz, fForS, fRng1, fRng2, fBits, List.set_cons_zero, List.set_cons_succ, List.length_cons, List.length_nil, endsOf, decide_eq_true_eq, true_and, and_true, at0, at1, at2, at3, at4, Bool.not_eq_true', decide_eq_false_iff_not, lg2, Int.reduceLT, ↓reduceIte]
      refine go_pick (by simp) (by simp) fun d hd => ?_
      obtain ⟨st, rfl, st0, st1⟩ : ∃ st : Int, d = .int st ∧ 0 ≤ st ∧ st ≤ 1000 := by
        simp only [List.mem_cons, List.not_mem_nil, or_false] at hd
        rcases hd with rfl | rfl | rfl | rfl <;> exact ⟨_, rfl, by omega, by omega⟩
      try simp only [fSeqS, fSet, fSetN, fRet, fIfS, fNext, fBreak, fCont, fNever, fBin, fCmp, fV, fN, fC, lk, lk_z, lk_s, gAdd, gSub, gMul, gDiv, gMod, gPow, gShl, gShlW, gShr, gv, gLt, gLe, gGt, gGe, gEq, gNe, gIx, fNeg, fTV, fNot, fAnd, fOr, fAndV, fOrV, fNotV, fIf, fLN, fLC, fAN, fAC, fAB, fNV, fTup, fCB, bInt, bAbs, bLen, bMax2, bMin2, bTuple, fSeq, seqOf, fCall, fCallK, fAsg, gNm, gsNil, gsCons, gTpl, gSq, fPar, fMV, fMN, setAll, fApp, fExt, fSetIx, fFrz, fForS, fRng1, fRng2, fBits, List.set_cons_zero, List.set_cons_succ, List.length_cons, List.length_nil, endsOf, decide_eq_true_eq, true_and, and_true, at0, at1, at2, at3, at4, Bool.not_eq_true', decide_eq_false_iff_not, lg2, Int.reduceLT, ↓reduceIte]
      refine go_near hf st0 st1 fun h k h0 h1 k0 k1 => ?_
      try simp only [fSeqS, fSet, fSetN, fRet, fIfS, fNext, fBreak, fCont, fNever, fBin, fCmp, fV, fN, fC, lk, lk_z, lk_s, gAdd, gSub, gMul, gDiv, gMod, gPow, gShl, gShlW, gShr, gv, gLt, gLe, gGt, gGe, gEq, gNe, gIx, fNeg, fTV, fNot, fAnd, fOr, fAndV, fOrV, fNotV, fIf, fLN, fLC, fAN, fAC, fAB, fNV, fTup, fCB, bInt, bAbs, bLen, bMax2, bMin2, bTuple, fSeq, seqOf, fCall, fCallK, fAsg, gNm, gsNil, gsCons, gTpl, gSq, fPar, fMV, fMN, setAll, fApp, fExt, fSetIx, fFrz, fForS, fRng1, fRng2, fBits, List.set_cons_zero, List.set_cons_succ, List.length_cons, List.length_nil, endsOf, decide_eq_true_eq, true_and, and_true, at0, at1, at2, at3, at4, Bool.not_eq_true', decide_eq_false_iff_not, lg2, Int.reduceLT, ↓reduceIte]
      unfold q__law_is_told_right_10
      generalize hz : q__law_is_told_right_9 = z
      refine seq_go ?_
      simp only [fSeqS, fSet, fSetN, fRet, fIfS, fNext, fBreak, fCont, fNever, fBin, fCmp, fV, fN, fC, lk, lk_z, lk_s, gAdd, gSub, gMul, gDiv, gMod, gPow, gShl, gShlW, gShr, gv, gLt, gLe, gGt, gGe, gEq, gNe, gIx, fNeg, fTV, fNot, fAnd, fOr, fAndV, fOrV, fNotV, fIf, fLN, fLC, fAN, fAC, fAB, fNV, fTup, fCB, bInt, bAbs, bLen, bMax2, bMin2, bTuple, fSeq, seqOf, fCall, fCallK, fAsg, gNm, gsNil, gsCons, gTpl, gSq, fPar, fMV, fMN, setAll, fApp, fExt, fSetIx, fFrz, fForS, fRng1, fRng2, fBits, List.set_cons_zero, List.set_cons_succ, List.length_cons, List.length_nil, endsOf, decide_eq_true_eq, true_and, and_true, at0, at1, at2, at3, at4, Bool.not_eq_true', decide_eq_false_iff_not, lg2, Int.reduceLT, ↓reduceIte]
      subst hz
      refine go_pick (by simp) (by simp) fun d hd => ?_
      obtain ⟨sg, rfl, hsg⟩ : ∃ sg : Int, d = .int sg ∧ (sg = 1 ∨ sg = -1) := by
        simp only [List.mem_cons, List.not_mem_nil, or_false] at hd
        rcases hd with rfl | rfl
        · exact ⟨_, rfl, .inl rfl⟩
        · exact ⟨_, rfl, .inr rfl⟩
      try simp only [fSeqS, fSet, fSetN, fRet, fIfS, fNext, fBreak, fCont, fNever, fBin, fCmp, fV, fN, fC, lk, lk_z, lk_s, gAdd, gSub, gMul, gDiv, gMod, gPow, gShl, gShlW, gShr, gv, gLt, gLe, gGt, gGe, gEq, gNe, gIx, fNeg, fTV, fNot, fAnd, fOr, fAndV, fOrV, fNotV, fIf, fLN, fLC, fAN, fAC, fAB, fNV, fTup, fCB, bInt, bAbs, bLen, bMax2, bMin2, bTuple, fSeq, seqOf, fCall, fCallK, fAsg, gNm, gsNil, gsCons, gTpl, gSq, fPar, fMV, fMN, setAll, fApp, fExt, fSetIx, fFrz, fForS, fRng1, fRng2, fBits, List.set_cons_zero, List.set_cons_succ, List.length_cons, List.length_nil, endsOf, decide_eq_true_eq, true_and, and_true, at0, at1, at2, at3, at4, Bool.not_eq_true', decide_eq_false_iff_not, lg2, Int.reduceLT, ↓reduceIte]
      unfold q__law_is_told_right_9
      generalize hz : q__law_is_told_right_8 = z
      refine seq_go ?_
      simp only [fSeqS, fSet, fSetN, fRet, fIfS, fNext, fBreak, fCont, fNever, fBin, fCmp, fV, fN, fC, lk, lk_z, lk_s, gAdd, gSub, gMul, gDiv, gMod, gPow, gShl, gShlW, gShr, gv, gLt, gLe, gGt, gGe, gEq, gNe, gIx, fNeg, fTV, fNot, fAnd, fOr, fAndV, fOrV, fNotV, fIf, fLN, fLC, fAN, fAC, fAB, fNV, fTup, fCB, bInt, bAbs, bLen, bMax2, bMin2, bTuple, fSeq, seqOf, fCall, fCallK, fAsg, gNm, gsNil, gsCons, gTpl, gSq, fPar, fMV, fMN, setAll, fApp, fExt, fSetIx, fFrz, fForS, fRng1, fRng2, fBits, List.set_cons_zero, List.set_cons_succ, List.length_cons, List.length_nil, endsOf, decide_eq_true_eq, true_and, and_true, at0, at1, at2, at3, at4, Bool.not_eq_true', decide_eq_false_iff_not, lg2, Int.reduceLT, ↓reduceIte]
      subst hz
      refine go_pick (by simp) (by simp) fun dw hdw => ?_
      unfold q__law_is_told_right_8
      generalize hz : q__law_is_told_right_7 = z
      refine seq_go ?_
      simp only [fSeqS, fSet, fSetN, fRet, fIfS, fNext, fBreak, fCont, fNever, fBin, fCmp, fV, fN, fC, lk, lk_z, lk_s, gAdd, gSub, gMul, gDiv, gMod, gPow, gShl, gShlW, gShr, gv, gLt, gLe, gGt, gGe, gEq, gNe, gIx, fNeg, fTV, fNot, fAnd, fOr, fAndV, fOrV, fNotV, fIf, fLN, fLC, fAN, fAC, fAB, fNV, fTup, fCB, bInt, bAbs, bLen, bMax2, bMin2, bTuple, fSeq, seqOf, fCall, fCallK, fAsg, gNm, gsNil, gsCons, gTpl, gSq, fPar, fMV, fMN, setAll, fApp, fExt, fSetIx, fFrz, fForS, fRng1, fRng2, fBits, List.set_cons_zero, List.set_cons_succ, List.length_cons, List.length_nil, endsOf, decide_eq_true_eq, true_and, and_true, at0, at1, at2, at3, at4, Bool.not_eq_true', decide_eq_false_iff_not, lg2, Int.reduceLT, ↓reduceIte]
      subst hz
      have ssg : Sm 1 sg := by rcases hsg with rfl | rfl <;> exact (by decide : (1 : Nat) < 2 ^ 1)
      have sh : Sm 40 h := s40 (by omega) (by omega)
      have sk : Sm 40 k := s40 (by omega) (by omega)
      have sh1 : Sm 40 (sg * h) := by
        rcases sgn_bd (x := h) hsg with z | z
        · rw [z]; exact sh
        · rw [z]; exact sh.neg
      have sk1 : Sm 40 (-sg * k) := by
        rw [Int.neg_mul]
        rcases sgn_bd (x := k) hsg with z | z
        · rw [z]; exact sk.neg
        · rw [z]; exact sk.neg.neg
      refine ⟨mw ssg sh, mw ssg.neg sk, ?_⟩
      refine go_draw (by decide) (by decide) fun y y0 y1 => ?_
      try simp only [fSeqS, fSet, fSetN, fRet, fIfS, fNext, fBreak, fCont, fNever, fBin, fCmp, fV, fN, fC, lk, lk_z, lk_s, gAdd, gSub, gMul, gDiv, gMod, gPow, gShl, gShlW, gShr, gv, gLt, gLe, gGt, gGe, gEq, gNe, gIx, fNeg, fTV, fNot, fAnd, fOr, fAndV, fOrV, fNotV, fIf, fLN, fLC, fAN, fAC, fAB, fNV, fTup, fCB, bInt, bAbs, bLen, bMax2, bMin2, bTuple, fSeq, seqOf, fCall, fCallK, fAsg, gNm, gsNil, gsCons, gTpl, gSq, fPar, fMV, fMN, setAll, fApp, fExt, fSetIx, fFrz, fForS, fRng1, fRng2, fBits, List.set_cons_zero, List.set_cons_succ, List.length_cons, List.length_nil, endsOf, decide_eq_true_eq, true_and, and_true, at0, at1, at2, at3, at4, Bool.not_eq_true', decide_eq_false_iff_not, lg2, Int.reduceLT, ↓reduceIte]
      refine go_pick (by simp) (by simp) fun d hd => ?_
      obtain ⟨t, rfl, ht⟩ : ∃ t : S4, d = t.D ∧ Bd e t := by
        simp only [List.mem_cons, List.not_mem_nil, or_false] at hd
        rcases hd with rfl | rfl
        · exact ⟨s, rfl, hs⟩
        · exact ⟨⟨sg * h, -sg * k, 1 + y, f⟩, rfl, bd_of (sh1.le e1) (sk1.le e1) ((s40 (by omega) (by omega)).le e1) (by omega) f0 hf.sm⟩
      unfold q__law_is_told_right_7
      generalize hz : q__law_is_told_right_6 = z
      refine seq_go ?_
      simp only [fSeqS, fSet, fSetN, fRet, fIfS, fNext, fBreak, fCont, fNever, fBin, fCmp, fV, fN, fC, lk, lk_z, lk_s, gAdd, gSub, gMul, gDiv, gMod, gPow, gShl, gShlW, gShr, gv, gLt, gLe, gGt, gGe, gEq, gNe, gIx, fNeg, fTV, fNot, fAnd, fOr, fAndV, fOrV, fNotV, fIf, fLN, fLC, fAN, fAC, fAB, fNV, fTup, fCB, bInt, bAbs, bLen, bMax2, bMin2, bTuple, fSeq, seqOf, fCall, fCallK, fAsg, gNm, gsNil, gsCons, gTpl, gSq, fPar, fMV, fMN, setAll, fApp, fExt, fSetIx, fFrz, fForS, fRng1, fRng2, fBits, List.set_cons_zero, List.set_cons_succ, List.length_cons, List.length_nil, endsOf, decide_eq_true_eq, true_and, and_true, at0, at1, at2, at3, at4, Bool.not_eq_true', decide_eq_false_iff_not, lg2, Int.reduceLT, ↓reduceIte, D4]
      subst hz
      have shp : ∀ {t : S4}, Bd e t → SeqAt.shaped (.tuple [.int t.a, .int t.b, .int t.c, .int t.d]) = true := fun h => (D_ni h (by omega)).shaped (by decide)
      refine ⟨shp ht, shp hs, ?_⟩
      have rest : ∀ (E : En), E.nx = K → ∀ (u : S4) (w7 w8 w9 w10 : Sl), Bd e u → q__law_is_told_right_6 E
          [.bg, iS n, .sh row, s3, .sh s.D, iS f, s6, w7, w8, w9, w10, .sh dw, .sh u.D, s13, s14, s15] := by
        intro E hE1 u w7 w8 w9 w10 hu
        obtain ⟨q, v, hqw, hqr, hqk, hqo, hqv, hv⟩ : ∃ (q : Ask) (v : S4), dw = .str q.word ∧ q.row = .list [s.D, u.D] ∧ q.ok ∧ q.isOf = false ∧ q.val = v.D ∧ Bd e' v := by
          have t1 : ∃ (q : Ask) (v : S4), PyData.str "times" = .str q.word ∧ q.row = .list [s.D, u.D] ∧ q.ok ∧ q.isOf = false ∧ q.val = v.D ∧ Bd e' v := ⟨.times s u, mulS s u, rfl, rfl, ⟨hs.le e2, hu.le e2⟩, rfl, rfl, (hs.mul hu).le e3⟩
          have t2 : ∃ (q : Ask) (v : S4), PyData.str "sum" = .str q.word ∧ q.row = .list [s.D, u.D] ∧ q.ok ∧ q.isOf = false ∧ q.val = v.D ∧ Bd e' v := ⟨.sum s u, sumS s u, rfl, rfl, ⟨hs.le e2, hu.le e2⟩, rfl, rfl, (hs.sum hu).le (by omega)⟩
          rcases List.mem_cons.mp hdw with z | hdw
          · rw [z]; exact t1
          · rcases List.mem_cons.mp hdw with z | hdw
            · rw [z]; exact t2
            · rcases List.mem_cons.mp hdw with z | hdw
              · rw [z]; exact t1
              · cases hdw
        subst hqw
        unfold q__law_is_told_right_6
        generalize hz : q__law_is_told_right_5 = z
        refine seq_go ?_
        simp only [fSeqS, fSet, fSetN, fRet, fIfS, fNext, fBreak, fCont, fNever, fBin, fCmp, fV, fN, fC, lk, lk_z, lk_s, gAdd, gSub, gMul, gDiv, gMod, gPow, gShl, gShlW, gShr, gv, gLt, gLe, gGt, gGe, gEq, gNe, gIx, fNeg, fTV, fNot, fAnd, fOr, fAndV, fOrV, fNotV, fIf, fLN, fLC, fAN, fAC, fAB, fNV, fTup, fCB, bInt, bAbs, bLen, bMax2, bMin2, bTuple, fSeq, seqOf, fCall, fCallK, fAsg, gNm, gsNil, gsCons, gTpl, gSq, fPar, fMV, fMN, setAll, fApp, fExt, fSetIx, fFrz, fForS, fRng1, fRng2, fBits, List.set_cons_zero, List.set_cons_succ, List.length_cons, List.length_nil, endsOf, decide_eq_true_eq, true_and, and_true, at0, at1, at2, at3, at4, Bool.not_eq_true', decide_eq_false_iff_not, lg2, Int.reduceLT, ↓reduceIte]
        subst hz
        rw [← hqr]
        refine ⟨q, false, rfl, hqk, ?_⟩
        refine ⟨q, rfl, hqk, hqo, ?_⟩
        unfold q__law_is_told_right_5
        generalize hz : q__law_is_told_right_4 = z
        refine seq_go ?_
        simp only [fSeqS, fSet, fSetN, fRet, fIfS, fNext, fBreak, fCont, fNever, fBin, fCmp, fV, fN, fC, lk, lk_z, lk_s, gAdd, gSub, gMul, gDiv, gMod, gPow, gShl, gShlW, gShr, gv, gLt, gLe, gGt, gGe, gEq, gNe, gIx, fNeg, fTV, fNot, fAnd, fOr, fAndV, fOrV, fNotV, fIf, fLN, fLC, fAN, fAC, fAB, fNV, fTup, fCB, bInt, bAbs, bLen, bMax2, bMin2, bTuple, fSeq, seqOf, fCall, fCallK, fAsg, gNm, gsNil, gsCons, gTpl, gSq, fPar, fMV, fMN, setAll, fApp, fExt, fSetIx, fFrz, fForS, fRng1, fRng2, fBits, List.set_cons_zero, List.set_cons_succ, List.length_cons, List.length_nil, endsOf, decide_eq_true_eq, true_and, and_true, at0, at1, at2, at3, at4, Bool.not_eq_true', decide_eq_false_iff_not, lg2, Int.reduceLT, ↓reduceIte]
        subst hz
        refine go_like (val_ni hqk) ?_
        try simp only [fSeqS, fSet, fSetN, fRet, fIfS, fNext, fBreak, fCont, fNever, fBin, fCmp, fV, fN, fC, lk, lk_z, lk_s, gAdd, gSub, gMul, gDiv, gMod, gPow, gShl, gShlW, gShr, gv, gLt, gLe, gGt, gGe, gEq, gNe, gIx, fNeg, fTV, fNot, fAnd, fOr, fAndV, fOrV, fNotV, fIf, fLN, fLC, fAN, fAC, fAB, fNV, fTup, fCB, bInt, bAbs, bLen, bMax2, bMin2, bTuple, fSeq, seqOf, fCall, fCallK, fAsg, gNm, gsNil, gsCons, gTpl, gSq, fPar, fMV, fMN, setAll, fApp, fExt, fSetIx, fFrz, fForS, fRng1, fRng2, fBits, List.set_cons_zero, List.set_cons_succ, List.length_cons, List.length_nil, endsOf, decide_eq_true_eq, true_and, and_true, at0, at1, at2, at3, at4, Bool.not_eq_true', decide_eq_false_iff_not, lg2, Int.reduceLT, ↓reduceIte]
        rw [if_neg (by decide)]
        rw [hqv]
        unfold q__law_is_told_right_4
        generalize hz : q__law_is_told_right_3 = z
        refine seq_go ?_
        simp only [fSeqS, fSet, fSetN, fRet, fIfS, fNext, fBreak, fCont, fNever, fBin, fCmp, fV, fN, fC, lk, lk_z, lk_s, gAdd, gSub, gMul, gDiv, gMod, gPow, gShl, gShlW, gShr, gv, gLt, gLe, gGt, gGe, gEq, gNe, gIx, fNeg, fTV, fNot, fAnd, fOr, fAndV, fOrV, fNotV, fIf, fLN, fLC, fAN, fAC, fAB, fNV, fTup, fCB, bInt, bAbs, bLen, bMax2, bMin2, bTuple, fSeq, seqOf, fCall, fCallK, fAsg, gNm, gsNil, gsCons, gTpl, gSq, fPar, fMV, fMN, setAll, fApp, fExt, fSetIx, fFrz, fForS, fRng1, fRng2, fBits, List.set_cons_zero, List.set_cons_succ, List.length_cons, List.length_nil, endsOf, decide_eq_true_eq, true_and, and_true, at0, at1, at2, at3, at4, Bool.not_eq_true', decide_eq_false_iff_not, lg2, Int.reduceLT, ↓reduceIte]
        subst hz
        unfold q__law_is_told_right_3
        generalize hz : q__law_is_told_right_2 = z
        refine seq_go ?_
        simp only [fSeqS, fSet, fSetN, fRet, fIfS, fNext, fBreak, fCont, fNever, fBin, fCmp, fV, fN, fC, lk, lk_z, lk_s, gAdd, gSub, gMul, gDiv, gMod, gPow, gShl, gShlW, gShr, gv, gLt, gLe, gGt, gGe, gEq, gNe, gIx, fNeg, fTV, fNot, fAnd, fOr, fAndV, fOrV, fNotV, fIf, fLN, fLC, fAN, fAC, fAB, fNV, fTup, fCB, bInt, bAbs, bLen, bMax2, bMin2, bTuple, fSeq, seqOf, fCall, fCallK, fAsg, gNm, gsNil, gsCons, gTpl, gSq, fPar, fMV, fMN, setAll, fApp, fExt, fSetIx, fFrz, fForS, fRng1, fRng2, fBits, List.set_cons_zero, List.set_cons_succ, List.length_cons, List.length_nil, endsOf, decide_eq_true_eq, true_and, and_true, at0, at1, at2, at3, at4, Bool.not_eq_true', decide_eq_false_iff_not, lg2, Int.reduceLT, ↓reduceIte]
        subst hz
        have hv9 : Bd 960 v := hv.le (by omega)
        have hs9 : Bd 960 s := hs.le (by omega)
        refine go1 (F := fun s => .int (wholeS s (rF (s.b * s.b * s.d)))) hv9 ?_
        try simp only [fSeqS, fSet, fSetN, fRet, fIfS, fNext, fBreak, fCont, fNever, fBin, fCmp, fV, fN, fC, lk, lk_z, lk_s, gAdd, gSub, gMul, gDiv, gMod, gPow, gShl, gShlW, gShr, gv, gLt, gLe, gGt, gGe, gEq, gNe, gIx, fNeg, fTV, fNot, fAnd, fOr, fAndV, fOrV, fNotV, fIf, fLN, fLC, fAN, fAC, fAB, fNV, fTup, fCB, bInt, bAbs, bLen, bMax2, bMin2, bTuple, fSeq, seqOf, fCall, fCallK, fAsg, gNm, gsNil, gsCons, gTpl, gSq, fPar, fMV, fMN, setAll, fApp, fExt, fSetIx, fFrz, fForS, fRng1, fRng2, fBits, List.set_cons_zero, List.set_cons_succ, List.length_cons, List.length_nil, endsOf, decide_eq_true_eq, true_and, and_true, at0, at1, at2, at3, at4, Bool.not_eq_true', decide_eq_false_iff_not, lg2, Int.reduceLT, ↓reduceIte]
        have wsm := whole_sm hv9
        generalize wholeS v (rF (v.b * v.b * v.d)) = w at wsm
        unfold q__law_is_told_right_2
        refine seq_go ?_
        have asks0 : AllOk [.sign v, .whole v, .order v s, .order s v, .order v v] := .cons hv9 rfl (.cons hv9 rfl (.cons ⟨hv9, hs9⟩ rfl (.cons ⟨hs9, hv9⟩ rfl (.cons ⟨hv9, hv9⟩ rfl .nil))))
        refine setN_asks [.sign v, .whole v, .order v s, .order s v, .order v v] (fun P h => by simp only [fSeqS, fSet, fSetN, fRet, fIfS, fNext, fBreak, fCont, fNever, fBin, fCmp, fV, fN, fC, lk, lk_z, lk_s, gAdd, gSub, gMul, gDiv, gMod, gPow, gShl, gShlW, gShr, gv, gLt, gLe, gGt, gGe, gEq, gNe, gIx, fNeg, fTV, fNot, fAnd, fOr, fAndV, fOrV, fNotV, fIf, fLN, fLC, fAN, fAC, fAB, fNV, fTup, fCB, bInt, bAbs, bLen, bMax2, bMin2, bTuple, fSeq, seqOf, fCall, fCallK, fAsg, gNm, gsNil, gsCons, gTpl, gSq, fPar, fMV, fMN, setAll, fApp, fExt, fSetIx, fFrz, fForS, fRng1, fRng2, fBits, List.set_cons_zero, List.set_cons_succ, List.length_cons, List.length_nil, endsOf, decide_eq_true_eq, true_and, and_true, at0, at1, at2, at3, at4, Bool.not_eq_true', decide_eq_false_iff_not, lg2, Int.reduceLT, ↓reduceIte]; exact h) ?_
        simp only [List.set_cons_succ, List.set_cons_zero]
        have fin : ∀ l : List Ask, l.length ≤ 300 → AllOk l → q__law_is_told_right_0 E [.bg, iS n, .sh row, .sh (.tuple [.str "told", v.D]), .sh v.D, iS f, iS w, w7, w8, w9, w10, .sh (.str q.word), .sh u.D, .sh (.tuple [.str "told", v.D]), .sh s.D, .ow (l.map Ask.D)] := by
          intro l hl hok
          unfold q__law_is_told_right_0
          simp only [fSeqS, fSet, fSetN, fRet, fIfS, fNext, fBreak, fCont, fNever, fBin, fCmp, fV, fN, fC, lk, lk_z, lk_s, gAdd, gSub, gMul, gDiv, gMod, gPow, gShl, gShlW, gShr, gv, gLt, gLe, gGt, gGe, gEq, gNe, gIx, fNeg, fTV, fNot, fAnd, fOr, fAndV, fOrV, fNotV, fIf, fLN, fLC, fAN, fAC, fAB, fNV, fTup, fCB, bInt, bAbs, bLen, bMax2, bMin2, bTuple, fSeq, seqOf, fCall, fCallK, fAsg, gNm, gsNil, gsCons, gTpl, gSq, fPar, fMV, fMN, setAll, fApp, fExt, fSetIx, fFrz, fForS, fRng1, fRng2, fBits, List.set_cons_zero, List.set_cons_succ, List.length_cons, List.length_nil, endsOf, decide_eq_true_eq, true_and, and_true, at0, at1, at2, at3, at4, Bool.not_eq_true', decide_eq_false_iff_not, lg2, Int.reduceLT, ↓reduceIte]
          refine ⟨rfl, ⟨_, rfl, l, rfl, hl, hok⟩, fun d hd => ?_⟩
          subst hd
          try simp only [fSeqS, fSet, fSetN, fRet, fIfS, fNext, fBreak, fCont, fNever, fBin, fCmp, fV, fN, fC, lk, lk_z, lk_s, gAdd, gSub, gMul, gDiv, gMod, gPow, gShl, gShlW, gShr, gv, gLt, gLe, gGt, gGe, gEq, gNe, gIx, fNeg, fTV, fNot, fAnd, fOr, fAndV, fOrV, fNotV, fIf, fLN, fLC, fAN, fAC, fAB, fNV, fTup, fCB, bInt, bAbs, bLen, bMax2, bMin2, bTuple, fSeq, seqOf, fCall, fCallK, fAsg, gNm, gsNil, gsCons, gTpl, gSq, fPar, fMV, fMN, setAll, fApp, fExt, fSetIx, fFrz, fForS, fRng1, fRng2, fBits, List.set_cons_zero, List.set_cons_succ, List.length_cons, List.length_nil, endsOf, decide_eq_true_eq, true_and, and_true, at0, at1, at2, at3, at4, Bool.not_eq_true', decide_eq_false_iff_not, lg2, Int.reduceLT, ↓reduceIte]
          rw [if_neg (by decide), hE1]
          exact hK _ ⟨v, _, _, _, _, _, _, _, _, _, _, _, _, rfl, by omega, by rw [hE']; exact hv⟩
        unfold q__law_is_told_right_1
        generalize hz : q__law_is_told_right_0 = z at fin
        refine seq_go (if_at (b := decide ((if w < 0 then -w else w) < 1000000000000)) (fun P h => by simp only [fSeqS, fSet, fSetN, fRet, fIfS, fNext, fBreak, fCont, fNever, fBin, fCmp, fV, fN, fC, lk, lk_z, lk_s, gAdd, gSub, gMul, gDiv, gMod, gPow, gShl, gShlW, gShr, gv, gLt, gLe, gGt, gGe, gEq, gNe, gIx, fNeg, fTV, fNot, fAnd, fOr, fAndV, fOrV, fNotV, fIf, fLN, fLC, fAN, fAC, fAB, fNV, fTup, fCB, bInt, bAbs, bLen, bMax2, bMin2, bTuple, fSeq, seqOf, fCall, fCallK, fAsg, gNm, gsNil, gsCons, gTpl, gSq, fPar, fMV, fMN, setAll, fApp, fExt, fSetIx, fFrz, fForS, fRng1, fRng2, fBits, List.set_cons_zero, List.set_cons_succ, List.length_cons, List.length_nil, endsOf, decide_eq_true_eq, true_and, and_true, at0, at1, at2, at3, at4, Bool.not_eq_true', decide_eq_false_iff_not, lg2, Int.reduceLT, ↓reduceIte, pw12, tp12]; exact h) ?_)
        generalize E.rt = Ert
        generalize E.bk = Ebk
        generalize E.ct = Ect
        by_cases lt : (if w < 0 then -w else w) < 1000000000000
        · rw [decide_eq_true lt, if_pos rfl]
          have w0 : -1000000000000 ≤ w := by split at lt <;> omega
          have w1 : w < 1000000000000 := by split at lt <;> omega
          have bw : Bd 960 ⟨w, 0, 1, 0⟩ := bd_of ((s40 w0 (by omega)).le (by decide)) (sz0 960) ((s40 (by decide) (by decide)).le (by decide)) (by decide) (by decide) (sz0 20)
          have bw1 : Bd 960 ⟨w + 1, 0, 1, 0⟩ := bd_of ((s40 (by omega) (by omega)).le (by decide)) (sz0 960) ((s40 (by decide) (by decide)).le (by decide)) (by decide) (by decide) (sz0 20)
          have asks1 := asks0.app (m := [.order v ⟨w, 0, 1, 0⟩, .order ⟨w + 1, 0, 1, 0⟩ v]) (.cons ⟨hv9, bw⟩ rfl (.cons ⟨bw1, hv9⟩ rfl .nil))
          have := fin _ (by simp only [List.length_append, List.length_cons, List.length_nil]; decide) asks1
          rw [List.map_append] at this
          refine ext_at (ds := List.map Ask.D [.sign v, .whole v, .order v s, .order s v, .order v v]) (es := List.map Ask.D [.order v ⟨w, 0, 1, 0⟩, .order ⟨w + 1, 0, 1, 0⟩ v]) rfl (fun P h => by simp only [fSeqS, fSet, fSetN, fRet, fIfS, fNext, fBreak, fCont, fNever, fBin, fCmp, fV, fN, fC, lk, lk_z, lk_s, gAdd, gSub, gMul, gDiv, gMod, gPow, gShl, gShlW, gShr, gv, gLt, gLe, gGt, gGe, gEq, gNe, gIx, fNeg, fTV, fNot, fAnd, fOr, fAndV, fOrV, fNotV, fIf, fLN, fLC, fAN, fAC, fAB, fNV, fTup, fCB, bInt, bAbs, bLen, bMax2, bMin2, bTuple, fSeq, seqOf, fCall, fCallK, fAsg, gNm, gsNil, gsCons, gTpl, gSq, fPar, fMV, fMN, setAll, fApp, fExt, fSetIx, fFrz, fForS, fRng1, fRng2, fBits, List.set_cons_zero, List.set_cons_succ, List.length_cons, List.length_nil, endsOf, decide_eq_true_eq, true_and, and_true, at0, at1, at2, at3, at4, Bool.not_eq_true', decide_eq_false_iff_not, lg2, Int.reduceLT, ↓reduceIte]; exact h) (by simp only [List.length_map, List.length_cons, List.length_nil, most]; decide) this
        · rw [decide_eq_false lt, if_neg (by decide)]
          exact fin _ (by simp only [List.length_cons, List.length_nil]; decide) asks0
      split
      · exact go__law_surd ⟨t.a, t.b, t.c, f⟩ ⟨ht.c0, ht.a.le (by omega), ht.b.le (by omega), ht.c.le (by omega)⟩ (rest _ rfl (nrm t.a t.b t.c f) _ _ _ _ (mk_bd ht.a ht.b ht.c ht.c0 hf))
      · exact rest _ rfl s _ _ _ _ hs
    · rintro ρ ⟨s, row, s3, s6, s7, s8, s9, s10, s11, s12, s13, s14, s15, rfl, _, _⟩
      simp only [fSeqS, fSet, fSetN, fRet, fIfS, fNext, fBreak, fCont, fNever, fBin, fCmp, fV, fN, fC, lk, lk_z, lk_s, gAdd, gSub, gMul, gDiv, gMod, gPow, gShl, gShlW, gShr, gv, gLt, gLe, gGt, gGe, gEq, gNe, gIx, fNeg, fTV, fNot, fAnd, fOr, fAndV, fOrV, fNotV, fIf, fLN, fLC, fAN, fAC, fAB, fNV, fTup, fCB, bInt, bAbs, bLen, bMax2, bMin2, bTuple, fSeq, seqOf, fCall, fCallK, fAsg, gNm, gsNil, gsCons, gTpl, gSq, fPar, fMV, fMN, setAll, fApp, fExt, fSetIx, fFrz, fForS, fRng1, fRng2, fBits, List.set_cons_zero, List.set_cons_succ, List.length_cons, List.length_nil, endsOf, decide_eq_true_eq, true_and, and_true, at0, at1, at2, at3, at4, Bool.not_eq_true', decide_eq_false_iff_not, lg2, Int.reduceLT, ↓reduceIte]
      exact hq'
  simp only [fSeqS, fSet, fSetN, fRet, fIfS, fNext, fBreak, fCont, fNever, fBin, fCmp, fV, fN, fC, lk, lk_z, lk_s, gAdd, gSub, gMul, gDiv, gMod, gPow, gShl, gShlW, gShr, gv, gLt, gLe, gGt, gGe, gEq, gNe, gIx, fNeg, fTV, fNot, fAnd, fOr, fAndV, fOrV, fNotV, fIf, fLN, fLC, fAN, fAC, fAB, fNV, fTup, fCB, bInt, bAbs, bLen, bMax2, bMin2, bTuple, fSeq, seqOf, fCall, fCallK, fAsg, gNm, gsNil, gsCons, gTpl, gSq, fPar, fMV, fMN, setAll, fApp, fExt, fSetIx, fFrz, fForS, fRng1, fRng2, fBits, List.set_cons_zero, List.set_cons_succ, List.length_cons, List.length_nil, endsOf, decide_eq_true_eq, true_and, and_true, at0, at1, at2, at3, at4, Bool.not_eq_true', decide_eq_false_iff_not, lg2, Int.reduceLT, ↓reduceIte, Nat.reduceAdd, ix43, Int.reduceSub]
  split
  · exact key n hn
  · exact key 999983 (sfi 999983)
end T
end DL
namespace DL
namespace T
open PySem L2 PySem.Spec PyProof.Rows
def top (i : Nat) : Stmt := PySem.Challenge.pw_linecuts_k02_whole_surd_orders.main.body.getD i (.Pass ⟨0, 0, 0, 0⟩)
abbrev s_common : Stmt := top 10
abbrev s_whole_root : Stmt := top 11
abbrev s_root_parts : Stmt := top 13
abbrev s_lowest : Stmt := top 14
abbrev s_surd_of : Stmt := top 15
abbrev s_surd_sum : Stmt := top 16
abbrev s_surd_times : Stmt := top 17
abbrev s_surd_turned : Stmt := top 18
abbrev s_surd_sign : Stmt := top 20
abbrev s_surd_order : Stmt := top 21
abbrev s_whole_part : Stmt := top 22
abbrev s__law_own_bag : Stmt := top 24
abbrev s__law_draw : Stmt := top 25
abbrev s__law_pick : Stmt := top 26
abbrev s__law_great : Stmt := top 27
abbrev s__law_refused : Stmt := top 28
abbrev s__law_like : Stmt := top 29
abbrev s__law_common : Stmt := top 30
abbrev s__law_root_of : Stmt := top 31
abbrev s__law_parts : Stmt := top 32
abbrev s__law_surd : Stmt := top 33
abbrev s__law_square_free : Stmt := top 34
abbrev s__law_integer : Stmt := top 35
abbrev s__law_told : Stmt := top 36
abbrev s__law_own_sign : Stmt := top 37
abbrev s__law_own_sum : Stmt := top 38
abbrev s__law_own_times : Stmt := top 39
abbrev s__law_own_whole : Stmt := top 40
abbrev s__law_due : Stmt := top 41
abbrev s__law_handed : Stmt := top 42
abbrev s__law_near : Stmt := top 43
abbrev s__law_near_asks : Stmt := top 44
abbrev s__law_plain_asks : Stmt := top 45
abbrev s__law_is_told_right : Stmt := top 46
abbrev s__law_are_right : Stmt := top 47
abbrev s_law : Stmt := top 48
structure Bl (mg : Str → Option Value) : Prop where
  range : mg "range" = none
  abs : mg "abs" = none
  max : mg "max" = none
  int : mg "int" = none
  len : mg "len" = none
  list : mg "list" = none
  reversed : mg "reversed" = none
  repr : mg "repr" = none
theorem m_common : ∀ ss (Q Q' : D → Prop), (∀ d, Q d → Q' d) → S_common ss Q → S_common ss Q' := sp_mono
theorem l_common : ∀ ss (Q : D → Prop), S_common ss Q → ss.length = 2 := sp_len
theorem m_whole_root : ∀ ss (Q Q' : D → Prop), (∀ d, Q d → Q' d) → S_whole_root ss Q → S_whole_root ss Q' := sp_mono
theorem l_whole_root : ∀ ss (Q : D → Prop), S_whole_root ss Q → ss.length = 1 := sp_len
theorem m_surd_turned : ∀ ss (Q Q' : D → Prop), (∀ d, Q d → Q' d) → S_surd_turned ss Q → S_surd_turned ss Q' := sp_mono
theorem l_surd_turned : ∀ ss (Q : D → Prop), S_surd_turned ss Q → ss.length = 1 := sp_len
theorem m_surd_sign : ∀ ss (Q Q' : D → Prop), (∀ d, Q d → Q' d) → S_surd_sign ss Q → S_surd_sign ss Q' := sp_mono
theorem l_surd_sign : ∀ ss (Q : D → Prop), S_surd_sign ss Q → ss.length = 1 := sp_len
theorem m__law_own_bag : ∀ ss (Q Q' : D → Prop), (∀ d, Q d → Q' d) → S__law_own_bag ss Q → S__law_own_bag ss Q' := spOwn_mono
theorem l__law_own_bag : ∀ ss (Q : D → Prop), S__law_own_bag ss Q → ss.length = 1 := spOwn_len
theorem m__law_like : ∀ ss (Q Q' : D → Prop), (∀ d, Q d → Q' d) → S__law_like ss Q → S__law_like ss Q' := sp_mono
theorem l__law_like : ∀ ss (Q : D → Prop), S__law_like ss Q → ss.length = 2 := sp_len
theorem m__law_common : ∀ ss (Q Q' : D → Prop), (∀ d, Q d → Q' d) → S__law_common ss Q → S__law_common ss Q' := sp_mono
theorem l__law_common : ∀ ss (Q : D → Prop), S__law_common ss Q → ss.length = 2 := sp_len
theorem m__law_root_of : ∀ ss (Q Q' : D → Prop), (∀ d, Q d → Q' d) → S__law_root_of ss Q → S__law_root_of ss Q' := sp_mono
theorem l__law_root_of : ∀ ss (Q : D → Prop), S__law_root_of ss Q → ss.length = 1 := sp_len
theorem m__law_own_sign : ∀ ss (Q Q' : D → Prop), (∀ d, Q d → Q' d) → S__law_own_sign ss Q → S__law_own_sign ss Q' := sp_mono
theorem l__law_own_sign : ∀ ss (Q : D → Prop), S__law_own_sign ss Q → ss.length = 3 := sp_len
theorem m_root_parts : ∀ ss (Q Q' : D → Prop), (∀ d, Q d → Q' d) → S_root_parts ss Q → S_root_parts ss Q' := sp_mono
theorem l_root_parts : ∀ ss (Q : D → Prop), S_root_parts ss Q → ss.length = 1 := sp_len
theorem m_lowest : ∀ ss (Q Q' : D → Prop), (∀ d, Q d → Q' d) → S_lowest ss Q → S_lowest ss Q' := sp_mono
theorem l_lowest : ∀ ss (Q : D → Prop), S_lowest ss Q → ss.length = 4 := sp_len
theorem m_whole_part : ∀ ss (Q Q' : D → Prop), (∀ d, Q d → Q' d) → S_whole_part ss Q → S_whole_part ss Q' := sp_mono
theorem l_whole_part : ∀ ss (Q : D → Prop), S_whole_part ss Q → ss.length = 1 := sp_len
theorem m__law_pick : ∀ ss (Q Q' : D → Prop), (∀ d, Q d → Q' d) → S__law_pick ss Q → S__law_pick ss Q' := sp_mono
theorem l__law_pick : ∀ ss (Q : D → Prop), S__law_pick ss Q → ss.length = 2 := sp_len
theorem m__law_great : ∀ ss (Q Q' : D → Prop), (∀ d, Q d → Q' d) → S__law_great ss Q → S__law_great ss Q' := sp_mono
theorem l__law_great : ∀ ss (Q : D → Prop), S__law_great ss Q → ss.length = 2 := sp_len
theorem m__law_parts : ∀ ss (Q Q' : D → Prop), (∀ d, Q d → Q' d) → S__law_parts ss Q → S__law_parts ss Q' := sp_mono
theorem l__law_parts : ∀ ss (Q : D → Prop), S__law_parts ss Q → ss.length = 1 := sp_len
theorem m__law_surd : ∀ ss (Q Q' : D → Prop), (∀ d, Q d → Q' d) → S__law_surd ss Q → S__law_surd ss Q' := sp_mono
theorem l__law_surd : ∀ ss (Q : D → Prop), S__law_surd ss Q → ss.length = 4 := sp_len
theorem m__law_own_whole : ∀ ss (Q Q' : D → Prop), (∀ d, Q d → Q' d) → S__law_own_whole ss Q → S__law_own_whole ss Q' := sp_mono
theorem l__law_own_whole : ∀ ss (Q : D → Prop), S__law_own_whole ss Q → ss.length = 1 := sp_len
theorem m__law_near : ∀ ss (Q Q' : D → Prop), (∀ d, Q d → Q' d) → S__law_near ss Q → S__law_near ss Q' := sp_mono
theorem l__law_near : ∀ ss (Q : D → Prop), S__law_near ss Q → ss.length = 3 := sp_len
theorem m_surd_of : ∀ ss (Q Q' : D → Prop), (∀ d, Q d → Q' d) → S_surd_of ss Q → S_surd_of ss Q' := sp_mono
theorem l_surd_of : ∀ ss (Q : D → Prop), S_surd_of ss Q → ss.length = 4 := sp_len
theorem m_surd_sum : ∀ ss (Q Q' : D → Prop), (∀ d, Q d → Q' d) → S_surd_sum ss Q → S_surd_sum ss Q' := sp_mono
theorem l_surd_sum : ∀ ss (Q : D → Prop), S_surd_sum ss Q → ss.length = 2 := sp_len
theorem m_surd_times : ∀ ss (Q Q' : D → Prop), (∀ d, Q d → Q' d) → S_surd_times ss Q → S_surd_times ss Q' := sp_mono
theorem l_surd_times : ∀ ss (Q : D → Prop), S_surd_times ss Q → ss.length = 2 := sp_len
theorem m__law_square_free : ∀ ss (Q Q' : D → Prop), (∀ d, Q d → Q' d) → S__law_square_free ss Q → S__law_square_free ss Q' := sp_mono
theorem l__law_square_free : ∀ ss (Q : D → Prop), S__law_square_free ss Q → ss.length = 1 := sp_len
theorem m__law_integer : ∀ ss (Q Q' : D → Prop), (∀ d, Q d → Q' d) → S__law_integer ss Q → S__law_integer ss Q' := sp_mono
theorem l__law_integer : ∀ ss (Q : D → Prop), S__law_integer ss Q → ss.length = 1 := sp_len
theorem m__law_own_sum : ∀ ss (Q Q' : D → Prop), (∀ d, Q d → Q' d) → S__law_own_sum ss Q → S__law_own_sum ss Q' := sp_mono
theorem l__law_own_sum : ∀ ss (Q : D → Prop), S__law_own_sum ss Q → ss.length = 2 := sp_len
theorem m__law_own_times : ∀ ss (Q Q' : D → Prop), (∀ d, Q d → Q' d) → S__law_own_times ss Q → S__law_own_times ss Q' := sp_mono
theorem l__law_own_times : ∀ ss (Q : D → Prop), S__law_own_times ss Q → ss.length = 2 := sp_len
theorem m_surd_order : ∀ ss (Q Q' : D → Prop), (∀ d, Q d → Q' d) → S_surd_order ss Q → S_surd_order ss Q' := sp_mono
theorem l_surd_order : ∀ ss (Q : D → Prop), S_surd_order ss Q → ss.length = 2 := sp_len
theorem m__law_handed : ∀ ss (Q Q' : D → Prop), (∀ d, Q d → Q' d) → S__law_handed ss Q → S__law_handed ss Q' := sp_mono
theorem l__law_handed : ∀ ss (Q : D → Prop), S__law_handed ss Q → ss.length = 2 := sp_len
theorem m__law_near_asks : ∀ ss (Q Q' : D → Prop), (∀ d, Q d → Q' d) → S__law_near_asks ss Q → S__law_near_asks ss Q' := sp_mono
theorem l__law_near_asks : ∀ ss (Q : D → Prop), S__law_near_asks ss Q → ss.length = 2 := sp_len
theorem m__law_plain_asks : ∀ ss (Q Q' : D → Prop), (∀ d, Q d → Q' d) → S__law_plain_asks ss Q → S__law_plain_asks ss Q' := sp_mono
theorem l__law_plain_asks : ∀ ss (Q : D → Prop), S__law_plain_asks ss Q → ss.length = 2 := sp_len
theorem m__law_are_right : ∀ ss (Q Q' : D → Prop), (∀ d, Q d → Q' d) → S__law_are_right ss Q → S__law_are_right ss Q' := sp_mono
theorem l__law_are_right : ∀ ss (Q : D → Prop), S__law_are_right ss Q → ss.length = 2 := sp_len
theorem m__law_is_told_right : ∀ ss (Q Q' : D → Prop), (∀ d, Q d → Q' d) → S__law_is_told_right ss Q → S__law_is_told_right ss Q' := sp_mono
theorem l__law_is_told_right : ∀ ss (Q : D → Prop), S__law_is_told_right ss Q → ss.length = 2 := sp_len
theorem sc_common : FnScope N_common ["one", "other"] (defScope s_common) := ⟨rfl, rfl, rfl, by decide +kernel, rfl, by decide +kernel, by decide +kernel⟩
theorem der_common {P : Program} {w : World} {K : PySem.W.Frag} {mg : Str → Option Value} {base : Heap} {f : Addr} {cdv : Value} {A : Around} {outer : List PySem.Env} {s : Shared} {c : C} (bl : Bl mg)  (hG : IsLst c) (hgd : A.guards = some []) (hr : Room 0 (A.deeper (envOfC "common" (defScope s_common) s.heap.objs.size f cdv))) : PSsd (XX P w K mg base N_common "common" s_common f cdv A outer s c.H0) c (defBody s_common) g_common := by
  have hN : (XX P w K mg base N_common "common" s_common f cdv A outer s c.H0).N.Nodup := sc_common.nd
  have hc : (XX P w K mg base N_common "common" s_common f cdv A outer s c.H0).calm = true := rfl
  have hx : ∀ e s1, ¬ (XX P w K mg base N_common "common" s_common f cdv A outer s c.H0).xe e s1 := fun _ _ z => z
  have hp : PassesOwn (model P w) (XX P w K mg base N_common "common" s_common f cdv A outer s c.H0).A (XX P w K mg base N_common "common" s_common f cdv A outer s c.H0).env (XX P w K mg base N_common "common" s_common f cdv A outer s c.H0).xe := PassesOwn.never
  have hu : (XX P w K mg base N_common "common" s_common f cdv A outer s c.H0).A.units + 64 < cLine := units_of hr
  exact (ss_cons (s_while hp (t_cmp o_gt (b_name 1) (PV.b v_int)) (ss_one (s_par 0 1 hc hN (m_v (v_name 1) (m_v (v_bin o_mod (b_name 0) (b_name 1)) m_nil))))) (ss_one (s_ret (v_name 0))))
theorem ok_common {P : Program} {w : World} {K : PySem.W.Frag} {mg : Str → Option Value} {base : Heap} {f : Addr} {fd : FuncData} (F : Fun K "common" "common" s_common f fd) (bl : Bl mg)  : FnG IsLst P w K mg base 1 f fd ["one", "other"] S_common :=
  fng_of F sc_common m_common l_common fun cdv A outer s c hG hgd hr => ⟨g_common, der_common bl  hG hgd hr, r_common⟩
theorem sc_whole_root : FnScope N_whole_root ["number"] (defScope s_whole_root) := ⟨rfl, rfl, rfl, by decide +kernel, rfl, by decide +kernel, by decide +kernel⟩
theorem der_whole_root {P : Program} {w : World} {K : PySem.W.Frag} {mg : Str → Option Value} {base : Heap} {f : Addr} {cdv : Value} {A : Around} {outer : List PySem.Env} {s : Shared} {c : C} (bl : Bl mg)  (hG : IsLst c) (hgd : A.guards = some []) (hr : Room 0 (A.deeper (envOfC "whole_root" (defScope s_whole_root) s.heap.objs.size f cdv))) : PSsd (XX P w K mg base N_whole_root "whole_root" s_whole_root f cdv A outer s c.H0) c (defBody s_whole_root) g_whole_root := by
  have hN : (XX P w K mg base N_whole_root "whole_root" s_whole_root f cdv A outer s c.H0).N.Nodup := sc_whole_root.nd
  have hc : (XX P w K mg base N_whole_root "whole_root" s_whole_root f cdv A outer s c.H0).calm = true := rfl
  have hx : ∀ e s1, ¬ (XX P w K mg base N_whole_root "whole_root" s_whole_root f cdv A outer s c.H0).xe e s1 := fun _ _ z => z
  have hp : PassesOwn (model P w) (XX P w K mg base N_whole_root "whole_root" s_whole_root f cdv A outer s c.H0).A (XX P w K mg base N_whole_root "whole_root" s_whole_root f cdv A outer s c.H0).env (XX P w K mg base N_whole_root "whole_root" s_whole_root f cdv A outer s c.H0).xe := PassesOwn.never
  have hu : (XX P w K mg base N_whole_root "whole_root" s_whole_root f cdv A outer s c.H0).A.units + 64 < cLine := units_of hr
  exact (ss_cons (s_if (t_cmp o_lt (b_name 0) (PV.b v_int)) (ss_one (s_ret (v_name 0))) ss_nil) (ss_cons (s_set 1 hN (v_bin o_shlW (PV.b v_int) (PV.b (v_bin o_div (PV.b (v_bin o_add (PV.b (v_bits (b_name 0))) (PV.b v_int))) (PV.b v_int))))) (ss_cons (s_set 2 hN (v_bin o_div (PV.b (v_bin o_add (b_name 1) (PV.b (v_bin o_div (b_name 0) (b_name 1))))) (PV.b v_int))) (ss_cons (s_while hp (t_cmp o_lt (b_name 2) (b_name 1)) (ss_one (s_par 1 2 hc hN (m_v (v_name 2) (m_v (v_bin o_div (PV.b (v_bin o_add (b_name 2) (PV.b (v_bin o_div (b_name 0) (b_name 2))))) (PV.b v_int)) m_nil))))) (ss_one (s_ret (v_name 1)))))))
theorem ok_whole_root {P : Program} {w : World} {K : PySem.W.Frag} {mg : Str → Option Value} {base : Heap} {f : Addr} {fd : FuncData} (F : Fun K "whole_root" "whole_root" s_whole_root f fd) (bl : Bl mg)  : FnG IsLst P w K mg base 1 f fd ["number"] S_whole_root :=
  fng_of F sc_whole_root m_whole_root l_whole_root fun cdv A outer s c hG hgd hr => ⟨g_whole_root, der_whole_root bl  hG hgd hr, r_whole_root⟩
theorem sc_surd_turned : FnScope N_surd_turned ["one"] (defScope s_surd_turned) := ⟨rfl, rfl, rfl, by decide +kernel, rfl, by decide +kernel, by decide +kernel⟩
theorem der_surd_turned {P : Program} {w : World} {K : PySem.W.Frag} {mg : Str → Option Value} {base : Heap} {f : Addr} {cdv : Value} {A : Around} {outer : List PySem.Env} {s : Shared} {c : C} (bl : Bl mg)  (hG : IsLst c) (hgd : A.guards = some []) (hr : Room 0 (A.deeper (envOfC "surd_turned" (defScope s_surd_turned) s.heap.objs.size f cdv))) : PSsd (XX P w K mg base N_surd_turned "surd_turned" s_surd_turned f cdv A outer s c.H0) c (defBody s_surd_turned) g_surd_turned := by
  have hN : (XX P w K mg base N_surd_turned "surd_turned" s_surd_turned f cdv A outer s c.H0).N.Nodup := sc_surd_turned.nd
  have hc : (XX P w K mg base N_surd_turned "surd_turned" s_surd_turned f cdv A outer s c.H0).calm = true := rfl
  have hx : ∀ e s1, ¬ (XX P w K mg base N_surd_turned "surd_turned" s_surd_turned f cdv A outer s c.H0).xe e s1 := fun _ _ z => z
  have hp : PassesOwn (model P w) (XX P w K mg base N_surd_turned "surd_turned" s_surd_turned f cdv A outer s c.H0).A (XX P w K mg base N_surd_turned "surd_turned" s_surd_turned f cdv A outer s c.H0).env (XX P w K mg base N_surd_turned "surd_turned" s_surd_turned f cdv A outer s c.H0).xe := PassesOwn.never
  have hu : (XX P w K mg base N_surd_turned "surd_turned" s_surd_turned f cdv A outer s c.H0).A.units + 64 < cLine := units_of hr
  exact (ss_one (s_ret (v_tup (d_cons (v_neg (PV.b (v_ix (b_name 0) (PV.b v_int)))) (d_cons (v_neg (PV.b (v_ix (b_name 0) (PV.b v_int)))) (d_cons (v_ix (b_name 0) (PV.b v_int)) (d_cons (v_ix (b_name 0) (PV.b v_int)) d_nil)))))))
theorem ok_surd_turned {P : Program} {w : World} {K : PySem.W.Frag} {mg : Str → Option Value} {base : Heap} {f : Addr} {fd : FuncData} (F : Fun K "surd_turned" "surd_turned" s_surd_turned f fd) (bl : Bl mg)  : FnG IsLst P w K mg base 1 f fd ["one"] S_surd_turned :=
  fng_of F sc_surd_turned m_surd_turned l_surd_turned fun cdv A outer s c hG hgd hr => ⟨g_surd_turned, der_surd_turned bl  hG hgd hr, r_surd_turned⟩
theorem sc_surd_sign : FnScope N_surd_sign ["one"] (defScope s_surd_sign) := ⟨rfl, rfl, rfl, by decide +kernel, rfl, by decide +kernel, by decide +kernel⟩
theorem der_surd_sign {P : Program} {w : World} {K : PySem.W.Frag} {mg : Str → Option Value} {base : Heap} {f : Addr} {cdv : Value} {A : Around} {outer : List PySem.Env} {s : Shared} {c : C} (bl : Bl mg)  (hG : IsLst c) (hgd : A.guards = some []) (hr : Room 0 (A.deeper (envOfC "surd_sign" (defScope s_surd_sign) s.heap.objs.size f cdv))) : PSsd (XX P w K mg base N_surd_sign "surd_sign" s_surd_sign f cdv A outer s c.H0) c (defBody s_surd_sign) g_surd_sign := by
  have hN : (XX P w K mg base N_surd_sign "surd_sign" s_surd_sign f cdv A outer s c.H0).N.Nodup := sc_surd_sign.nd
  have hc : (XX P w K mg base N_surd_sign "surd_sign" s_surd_sign f cdv A outer s c.H0).calm = true := rfl
  have hx : ∀ e s1, ¬ (XX P w K mg base N_surd_sign "surd_sign" s_surd_sign f cdv A outer s c.H0).xe e s1 := fun _ _ z => z
  have hp : PassesOwn (model P w) (XX P w K mg base N_surd_sign "surd_sign" s_surd_sign f cdv A outer s c.H0).A (XX P w K mg base N_surd_sign "surd_sign" s_surd_sign f cdv A outer s c.H0).env (XX P w K mg base N_surd_sign "surd_sign" s_surd_sign f cdv A outer s c.H0).xe := PassesOwn.never
  have hu : (XX P w K mg base N_surd_sign "surd_sign" s_surd_sign f cdv A outer s c.H0).A.units + 64 < cLine := units_of hr
  exact (ss_cons (s_par3 1 2 3 hc hN (m_v (v_ix (b_name 0) (PV.b v_int)) (m_v (v_ix (b_name 0) (PV.b v_int)) (m_v (v_ix (b_name 0) (PV.b v_int)) m_nil)))) (ss_cons (s_if (PWd.t (w_and (t_cmp o_ge (b_name 1) (PV.b v_int)) (w_and1 (t_cmp o_ge (b_name 2) (PV.b v_int))))) (ss_one (s_ret (v_if (t_cmp o_gt (PV.b (v_bin o_add (b_name 1) (b_name 2))) (PV.b v_int)) v_int v_int))) ss_nil) (ss_cons (s_if (PWd.t (w_and (t_cmp o_le (b_name 1) (PV.b v_int)) (w_and1 (t_cmp o_le (b_name 2) (PV.b v_int))))) (ss_one (s_ret (v_neg (PV.b v_int)))) ss_nil) (ss_one (s_ret (v_if (t_cmp (o_eq hu) (PV.b (v_cmp o_gt (PV.b (v_bin o_mul (b_name 1) (b_name 1))) (PV.b (v_bin o_mul (PV.b (v_bin o_mul (b_name 2) (b_name 2))) (b_name 3))))) (PV.b (v_cmp o_gt (b_name 1) (PV.b v_int)))) v_int (v_neg (PV.b v_int))))))))
theorem ok_surd_sign {P : Program} {w : World} {K : PySem.W.Frag} {mg : Str → Option Value} {base : Heap} {f : Addr} {fd : FuncData} (F : Fun K "surd_sign" "surd_sign" s_surd_sign f fd) (bl : Bl mg)  : FnG IsLst P w K mg base 1 f fd ["one"] S_surd_sign :=
  fng_of F sc_surd_sign m_surd_sign l_surd_sign fun cdv A outer s c hG hgd hr => ⟨g_surd_sign, der_surd_sign bl  hG hgd hr, r_surd_sign⟩
theorem sc__law_own_bag : FnScope N__law_own_bag ["script"] (defScope s__law_own_bag) := ⟨rfl, rfl, rfl, by decide +kernel, rfl, by decide +kernel, by decide +kernel⟩
theorem der__law_own_bag {P : Program} {w : World} {K : PySem.W.Frag} {mg : Str → Option Value} {base : Heap} {f : Addr} {cdv : Value} {A : Around} {outer : List PySem.Env} {s : Shared} {c : C} (bl : Bl mg)  (hG : GOwn K c) (hgd : A.guards = some []) (hr : Room 0 (A.deeper (envOfC "_law_own_bag" (defScope s__law_own_bag) s.heap.objs.size f cdv))) : PSsd (XX P w K mg base N__law_own_bag "_law_own_bag" s__law_own_bag f cdv A outer s c.H0) c (defBody s__law_own_bag) g__law_own_bag := by
  have hN : (XX P w K mg base N__law_own_bag "_law_own_bag" s__law_own_bag f cdv A outer s c.H0).N.Nodup := sc__law_own_bag.nd
  have hc : (XX P w K mg base N__law_own_bag "_law_own_bag" s__law_own_bag f cdv A outer s c.H0).calm = true := rfl
  have hx : ∀ e s1, ¬ (XX P w K mg base N__law_own_bag "_law_own_bag" s__law_own_bag f cdv A outer s c.H0).xe e s1 := fun _ _ z => z
  have hp : PassesOwn (model P w) (XX P w K mg base N__law_own_bag "_law_own_bag" s__law_own_bag f cdv A outer s c.H0).A (XX P w K mg base N__law_own_bag "_law_own_bag" s__law_own_bag f cdv A outer s c.H0).env (XX P w K mg base N__law_own_bag "_law_own_bag" s__law_own_bag f cdv A outer s c.H0).xe := PassesOwn.never
  have hu : (XX P w K mg base N__law_own_bag "_law_own_bag" s__law_own_bag f cdv A outer s c.H0).A.units + 64 < cLine := units_of hr
  exact (ss_cons (s_lc 1 hc hN (own := [("cell", 2)]) (by first | rfl | decide +kernel) (i_seq (PN.v (n_script (l := none) (h := some 63) hG po_n (po_s (PV.b v_int))))) (fun _ _ _ _ _ => (g_nm 2 (by exact hN))) (fun _ _ _ _ _ => ts_nil) (fun _ _ _ _ _ => (v_callB c_abs bl.abs (bb_cons (PV.b (v_callT c_int bl.int (bb_cons (b_name 2) bb_nil))) bb_nil)))) (ss_cons (s_set 3 hN (v_bin o_add (PV.b v_int) (PV.b (v_callB c_len bl.len (bb_cons (b_name 1) bb_nil))))) (ss_cons (s_frz 1 (s_for hp hc (i_seq (v_name 1)) (g_nm 2 hN) (ss_one (s_set 3 hN (v_bin o_mod (PV.b (v_bin o_add (PV.b (v_bin o_add (PV.b (v_bin o_mul (b_name 3) (PV.b v_int))) (PV.b (v_bin o_mod (b_name 2) (PV.b v_int))))) (PV.b v_int))) (PV.b v_int)))))) (ss_one (s_ret (PN.v (n_lst (d_cons (PN.v (n_listRev hc bl.list bl.reversed (PV.b (PN.v (n_list bl.list (b_name 1)))))) (d_cons v_int (d_cons (v_name 3) d_nil))))))))))
theorem ok__law_own_bag {P : Program} {w : World} {K : PySem.W.Frag} {mg : Str → Option Value} {base : Heap} {f : Addr} {fd : FuncData} (F : Fun K "_law_own_bag" "_law_own_bag" s__law_own_bag f fd) (bl : Bl mg)  : FnG (GOwn K) P w K mg base 1 f fd ["script"] S__law_own_bag :=
  fng_of F sc__law_own_bag m__law_own_bag l__law_own_bag fun cdv A outer s c hG hgd hr => ⟨g__law_own_bag, der__law_own_bag bl  hG hgd hr, r__law_own_bag⟩
theorem sc__law_like : FnScope N__law_like ["told", "due"] (defScope s__law_like) := ⟨rfl, rfl, rfl, by decide +kernel, rfl, by decide +kernel, by decide +kernel⟩
theorem der__law_like {P : Program} {w : World} {K : PySem.W.Frag} {mg : Str → Option Value} {base : Heap} {f : Addr} {cdv : Value} {A : Around} {outer : List PySem.Env} {s : Shared} {c : C} (bl : Bl mg)  (hG : IsLst c) (hgd : A.guards = some []) (hr : Room 0 (A.deeper (envOfC "_law_like" (defScope s__law_like) s.heap.objs.size f cdv))) : PSsd (XX P w K mg base N__law_like "_law_like" s__law_like f cdv A outer s c.H0) c (defBody s__law_like) g__law_like := by
  have hN : (XX P w K mg base N__law_like "_law_like" s__law_like f cdv A outer s c.H0).N.Nodup := sc__law_like.nd
  have hc : (XX P w K mg base N__law_like "_law_like" s__law_like f cdv A outer s c.H0).calm = true := rfl
  have hx : ∀ e s1, ¬ (XX P w K mg base N__law_like "_law_like" s__law_like f cdv A outer s c.H0).xe e s1 := fun _ _ z => z
  have hp : PassesOwn (model P w) (XX P w K mg base N__law_like "_law_like" s__law_like f cdv A outer s c.H0).A (XX P w K mg base N__law_like "_law_like" s__law_like f cdv A outer s c.H0).env (XX P w K mg base N__law_like "_law_like" s__law_like f cdv A outer s c.H0).xe := PassesOwn.never
  have hu : (XX P w K mg base N__law_like "_law_like" s__law_like f cdv A outer s c.H0).A.units + 64 < cLine := units_of hr
  exact (ss_one (s_ret (v_and (PV.b (v_cmp (o_eq hu) (b_name 0) (b_name 1))) (v_one (v_cmp (o_eq hu) (PV.b (v_callB (c_repr hgd hu) bl.repr (bb_cons (b_name 0) bb_nil))) (PV.b (v_callB (c_repr hgd hu) bl.repr (bb_cons (b_name 1) bb_nil))))))))
theorem ok__law_like {P : Program} {w : World} {K : PySem.W.Frag} {mg : Str → Option Value} {base : Heap} {f : Addr} {fd : FuncData} (F : Fun K "_law_like" "_law_like" s__law_like f fd) (bl : Bl mg)  : FnG IsLst P w K mg base 1 f fd ["told", "due"] S__law_like :=
  fng_of F sc__law_like m__law_like l__law_like fun cdv A outer s c hG hgd hr => ⟨g__law_like, der__law_like bl  hG hgd hr, r__law_like⟩
theorem sc__law_common : FnScope N__law_common ["one", "other"] (defScope s__law_common) := ⟨rfl, rfl, rfl, by decide +kernel, rfl, by decide +kernel, by decide +kernel⟩
theorem der__law_common {P : Program} {w : World} {K : PySem.W.Frag} {mg : Str → Option Value} {base : Heap} {f : Addr} {cdv : Value} {A : Around} {outer : List PySem.Env} {s : Shared} {c : C} (bl : Bl mg)  (hG : IsLst c) (hgd : A.guards = some []) (hr : Room 0 (A.deeper (envOfC "_law_common" (defScope s__law_common) s.heap.objs.size f cdv))) : PSsd (XX P w K mg base N__law_common "_law_common" s__law_common f cdv A outer s c.H0) c (defBody s__law_common) g__law_common := by
  have hN : (XX P w K mg base N__law_common "_law_common" s__law_common f cdv A outer s c.H0).N.Nodup := sc__law_common.nd
  have hc : (XX P w K mg base N__law_common "_law_common" s__law_common f cdv A outer s c.H0).calm = true := rfl
  have hx : ∀ e s1, ¬ (XX P w K mg base N__law_common "_law_common" s__law_common f cdv A outer s c.H0).xe e s1 := fun _ _ z => z
  have hp : PassesOwn (model P w) (XX P w K mg base N__law_common "_law_common" s__law_common f cdv A outer s c.H0).A (XX P w K mg base N__law_common "_law_common" s__law_common f cdv A outer s c.H0).env (XX P w K mg base N__law_common "_law_common" s__law_common f cdv A outer s c.H0).xe := PassesOwn.never
  have hu : (XX P w K mg base N__law_common "_law_common" s__law_common f cdv A outer s c.H0).A.units + 64 < cLine := units_of hr
  exact (ss_cons (s_while hp (t_cmp (o_ne hu) (b_name 1) (PV.b v_int)) (ss_one (s_par 0 1 hc hN (m_v (v_name 1) (m_v (v_bin o_mod (PV.b (v_callT c_int bl.int (bb_cons (b_name 0) bb_nil))) (b_name 1)) m_nil))))) (ss_one (s_ret (v_callB c_abs bl.abs (bb_cons (b_name 0) bb_nil)))))
theorem ok__law_common {P : Program} {w : World} {K : PySem.W.Frag} {mg : Str → Option Value} {base : Heap} {f : Addr} {fd : FuncData} (F : Fun K "_law_common" "_law_common" s__law_common f fd) (bl : Bl mg)  : FnG IsLst P w K mg base 1 f fd ["one", "other"] S__law_common :=
  fng_of F sc__law_common m__law_common l__law_common fun cdv A outer s c hG hgd hr => ⟨g__law_common, der__law_common bl  hG hgd hr, r__law_common⟩
theorem sc__law_root_of : FnScope N__law_root_of ["n"] (defScope s__law_root_of) := ⟨rfl, rfl, rfl, by decide +kernel, rfl, by decide +kernel, by decide +kernel⟩
theorem der__law_root_of {P : Program} {w : World} {K : PySem.W.Frag} {mg : Str → Option Value} {base : Heap} {f : Addr} {cdv : Value} {A : Around} {outer : List PySem.Env} {s : Shared} {c : C} (bl : Bl mg)  (hG : IsLst c) (hgd : A.guards = some []) (hr : Room 0 (A.deeper (envOfC "_law_root_of" (defScope s__law_root_of) s.heap.objs.size f cdv))) : PSsd (XX P w K mg base N__law_root_of "_law_root_of" s__law_root_of f cdv A outer s c.H0) c (defBody s__law_root_of) g__law_root_of := by
  have hN : (XX P w K mg base N__law_root_of "_law_root_of" s__law_root_of f cdv A outer s c.H0).N.Nodup := sc__law_root_of.nd
  have hc : (XX P w K mg base N__law_root_of "_law_root_of" s__law_root_of f cdv A outer s c.H0).calm = true := rfl
  have hx : ∀ e s1, ¬ (XX P w K mg base N__law_root_of "_law_root_of" s__law_root_of f cdv A outer s c.H0).xe e s1 := fun _ _ z => z
  have hp : PassesOwn (model P w) (XX P w K mg base N__law_root_of "_law_root_of" s__law_root_of f cdv A outer s c.H0).A (XX P w K mg base N__law_root_of "_law_root_of" s__law_root_of f cdv A outer s c.H0).env (XX P w K mg base N__law_root_of "_law_root_of" s__law_root_of f cdv A outer s c.H0).xe := PassesOwn.never
  have hu : (XX P w K mg base N__law_root_of "_law_root_of" s__law_root_of f cdv A outer s c.H0).A.units + 64 < cLine := units_of hr
  exact (ss_cons (s_if (t_cmp o_lt (b_name 0) (PV.b v_int)) (ss_one (s_ret (v_name 0))) ss_nil) (ss_cons (s_set 1 hN (v_bin o_shlW (PV.b v_int) (PV.b (v_bin o_div (PV.b (v_bin o_add (PV.b (v_bits (PV.b (v_callT c_int bl.int (bb_cons (b_name 0) bb_nil))))) (PV.b v_int))) (PV.b v_int))))) (ss_cons (s_for hp hc (i_rng1 bl.range (PV.b v_int)) (g_nm 2 hN) (ss_cons (s_set 3 hN (v_bin o_div (PV.b (v_bin o_add (b_name 1) (PV.b (v_bin o_div (b_name 0) (b_name 1))))) (PV.b v_int))) (ss_cons (s_if (t_cmp o_ge (b_name 3) (b_name 1)) (ss_one (s_ret (v_name 1))) ss_nil) (ss_one (s_set 1 hN (v_name 3)))))) (ss_one (s_ret (v_name 1))))))
theorem ok__law_root_of {P : Program} {w : World} {K : PySem.W.Frag} {mg : Str → Option Value} {base : Heap} {f : Addr} {fd : FuncData} (F : Fun K "_law_root_of" "_law_root_of" s__law_root_of f fd) (bl : Bl mg)  : FnG IsLst P w K mg base 1 f fd ["n"] S__law_root_of :=
  fng_of F sc__law_root_of m__law_root_of l__law_root_of fun cdv A outer s c hG hgd hr => ⟨g__law_root_of, der__law_root_of bl  hG hgd hr, r__law_root_of⟩
theorem sc__law_own_sign : FnScope N__law_own_sign ["a", "b", "d"] (defScope s__law_own_sign) := ⟨rfl, rfl, rfl, by decide +kernel, rfl, by decide +kernel, by decide +kernel⟩
theorem der__law_own_sign {P : Program} {w : World} {K : PySem.W.Frag} {mg : Str → Option Value} {base : Heap} {f : Addr} {cdv : Value} {A : Around} {outer : List PySem.Env} {s : Shared} {c : C} (bl : Bl mg)  (hG : IsLst c) (hgd : A.guards = some []) (hr : Room 0 (A.deeper (envOfC "_law_own_sign" (defScope s__law_own_sign) s.heap.objs.size f cdv))) : PSsd (XX P w K mg base N__law_own_sign "_law_own_sign" s__law_own_sign f cdv A outer s c.H0) c (defBody s__law_own_sign) g__law_own_sign := by
  have hN : (XX P w K mg base N__law_own_sign "_law_own_sign" s__law_own_sign f cdv A outer s c.H0).N.Nodup := sc__law_own_sign.nd
  have hc : (XX P w K mg base N__law_own_sign "_law_own_sign" s__law_own_sign f cdv A outer s c.H0).calm = true := rfl
  have hx : ∀ e s1, ¬ (XX P w K mg base N__law_own_sign "_law_own_sign" s__law_own_sign f cdv A outer s c.H0).xe e s1 := fun _ _ z => z
  have hp : PassesOwn (model P w) (XX P w K mg base N__law_own_sign "_law_own_sign" s__law_own_sign f cdv A outer s c.H0).A (XX P w K mg base N__law_own_sign "_law_own_sign" s__law_own_sign f cdv A outer s c.H0).env (XX P w K mg base N__law_own_sign "_law_own_sign" s__law_own_sign f cdv A outer s c.H0).xe := PassesOwn.never
  have hu : (XX P w K mg base N__law_own_sign "_law_own_sign" s__law_own_sign f cdv A outer s c.H0).A.units + 64 < cLine := units_of hr
  exact (ss_cons (s_if (PWd.t (w_and (t_cmp o_ge (b_name 0) (PV.b v_int)) (w_and1 (t_cmp o_ge (b_name 1) (PV.b v_int))))) (ss_one (s_ret (v_if (t_cmp o_gt (PV.b (v_bin o_add (b_name 0) (b_name 1))) (PV.b v_int)) v_int v_int))) ss_nil) (ss_cons (s_if (PWd.t (w_and (t_cmp o_le (b_name 0) (PV.b v_int)) (w_and1 (t_cmp o_le (b_name 1) (PV.b v_int))))) (ss_one (s_ret (v_neg (PV.b v_int)))) ss_nil) (ss_one (s_ret (v_if (t_cmp (o_eq hu) (PV.b (v_cmp o_gt (PV.b (v_bin o_mul (b_name 0) (b_name 0))) (PV.b (v_bin o_mul (PV.b (v_bin o_mul (b_name 1) (b_name 1))) (b_name 2))))) (PV.b (v_cmp o_gt (b_name 0) (PV.b v_int)))) v_int (v_neg (PV.b v_int)))))))
theorem ok__law_own_sign {P : Program} {w : World} {K : PySem.W.Frag} {mg : Str → Option Value} {base : Heap} {f : Addr} {fd : FuncData} (F : Fun K "_law_own_sign" "_law_own_sign" s__law_own_sign f fd) (bl : Bl mg)  : FnG IsLst P w K mg base 1 f fd ["a", "b", "d"] S__law_own_sign :=
  fng_of F sc__law_own_sign m__law_own_sign l__law_own_sign fun cdv A outer s c hG hgd hr => ⟨g__law_own_sign, der__law_own_sign bl  hG hgd hr, r__law_own_sign⟩
theorem sc_root_parts : FnScope N_root_parts ["number"] (defScope s_root_parts) := ⟨rfl, rfl, rfl, by decide +kernel, rfl, by decide +kernel, by decide +kernel⟩
theorem der_root_parts {P : Program} {w : World} {K : PySem.W.Frag} {mg : Str → Option Value} {base : Heap} {f : Addr} {cdv : Value} {A : Around} {outer : List PySem.Env} {s : Shared} {c : C} (bl : Bl mg) (C_whole_root : Kn P w K mg base 1 "whole_root" ["number"] S_whole_root) (hG : IsLst c) (hgd : A.guards = some []) (hr : Room 1 (A.deeper (envOfC "root_parts" (defScope s_root_parts) s.heap.objs.size f cdv))) : PSsd (XX P w K mg base N_root_parts "root_parts" s_root_parts f cdv A outer s c.H0) c (defBody s_root_parts) g_root_parts := by
  have hN : (XX P w K mg base N_root_parts "root_parts" s_root_parts f cdv A outer s c.H0).N.Nodup := sc_root_parts.nd
  have hc : (XX P w K mg base N_root_parts "root_parts" s_root_parts f cdv A outer s c.H0).calm = true := rfl
  have hx : ∀ e s1, ¬ (XX P w K mg base N_root_parts "root_parts" s_root_parts f cdv A outer s c.H0).xe e s1 := fun _ _ z => z
  have hp : PassesOwn (model P w) (XX P w K mg base N_root_parts "root_parts" s_root_parts f cdv A outer s c.H0).A (XX P w K mg base N_root_parts "root_parts" s_root_parts f cdv A outer s c.H0).env (XX P w K mg base N_root_parts "root_parts" s_root_parts f cdv A outer s c.H0).xe := PassesOwn.never
  have hu : (XX P w K mg base N_root_parts "root_parts" s_root_parts f cdv A outer s c.H0).A.units + 64 < cLine := units_of hr
  exact (ss_cons (s_if (t_cmp (o_eq hu) (b_name 0) (PV.b v_int)) (ss_one (s_ret (v_tup (d_cons v_int (d_cons v_int d_nil))))) ss_nil) (ss_cons (s_asg (v_tup (d_cons v_int (d_cons v_int (d_cons (v_name 0) (d_cons v_int d_nil))))) (g_sq hc (gs_cons (g_nm 1 hN) (gs_cons (g_nm 2 hN) (gs_cons (g_nm 3 hN) (gs_cons (g_nm 4 hN) gs_nil)))))) (ss_cons (s_while hp (t_cmp o_le (PV.b (v_bin o_mul (PV.b (v_bin o_mul (b_name 4) (b_name 4))) (b_name 4))) (b_name 3)) (ss_cons (s_set 5 hN v_int) (ss_cons (s_while hp (t_cmp (o_eq hu) (PV.b (v_bin o_mod (b_name 3) (b_name 4))) (PV.b v_int)) (ss_one (s_par 3 5 hc hN (m_v (v_bin o_div (b_name 3) (b_name 4)) (m_v (v_bin o_add (b_name 5) (PV.b v_int)) m_nil))))) (ss_cons (s_for hp hc (i_rng1 bl.range (PV.b (v_bin o_div (b_name 5) (PV.b v_int)))) (g_nm 6 hN) (ss_one (s_set 1 hN (v_bin o_mul (b_name 1) (b_name 4))))) (ss_cons (s_set 2 hN (v_if (t_cmp (o_eq hu) (PV.b (v_bin o_mod (b_name 5) (PV.b v_int))) (PV.b v_int)) (v_bin o_mul (b_name 2) (b_name 4)) (v_name 2))) (ss_one (s_set 4 hN (v_if (t_cmp (o_eq hu) (b_name 4) (PV.b v_int)) (v_bin o_add (b_name 4) (PV.b v_int)) (v_bin o_add (b_name 4) (PV.b v_int)))))))))) (ss_cons (s_set 7 hN (v_callX C_whole_root hG hgd hr (a_cons (v_name 3) a_nil))) (ss_cons (s_if (t_cmp (o_eq hu) (PV.b (v_bin o_mul (b_name 7) (b_name 7))) (b_name 3)) (ss_one (s_ret (v_tup (d_cons (v_bin o_mul (b_name 1) (b_name 7)) (d_cons (v_name 2) d_nil))))) ss_nil) (ss_one (s_ret (v_tup (d_cons (v_name 1) (d_cons (v_bin o_mul (b_name 2) (b_name 3)) d_nil))))))))))
theorem ok_root_parts {P : Program} {w : World} {K : PySem.W.Frag} {mg : Str → Option Value} {base : Heap} {f : Addr} {fd : FuncData} (F : Fun K "root_parts" "root_parts" s_root_parts f fd) (bl : Bl mg) (C_whole_root : Kn P w K mg base 1 "whole_root" ["number"] S_whole_root) : FnG IsLst P w K mg base 2 f fd ["number"] S_root_parts :=
  fng_of F sc_root_parts m_root_parts l_root_parts fun cdv A outer s c hG hgd hr => ⟨g_root_parts, der_root_parts bl C_whole_root hG hgd hr, r_root_parts⟩
theorem sc_lowest : FnScope N_lowest ["a", "b", "c", "d"] (defScope s_lowest) := ⟨rfl, rfl, rfl, by decide +kernel, rfl, by decide +kernel, by decide +kernel⟩
theorem der_lowest {P : Program} {w : World} {K : PySem.W.Frag} {mg : Str → Option Value} {base : Heap} {f : Addr} {cdv : Value} {A : Around} {outer : List PySem.Env} {s : Shared} {c : C} (bl : Bl mg) (C_common : Kn P w K mg base 1 "common" ["one", "other"] S_common) (hG : IsLst c) (hgd : A.guards = some []) (hr : Room 1 (A.deeper (envOfC "lowest" (defScope s_lowest) s.heap.objs.size f cdv))) : PSsd (XX P w K mg base N_lowest "lowest" s_lowest f cdv A outer s c.H0) c (defBody s_lowest) g_lowest := by
  have hN : (XX P w K mg base N_lowest "lowest" s_lowest f cdv A outer s c.H0).N.Nodup := sc_lowest.nd
  have hc : (XX P w K mg base N_lowest "lowest" s_lowest f cdv A outer s c.H0).calm = true := rfl
  have hx : ∀ e s1, ¬ (XX P w K mg base N_lowest "lowest" s_lowest f cdv A outer s c.H0).xe e s1 := fun _ _ z => z
  have hp : PassesOwn (model P w) (XX P w K mg base N_lowest "lowest" s_lowest f cdv A outer s c.H0).A (XX P w K mg base N_lowest "lowest" s_lowest f cdv A outer s c.H0).env (XX P w K mg base N_lowest "lowest" s_lowest f cdv A outer s c.H0).xe := PassesOwn.never
  have hu : (XX P w K mg base N_lowest "lowest" s_lowest f cdv A outer s c.H0).A.units + 64 < cLine := units_of hr
  exact (ss_cons (s_if (t_cmp o_lt (b_name 2) (PV.b v_int)) (ss_one (s_par3 0 1 2 hc hN (m_v (v_neg (b_name 0)) (m_v (v_neg (b_name 1)) (m_v (v_neg (b_name 2)) m_nil))))) ss_nil) (ss_cons (s_set 4 hN (v_callX C_common hG hgd hr (a_cons (v_callX C_common hG hgd hr (a_cons (v_callB c_abs bl.abs (bb_cons (b_name 0) bb_nil)) (a_cons (v_callB c_abs bl.abs (bb_cons (b_name 1) bb_nil)) a_nil))) (a_cons (v_name 2) a_nil)))) (ss_one (s_ret (v_tup (d_cons (v_bin o_div (b_name 0) (b_name 4)) (d_cons (v_bin o_div (b_name 1) (b_name 4)) (d_cons (v_bin o_div (b_name 2) (b_name 4)) (d_cons (v_if (t_cmp (o_ne hu) (b_name 1) (PV.b v_int)) (v_name 3) v_int) d_nil)))))))))
theorem ok_lowest {P : Program} {w : World} {K : PySem.W.Frag} {mg : Str → Option Value} {base : Heap} {f : Addr} {fd : FuncData} (F : Fun K "lowest" "lowest" s_lowest f fd) (bl : Bl mg) (C_common : Kn P w K mg base 1 "common" ["one", "other"] S_common) : FnG IsLst P w K mg base 2 f fd ["a", "b", "c", "d"] S_lowest :=
  fng_of F sc_lowest m_lowest l_lowest fun cdv A outer s c hG hgd hr => ⟨g_lowest, der_lowest bl C_common hG hgd hr, r_lowest⟩
theorem sc_whole_part : FnScope N_whole_part ["one"] (defScope s_whole_part) := ⟨rfl, rfl, rfl, by decide +kernel, rfl, by decide +kernel, by decide +kernel⟩
theorem der_whole_part {P : Program} {w : World} {K : PySem.W.Frag} {mg : Str → Option Value} {base : Heap} {f : Addr} {cdv : Value} {A : Around} {outer : List PySem.Env} {s : Shared} {c : C} (bl : Bl mg) (C_whole_root : Kn P w K mg base 1 "whole_root" ["number"] S_whole_root) (hG : IsLst c) (hgd : A.guards = some []) (hr : Room 1 (A.deeper (envOfC "whole_part" (defScope s_whole_part) s.heap.objs.size f cdv))) : PSsd (XX P w K mg base N_whole_part "whole_part" s_whole_part f cdv A outer s c.H0) c (defBody s_whole_part) g_whole_part := by
  have hN : (XX P w K mg base N_whole_part "whole_part" s_whole_part f cdv A outer s c.H0).N.Nodup := sc_whole_part.nd
  have hc : (XX P w K mg base N_whole_part "whole_part" s_whole_part f cdv A outer s c.H0).calm = true := rfl
  have hx : ∀ e s1, ¬ (XX P w K mg base N_whole_part "whole_part" s_whole_part f cdv A outer s c.H0).xe e s1 := fun _ _ z => z
  have hp : PassesOwn (model P w) (XX P w K mg base N_whole_part "whole_part" s_whole_part f cdv A outer s c.H0).A (XX P w K mg base N_whole_part "whole_part" s_whole_part f cdv A outer s c.H0).env (XX P w K mg base N_whole_part "whole_part" s_whole_part f cdv A outer s c.H0).xe := PassesOwn.never
  have hu : (XX P w K mg base N_whole_part "whole_part" s_whole_part f cdv A outer s c.H0).A.units + 64 < cLine := units_of hr
  exact (ss_cons (s_asg (v_name 0) (g_sq hc (gs_cons (g_nm 1 hN) (gs_cons (g_nm 2 hN) (gs_cons (g_nm 3 hN) (gs_cons (g_nm 4 hN) gs_nil)))))) (ss_cons (s_set 5 hN (v_callX C_whole_root hG hgd hr (a_cons (v_bin o_mul (PV.b (v_bin o_mul (b_name 2) (b_name 2))) (b_name 4)) a_nil))) (ss_one (s_ret (v_if (t_cmp o_ge (b_name 2) (PV.b v_int)) (v_bin o_div (PV.b (v_bin o_add (b_name 1) (b_name 5))) (b_name 3)) (v_bin o_div (PV.b (v_bin o_sub (PV.b (v_bin o_sub (b_name 1) (b_name 5))) (PV.b v_int))) (b_name 3)))))))
theorem ok_whole_part {P : Program} {w : World} {K : PySem.W.Frag} {mg : Str → Option Value} {base : Heap} {f : Addr} {fd : FuncData} (F : Fun K "whole_part" "whole_part" s_whole_part f fd) (bl : Bl mg) (C_whole_root : Kn P w K mg base 1 "whole_root" ["number"] S_whole_root) : FnG IsLst P w K mg base 2 f fd ["one"] S_whole_part :=
  fng_of F sc_whole_part m_whole_part l_whole_part fun cdv A outer s c hG hgd hr => ⟨g_whole_part, der_whole_part bl C_whole_root hG hgd hr, r_whole_part⟩
theorem sc__law_pick : FnScope N__law_pick ["bag", "some"] (defScope s__law_pick) := ⟨rfl, rfl, rfl, by decide +kernel, rfl, by decide +kernel, by decide +kernel⟩
theorem der__law_pick {P : Program} {w : World} {K : PySem.W.Frag} {mg : Str → Option Value} {base : Heap} {f : Addr} {cdv : Value} {A : Around} {outer : List PySem.Env} {s : Shared} {c : C} (bl : Bl mg) (C__law_draw : Kn P w K mg base 1 "_law_draw" ["bag", "below"] S__law_draw) (hG : IsLst c) (hgd : A.guards = some []) (hr : Room 1 (A.deeper (envOfC "_law_pick" (defScope s__law_pick) s.heap.objs.size f cdv))) : PSsd (XX P w K mg base N__law_pick "_law_pick" s__law_pick f cdv A outer s c.H0) c (defBody s__law_pick) g__law_pick := by
  have hN : (XX P w K mg base N__law_pick "_law_pick" s__law_pick f cdv A outer s c.H0).N.Nodup := sc__law_pick.nd
  have hc : (XX P w K mg base N__law_pick "_law_pick" s__law_pick f cdv A outer s c.H0).calm = true := rfl
  have hx : ∀ e s1, ¬ (XX P w K mg base N__law_pick "_law_pick" s__law_pick f cdv A outer s c.H0).xe e s1 := fun _ _ z => z
  have hp : PassesOwn (model P w) (XX P w K mg base N__law_pick "_law_pick" s__law_pick f cdv A outer s c.H0).A (XX P w K mg base N__law_pick "_law_pick" s__law_pick f cdv A outer s c.H0).env (XX P w K mg base N__law_pick "_law_pick" s__law_pick f cdv A outer s c.H0).xe := PassesOwn.never
  have hu : (XX P w K mg base N__law_pick "_law_pick" s__law_pick f cdv A outer s c.H0).A.units + 64 < cLine := units_of hr
  exact (ss_one (s_ret (v_ix (b_name 1) (PV.b (v_callX C__law_draw hG hgd hr (a_bag 0 (a_cons (v_callB c_len bl.len (bb_cons (b_name 1) bb_nil)) a_nil)))))))
theorem ok__law_pick {P : Program} {w : World} {K : PySem.W.Frag} {mg : Str → Option Value} {base : Heap} {f : Addr} {fd : FuncData} (F : Fun K "_law_pick" "_law_pick" s__law_pick f fd) (bl : Bl mg) (C__law_draw : Kn P w K mg base 1 "_law_draw" ["bag", "below"] S__law_draw) : FnG IsLst P w K mg base 2 f fd ["bag", "some"] S__law_pick :=
  fng_of F sc__law_pick m__law_pick l__law_pick fun cdv A outer s c hG hgd hr => ⟨g__law_pick, der__law_pick bl C__law_draw hG hgd hr, r__law_pick⟩
theorem sc__law_great : FnScope N__law_great ["bag", "below"] (defScope s__law_great) := ⟨rfl, rfl, rfl, by decide +kernel, rfl, by decide +kernel, by decide +kernel⟩
theorem der__law_great {P : Program} {w : World} {K : PySem.W.Frag} {mg : Str → Option Value} {base : Heap} {f : Addr} {cdv : Value} {A : Around} {outer : List PySem.Env} {s : Shared} {c : C} (bl : Bl mg) (C__law_draw : Kn P w K mg base 1 "_law_draw" ["bag", "below"] S__law_draw) (hG : IsLst c) (hgd : A.guards = some []) (hr : Room 1 (A.deeper (envOfC "_law_great" (defScope s__law_great) s.heap.objs.size f cdv))) : PSsd (XX P w K mg base N__law_great "_law_great" s__law_great f cdv A outer s c.H0) c (defBody s__law_great) g__law_great := by
  have hN : (XX P w K mg base N__law_great "_law_great" s__law_great f cdv A outer s c.H0).N.Nodup := sc__law_great.nd
  have hc : (XX P w K mg base N__law_great "_law_great" s__law_great f cdv A outer s c.H0).calm = true := rfl
  have hx : ∀ e s1, ¬ (XX P w K mg base N__law_great "_law_great" s__law_great f cdv A outer s c.H0).xe e s1 := fun _ _ z => z
  have hp : PassesOwn (model P w) (XX P w K mg base N__law_great "_law_great" s__law_great f cdv A outer s c.H0).A (XX P w K mg base N__law_great "_law_great" s__law_great f cdv A outer s c.H0).env (XX P w K mg base N__law_great "_law_great" s__law_great f cdv A outer s c.H0).xe := PassesOwn.never
  have hu : (XX P w K mg base N__law_great "_law_great" s__law_great f cdv A outer s c.H0).A.units + 64 < cLine := units_of hr
  exact (ss_cons (s_set 2 hN v_int) (ss_cons (s_for hp hc (i_rng1 bl.range (PV.b v_int)) (g_nm 3 hN) (ss_one (s_set 2 hN (v_bin o_add (PV.b (v_bin o_mul (b_name 2) (PV.b (v_bin o_pow (PV.b v_int) (PV.b v_int))))) (PV.b (v_callX C__law_draw hG hgd hr (a_bag 0 (a_cons (v_bin o_pow (PV.b v_int) (PV.b v_int)) a_nil)))))))) (ss_one (s_ret (v_bin o_mod (b_name 2) (b_name 1))))))
theorem ok__law_great {P : Program} {w : World} {K : PySem.W.Frag} {mg : Str → Option Value} {base : Heap} {f : Addr} {fd : FuncData} (F : Fun K "_law_great" "_law_great" s__law_great f fd) (bl : Bl mg) (C__law_draw : Kn P w K mg base 1 "_law_draw" ["bag", "below"] S__law_draw) : FnG IsLst P w K mg base 2 f fd ["bag", "below"] S__law_great :=
  fng_of F sc__law_great m__law_great l__law_great fun cdv A outer s c hG hgd hr => ⟨g__law_great, der__law_great bl C__law_draw hG hgd hr, r__law_great⟩
theorem sc__law_parts : FnScope N__law_parts ["d"] (defScope s__law_parts) := ⟨rfl, rfl, rfl, by decide +kernel, rfl, by decide +kernel, by decide +kernel⟩
theorem der__law_parts {P : Program} {w : World} {K : PySem.W.Frag} {mg : Str → Option Value} {base : Heap} {f : Addr} {cdv : Value} {A : Around} {outer : List PySem.Env} {s : Shared} {c : C} (bl : Bl mg) (C__law_root_of : Kn P w K mg base 1 "_law_root_of" ["n"] S__law_root_of) (hG : IsLst c) (hgd : A.guards = some []) (hr : Room 1 (A.deeper (envOfC "_law_parts" (defScope s__law_parts) s.heap.objs.size f cdv))) : PSsd (XX P w K mg base N__law_parts "_law_parts" s__law_parts f cdv A outer s c.H0) c (defBody s__law_parts) g__law_parts := by
  have hN : (XX P w K mg base N__law_parts "_law_parts" s__law_parts f cdv A outer s c.H0).N.Nodup := sc__law_parts.nd
  have hc : (XX P w K mg base N__law_parts "_law_parts" s__law_parts f cdv A outer s c.H0).calm = true := rfl
  have hx : ∀ e s1, ¬ (XX P w K mg base N__law_parts "_law_parts" s__law_parts f cdv A outer s c.H0).xe e s1 := fun _ _ z => z
  have hp : PassesOwn (model P w) (XX P w K mg base N__law_parts "_law_parts" s__law_parts f cdv A outer s c.H0).A (XX P w K mg base N__law_parts "_law_parts" s__law_parts f cdv A outer s c.H0).env (XX P w K mg base N__law_parts "_law_parts" s__law_parts f cdv A outer s c.H0).xe := PassesOwn.never
  have hu : (XX P w K mg base N__law_parts "_law_parts" s__law_parts f cdv A outer s c.H0).A.units + 64 < cLine := units_of hr
  exact (ss_cons (s_par3 1 2 3 hc hN (m_v v_int (m_v v_int (m_v (v_name 0) m_nil)))) (ss_cons (s_for hp hc (i_rng2 bl.range (PV.b v_int) (PV.b v_int)) (g_nm 4 hN) (ss_cons (s_while hp (t_cmp (o_eq hu) (PV.b (v_bin o_mod (b_name 3) (PV.b (v_bin o_mul (b_name 4) (b_name 4))))) (PV.b v_int)) (ss_one (s_par 1 3 hc hN (m_v (v_bin o_mul (b_name 1) (b_name 4)) (m_v (v_bin o_div (b_name 3) (PV.b (v_bin o_mul (b_name 4) (b_name 4)))) m_nil))))) (ss_one (s_if (t_cmp (o_eq hu) (PV.b (v_bin o_mod (b_name 3) (b_name 4))) (PV.b v_int)) (ss_one (s_par 2 3 hc hN (m_v (v_bin o_mul (b_name 2) (b_name 4)) (m_v (v_bin o_div (b_name 3) (b_name 4)) m_nil)))) ss_nil)))) (ss_cons (s_set 5 hN (v_callX C__law_root_of hG hgd hr (a_cons (v_name 3) a_nil))) (ss_one (s_ret (v_if (t_cmp (o_eq hu) (PV.b (v_bin o_mul (b_name 5) (b_name 5))) (b_name 3)) (v_tup (d_cons (v_bin o_mul (b_name 1) (b_name 5)) (d_cons (v_name 2) d_nil))) (v_tup (d_cons (v_name 1) (d_cons (v_bin o_mul (b_name 2) (b_name 3)) d_nil)))))))))
theorem ok__law_parts {P : Program} {w : World} {K : PySem.W.Frag} {mg : Str → Option Value} {base : Heap} {f : Addr} {fd : FuncData} (F : Fun K "_law_parts" "_law_parts" s__law_parts f fd) (bl : Bl mg) (C__law_root_of : Kn P w K mg base 1 "_law_root_of" ["n"] S__law_root_of) : FnG IsLst P w K mg base 2 f fd ["d"] S__law_parts :=
  fng_of F sc__law_parts m__law_parts l__law_parts fun cdv A outer s c hG hgd hr => ⟨g__law_parts, der__law_parts bl C__law_root_of hG hgd hr, r__law_parts⟩
theorem sc__law_surd : FnScope N__law_surd ["a", "b", "c", "d"] (defScope s__law_surd) := ⟨rfl, rfl, rfl, by decide +kernel, rfl, by decide +kernel, by decide +kernel⟩
theorem der__law_surd {P : Program} {w : World} {K : PySem.W.Frag} {mg : Str → Option Value} {base : Heap} {f : Addr} {cdv : Value} {A : Around} {outer : List PySem.Env} {s : Shared} {c : C} (bl : Bl mg) (C__law_common : Kn P w K mg base 1 "_law_common" ["one", "other"] S__law_common) (hG : IsLst c) (hgd : A.guards = some []) (hr : Room 1 (A.deeper (envOfC "_law_surd" (defScope s__law_surd) s.heap.objs.size f cdv))) : PSsd (XX P w K mg base N__law_surd "_law_surd" s__law_surd f cdv A outer s c.H0) c (defBody s__law_surd) g__law_surd := by
  have hN : (XX P w K mg base N__law_surd "_law_surd" s__law_surd f cdv A outer s c.H0).N.Nodup := sc__law_surd.nd
  have hc : (XX P w K mg base N__law_surd "_law_surd" s__law_surd f cdv A outer s c.H0).calm = true := rfl
  have hx : ∀ e s1, ¬ (XX P w K mg base N__law_surd "_law_surd" s__law_surd f cdv A outer s c.H0).xe e s1 := fun _ _ z => z
  have hp : PassesOwn (model P w) (XX P w K mg base N__law_surd "_law_surd" s__law_surd f cdv A outer s c.H0).A (XX P w K mg base N__law_surd "_law_surd" s__law_surd f cdv A outer s c.H0).env (XX P w K mg base N__law_surd "_law_surd" s__law_surd f cdv A outer s c.H0).xe := PassesOwn.never
  have hu : (XX P w K mg base N__law_surd "_law_surd" s__law_surd f cdv A outer s c.H0).A.units + 64 < cLine := units_of hr
  exact (ss_cons (s_set 4 hN (v_callX C__law_common hG hgd hr (a_cons (v_callX C__law_common hG hgd hr (a_cons (v_name 0) (a_cons (v_name 1) a_nil))) (a_cons (v_name 2) a_nil)))) (ss_cons (s_set 4 hN (v_if (t_cmp o_gt (b_name 2) (PV.b v_int)) (v_name 4) (v_neg (b_name 4)))) (ss_one (s_ret (v_tup (d_cons (v_bin o_div (b_name 0) (b_name 4)) (d_cons (v_bin o_div (b_name 1) (b_name 4)) (d_cons (v_bin o_div (b_name 2) (b_name 4)) (d_cons (v_if (t_cmp (o_ne hu) (b_name 1) (PV.b v_int)) (v_name 3) v_int) d_nil)))))))))
theorem ok__law_surd {P : Program} {w : World} {K : PySem.W.Frag} {mg : Str → Option Value} {base : Heap} {f : Addr} {fd : FuncData} (F : Fun K "_law_surd" "_law_surd" s__law_surd f fd) (bl : Bl mg) (C__law_common : Kn P w K mg base 1 "_law_common" ["one", "other"] S__law_common) : FnG IsLst P w K mg base 2 f fd ["a", "b", "c", "d"] S__law_surd :=
  fng_of F sc__law_surd m__law_surd l__law_surd fun cdv A outer s c hG hgd hr => ⟨g__law_surd, der__law_surd bl C__law_common hG hgd hr, r__law_surd⟩
theorem sc__law_own_whole : FnScope N__law_own_whole ["one"] (defScope s__law_own_whole) := ⟨rfl, rfl, rfl, by decide +kernel, rfl, by decide +kernel, by decide +kernel⟩
theorem der__law_own_whole {P : Program} {w : World} {K : PySem.W.Frag} {mg : Str → Option Value} {base : Heap} {f : Addr} {cdv : Value} {A : Around} {outer : List PySem.Env} {s : Shared} {c : C} (bl : Bl mg) (C__law_root_of : Kn P w K mg base 1 "_law_root_of" ["n"] S__law_root_of) (hG : IsLst c) (hgd : A.guards = some []) (hr : Room 1 (A.deeper (envOfC "_law_own_whole" (defScope s__law_own_whole) s.heap.objs.size f cdv))) : PSsd (XX P w K mg base N__law_own_whole "_law_own_whole" s__law_own_whole f cdv A outer s c.H0) c (defBody s__law_own_whole) g__law_own_whole := by
  have hN : (XX P w K mg base N__law_own_whole "_law_own_whole" s__law_own_whole f cdv A outer s c.H0).N.Nodup := sc__law_own_whole.nd
  have hc : (XX P w K mg base N__law_own_whole "_law_own_whole" s__law_own_whole f cdv A outer s c.H0).calm = true := rfl
  have hx : ∀ e s1, ¬ (XX P w K mg base N__law_own_whole "_law_own_whole" s__law_own_whole f cdv A outer s c.H0).xe e s1 := fun _ _ z => z
  have hp : PassesOwn (model P w) (XX P w K mg base N__law_own_whole "_law_own_whole" s__law_own_whole f cdv A outer s c.H0).A (XX P w K mg base N__law_own_whole "_law_own_whole" s__law_own_whole f cdv A outer s c.H0).env (XX P w K mg base N__law_own_whole "_law_own_whole" s__law_own_whole f cdv A outer s c.H0).xe := PassesOwn.never
  have hu : (XX P w K mg base N__law_own_whole "_law_own_whole" s__law_own_whole f cdv A outer s c.H0).A.units + 64 < cLine := units_of hr
  exact (ss_cons (s_asg (v_name 0) (g_sq hc (gs_cons (g_nm 1 hN) (gs_cons (g_nm 2 hN) (gs_cons (g_nm 3 hN) (gs_cons (g_nm 4 hN) gs_nil)))))) (ss_cons (s_set 5 hN (v_callX C__law_root_of hG hgd hr (a_cons (v_bin o_mul (PV.b (v_bin o_mul (b_name 2) (b_name 2))) (b_name 4)) a_nil))) (ss_one (s_ret (v_bin o_div (PV.b (v_bin o_add (b_name 1) (PV.b (v_if (t_cmp o_ge (b_name 2) (PV.b v_int)) (v_name 5) (v_bin o_sub (PV.b (v_neg (b_name 5))) (PV.b v_int)))))) (b_name 3))))))
theorem ok__law_own_whole {P : Program} {w : World} {K : PySem.W.Frag} {mg : Str → Option Value} {base : Heap} {f : Addr} {fd : FuncData} (F : Fun K "_law_own_whole" "_law_own_whole" s__law_own_whole f fd) (bl : Bl mg) (C__law_root_of : Kn P w K mg base 1 "_law_root_of" ["n"] S__law_root_of) : FnG IsLst P w K mg base 2 f fd ["one"] S__law_own_whole :=
  fng_of F sc__law_own_whole m__law_own_whole l__law_own_whole fun cdv A outer s c hG hgd hr => ⟨g__law_own_whole, der__law_own_whole bl C__law_root_of hG hgd hr, r__law_own_whole⟩
theorem sc__law_near : FnScope N__law_near ["bag", "root", "steps"] (defScope s__law_near) := ⟨rfl, rfl, rfl, by decide +kernel, rfl, by decide +kernel, by decide +kernel⟩
theorem der__law_near {P : Program} {w : World} {K : PySem.W.Frag} {mg : Str → Option Value} {base : Heap} {f : Addr} {cdv : Value} {A : Around} {outer : List PySem.Env} {s : Shared} {c : C} (bl : Bl mg) (C__law_root_of : Kn P w K mg base 1 "_law_root_of" ["n"] S__law_root_of) (hG : IsLst c) (hgd : A.guards = some []) (hr : Room 1 (A.deeper (envOfC "_law_near" (defScope s__law_near) s.heap.objs.size f cdv))) : PSsd (XX P w K mg base N__law_near "_law_near" s__law_near f cdv A outer s c.H0) c (defBody s__law_near) g__law_near := by
  have hN : (XX P w K mg base N__law_near "_law_near" s__law_near f cdv A outer s c.H0).N.Nodup := sc__law_near.nd
  have hc : (XX P w K mg base N__law_near "_law_near" s__law_near f cdv A outer s c.H0).calm = true := rfl
  have hx : ∀ e s1, ¬ (XX P w K mg base N__law_near "_law_near" s__law_near f cdv A outer s c.H0).xe e s1 := fun _ _ z => z
  have hp : PassesOwn (model P w) (XX P w K mg base N__law_near "_law_near" s__law_near f cdv A outer s c.H0).A (XX P w K mg base N__law_near "_law_near" s__law_near f cdv A outer s c.H0).env (XX P w K mg base N__law_near "_law_near" s__law_near f cdv A outer s c.H0).xe := PassesOwn.never
  have hu : (XX P w K mg base N__law_near "_law_near" s__law_near f cdv A outer s c.H0).A.units + 64 < cLine := units_of hr
  exact (ss_cons (s_set 3 hN (v_callX C__law_root_of hG hgd hr (a_cons (v_name 1) a_nil))) (ss_cons (s_par3 4 5 6 hc hN (m_v v_int (m_v v_int (m_v (v_name 3) m_nil)))) (ss_cons (s_asg (v_tup (d_cons v_int (d_cons v_int (d_cons (v_name 3) (d_cons v_int d_nil))))) (g_sq hc (gs_cons (g_nm 7 hN) (gs_cons (g_nm 8 hN) (gs_cons (g_nm 9 hN) (gs_cons (g_nm 10 hN) gs_nil)))))) (ss_cons (s_for hp hc (i_rng1 bl.range (b_name 2)) (g_nm 11 hN) (ss_cons (s_set 4 hN (v_bin o_sub (PV.b (v_bin o_mul (b_name 6) (b_name 5))) (b_name 4))) (ss_cons (s_set 5 hN (v_bin o_div (PV.b (v_bin o_sub (b_name 1) (PV.b (v_bin o_mul (b_name 4) (b_name 4))))) (b_name 5))) (ss_cons (s_set 6 hN (v_bin o_div (PV.b (v_bin o_add (b_name 3) (b_name 4))) (b_name 5))) (ss_cons (s_if (t_cmp o_gt (PV.b (v_bin o_add (PV.b (v_bin o_mul (b_name 6) (b_name 9))) (b_name 7))) (PV.b (v_bin o_mul (PV.b v_int) (PV.b (v_bin o_pow (PV.b v_int) (PV.b v_int)))))) (ss_one (s_ret (v_tup (d_cons (v_name 9) (d_cons (v_name 10) d_nil))))) ss_nil) (ss_one (s_asg (v_tup (d_cons (v_name 9) (d_cons (v_name 10) (d_cons (v_bin o_add (PV.b (v_bin o_mul (b_name 6) (b_name 9))) (b_name 7)) (d_cons (v_bin o_add (PV.b (v_bin o_mul (b_name 6) (b_name 10))) (b_name 8)) d_nil))))) (g_sq hc (gs_cons (g_nm 7 hN) (gs_cons (g_nm 8 hN) (gs_cons (g_nm 9 hN) (gs_cons (g_nm 10 hN) gs_nil)))))))))))) (ss_one (s_ret (v_tup (d_cons (v_name 9) (d_cons (v_name 10) d_nil)))))))))
theorem ok__law_near {P : Program} {w : World} {K : PySem.W.Frag} {mg : Str → Option Value} {base : Heap} {f : Addr} {fd : FuncData} (F : Fun K "_law_near" "_law_near" s__law_near f fd) (bl : Bl mg) (C__law_root_of : Kn P w K mg base 1 "_law_root_of" ["n"] S__law_root_of) : FnG IsLst P w K mg base 2 f fd ["bag", "root", "steps"] S__law_near :=
  fng_of F sc__law_near m__law_near l__law_near fun cdv A outer s c hG hgd hr => ⟨g__law_near, der__law_near bl C__law_root_of hG hgd hr, r__law_near⟩
theorem sc_surd_of : FnScope N_surd_of ["a", "b", "c", "d"] (defScope s_surd_of) := ⟨rfl, rfl, rfl, by decide +kernel, rfl, by decide +kernel, by decide +kernel⟩
theorem der_surd_of {P : Program} {w : World} {K : PySem.W.Frag} {mg : Str → Option Value} {base : Heap} {f : Addr} {cdv : Value} {A : Around} {outer : List PySem.Env} {s : Shared} {c : C} (bl : Bl mg) (C_root_parts : Kn P w K mg base 2 "root_parts" ["number"] S_root_parts) (C_lowest : Kn P w K mg base 2 "lowest" ["a", "b", "c", "d"] S_lowest) (hG : IsLst c) (hgd : A.guards = some []) (hr : Room 2 (A.deeper (envOfC "surd_of" (defScope s_surd_of) s.heap.objs.size f cdv))) : PSsd (XX P w K mg base N_surd_of "surd_of" s_surd_of f cdv A outer s c.H0) c (defBody s_surd_of) g_surd_of := by
  have hN : (XX P w K mg base N_surd_of "surd_of" s_surd_of f cdv A outer s c.H0).N.Nodup := sc_surd_of.nd
  have hc : (XX P w K mg base N_surd_of "surd_of" s_surd_of f cdv A outer s c.H0).calm = true := rfl
  have hx : ∀ e s1, ¬ (XX P w K mg base N_surd_of "surd_of" s_surd_of f cdv A outer s c.H0).xe e s1 := fun _ _ z => z
  have hp : PassesOwn (model P w) (XX P w K mg base N_surd_of "surd_of" s_surd_of f cdv A outer s c.H0).A (XX P w K mg base N_surd_of "surd_of" s_surd_of f cdv A outer s c.H0).env (XX P w K mg base N_surd_of "surd_of" s_surd_of f cdv A outer s c.H0).xe := PassesOwn.never
  have hu : (XX P w K mg base N_surd_of "surd_of" s_surd_of f cdv A outer s c.H0).A.units + 64 < cLine := units_of hr
  exact (ss_cons (s_asg (v_callX C_root_parts hG hgd hr (a_cons (v_name 3) a_nil)) (g_sq hc (gs_cons (g_nm 4 hN) (gs_cons (g_nm 5 hN) gs_nil)))) (ss_one (s_ret (v_if (t_cmp (o_eq hu) (b_name 5) (PV.b v_int)) (v_callX C_lowest hG hgd hr (a_cons (v_bin o_add (b_name 0) (PV.b (v_bin o_mul (b_name 1) (b_name 4)))) (a_cons v_int (a_cons (v_name 2) (a_cons v_int a_nil))))) (v_callX C_lowest hG hgd hr (a_cons (v_name 0) (a_cons (v_bin o_mul (b_name 1) (b_name 4)) (a_cons (v_name 2) (a_cons (v_name 5) a_nil)))))))))
theorem ok_surd_of {P : Program} {w : World} {K : PySem.W.Frag} {mg : Str → Option Value} {base : Heap} {f : Addr} {fd : FuncData} (F : Fun K "surd_of" "surd_of" s_surd_of f fd) (bl : Bl mg) (C_root_parts : Kn P w K mg base 2 "root_parts" ["number"] S_root_parts) (C_lowest : Kn P w K mg base 2 "lowest" ["a", "b", "c", "d"] S_lowest) : FnG IsLst P w K mg base 3 f fd ["a", "b", "c", "d"] S_surd_of :=
  fng_of F sc_surd_of m_surd_of l_surd_of fun cdv A outer s c hG hgd hr => ⟨g_surd_of, der_surd_of bl C_root_parts C_lowest hG hgd hr, r_surd_of⟩
theorem sc_surd_sum : FnScope N_surd_sum ["one", "other"] (defScope s_surd_sum) := ⟨rfl, rfl, rfl, by decide +kernel, rfl, by decide +kernel, by decide +kernel⟩
theorem der_surd_sum {P : Program} {w : World} {K : PySem.W.Frag} {mg : Str → Option Value} {base : Heap} {f : Addr} {cdv : Value} {A : Around} {outer : List PySem.Env} {s : Shared} {c : C} (bl : Bl mg) (C_lowest : Kn P w K mg base 2 "lowest" ["a", "b", "c", "d"] S_lowest) (hG : IsLst c) (hgd : A.guards = some []) (hr : Room 2 (A.deeper (envOfC "surd_sum" (defScope s_surd_sum) s.heap.objs.size f cdv))) : PSsd (XX P w K mg base N_surd_sum "surd_sum" s_surd_sum f cdv A outer s c.H0) c (defBody s_surd_sum) g_surd_sum := by
  have hN : (XX P w K mg base N_surd_sum "surd_sum" s_surd_sum f cdv A outer s c.H0).N.Nodup := sc_surd_sum.nd
  have hc : (XX P w K mg base N_surd_sum "surd_sum" s_surd_sum f cdv A outer s c.H0).calm = true := rfl
  have hx : ∀ e s1, ¬ (XX P w K mg base N_surd_sum "surd_sum" s_surd_sum f cdv A outer s c.H0).xe e s1 := fun _ _ z => z
  have hp : PassesOwn (model P w) (XX P w K mg base N_surd_sum "surd_sum" s_surd_sum f cdv A outer s c.H0).A (XX P w K mg base N_surd_sum "surd_sum" s_surd_sum f cdv A outer s c.H0).env (XX P w K mg base N_surd_sum "surd_sum" s_surd_sum f cdv A outer s c.H0).xe := PassesOwn.never
  have hu : (XX P w K mg base N_surd_sum "surd_sum" s_surd_sum f cdv A outer s c.H0).A.units + 64 < cLine := units_of hr
  exact (ss_cons (s_set 2 hN (v_bin o_add (PV.b (v_bin o_mul (PV.b (v_ix (b_name 0) (PV.b v_int))) (PV.b (v_ix (b_name 1) (PV.b v_int))))) (PV.b (v_bin o_mul (PV.b (v_ix (b_name 1) (PV.b v_int))) (PV.b (v_ix (b_name 0) (PV.b v_int))))))) (ss_one (s_ret (v_callX C_lowest hG hgd hr (a_cons (v_name 2) (a_cons (v_bin o_add (PV.b (v_bin o_mul (PV.b (v_ix (b_name 0) (PV.b v_int))) (PV.b (v_ix (b_name 1) (PV.b v_int))))) (PV.b (v_bin o_mul (PV.b (v_ix (b_name 1) (PV.b v_int))) (PV.b (v_ix (b_name 0) (PV.b v_int)))))) (a_cons (v_bin o_mul (PV.b (v_ix (b_name 0) (PV.b v_int))) (PV.b (v_ix (b_name 1) (PV.b v_int)))) (a_cons (v_callB (c_max2 hc) bl.max (bb_cons (PV.b (v_ix (b_name 0) (PV.b v_int))) (bb_cons (PV.b (v_ix (b_name 1) (PV.b v_int))) bb_nil))) a_nil))))))))
theorem ok_surd_sum {P : Program} {w : World} {K : PySem.W.Frag} {mg : Str → Option Value} {base : Heap} {f : Addr} {fd : FuncData} (F : Fun K "surd_sum" "surd_sum" s_surd_sum f fd) (bl : Bl mg) (C_lowest : Kn P w K mg base 2 "lowest" ["a", "b", "c", "d"] S_lowest) : FnG IsLst P w K mg base 3 f fd ["one", "other"] S_surd_sum :=
  fng_of F sc_surd_sum m_surd_sum l_surd_sum fun cdv A outer s c hG hgd hr => ⟨g_surd_sum, der_surd_sum bl C_lowest hG hgd hr, r_surd_sum⟩
theorem sc_surd_times : FnScope N_surd_times ["one", "other"] (defScope s_surd_times) := ⟨rfl, rfl, rfl, by decide +kernel, rfl, by decide +kernel, by decide +kernel⟩
theorem der_surd_times {P : Program} {w : World} {K : PySem.W.Frag} {mg : Str → Option Value} {base : Heap} {f : Addr} {cdv : Value} {A : Around} {outer : List PySem.Env} {s : Shared} {c : C} (bl : Bl mg) (C_lowest : Kn P w K mg base 2 "lowest" ["a", "b", "c", "d"] S_lowest) (hG : IsLst c) (hgd : A.guards = some []) (hr : Room 2 (A.deeper (envOfC "surd_times" (defScope s_surd_times) s.heap.objs.size f cdv))) : PSsd (XX P w K mg base N_surd_times "surd_times" s_surd_times f cdv A outer s c.H0) c (defBody s_surd_times) g_surd_times := by
  have hN : (XX P w K mg base N_surd_times "surd_times" s_surd_times f cdv A outer s c.H0).N.Nodup := sc_surd_times.nd
  have hc : (XX P w K mg base N_surd_times "surd_times" s_surd_times f cdv A outer s c.H0).calm = true := rfl
  have hx : ∀ e s1, ¬ (XX P w K mg base N_surd_times "surd_times" s_surd_times f cdv A outer s c.H0).xe e s1 := fun _ _ z => z
  have hp : PassesOwn (model P w) (XX P w K mg base N_surd_times "surd_times" s_surd_times f cdv A outer s c.H0).A (XX P w K mg base N_surd_times "surd_times" s_surd_times f cdv A outer s c.H0).env (XX P w K mg base N_surd_times "surd_times" s_surd_times f cdv A outer s c.H0).xe := PassesOwn.never
  have hu : (XX P w K mg base N_surd_times "surd_times" s_surd_times f cdv A outer s c.H0).A.units + 64 < cLine := units_of hr
  exact (ss_cons (s_set 2 hN (v_callB (c_max2 hc) bl.max (bb_cons (PV.b (v_ix (b_name 0) (PV.b v_int))) (bb_cons (PV.b (v_ix (b_name 1) (PV.b v_int))) bb_nil)))) (ss_cons (s_set 3 hN (v_bin o_add (PV.b (v_bin o_mul (PV.b (v_ix (b_name 0) (PV.b v_int))) (PV.b (v_ix (b_name 1) (PV.b v_int))))) (PV.b (v_bin o_mul (PV.b (v_bin o_mul (PV.b (v_ix (b_name 0) (PV.b v_int))) (PV.b (v_ix (b_name 1) (PV.b v_int))))) (b_name 2))))) (ss_one (s_ret (v_callX C_lowest hG hgd hr (a_cons (v_name 3) (a_cons (v_bin o_add (PV.b (v_bin o_mul (PV.b (v_ix (b_name 0) (PV.b v_int))) (PV.b (v_ix (b_name 1) (PV.b v_int))))) (PV.b (v_bin o_mul (PV.b (v_ix (b_name 0) (PV.b v_int))) (PV.b (v_ix (b_name 1) (PV.b v_int)))))) (a_cons (v_bin o_mul (PV.b (v_ix (b_name 0) (PV.b v_int))) (PV.b (v_ix (b_name 1) (PV.b v_int)))) (a_cons (v_name 2) a_nil)))))))))
theorem ok_surd_times {P : Program} {w : World} {K : PySem.W.Frag} {mg : Str → Option Value} {base : Heap} {f : Addr} {fd : FuncData} (F : Fun K "surd_times" "surd_times" s_surd_times f fd) (bl : Bl mg) (C_lowest : Kn P w K mg base 2 "lowest" ["a", "b", "c", "d"] S_lowest) : FnG IsLst P w K mg base 3 f fd ["one", "other"] S_surd_times :=
  fng_of F sc_surd_times m_surd_times l_surd_times fun cdv A outer s c hG hgd hr => ⟨g_surd_times, der_surd_times bl C_lowest hG hgd hr, r_surd_times⟩
theorem sc__law_square_free : FnScope N__law_square_free ["bag"] (defScope s__law_square_free) := ⟨rfl, rfl, rfl, by decide +kernel, rfl, by decide +kernel, by decide +kernel⟩
theorem der__law_square_free {P : Program} {w : World} {K : PySem.W.Frag} {mg : Str → Option Value} {base : Heap} {f : Addr} {cdv : Value} {A : Around} {outer : List PySem.Env} {s : Shared} {c : C} (bl : Bl mg) (C__law_draw : Kn P w K mg base 2 "_law_draw" ["bag", "below"] S__law_draw) (C__law_pick : Kn P w K mg base 2 "_law_pick" ["bag", "some"] S__law_pick) (C__law_parts : Kn P w K mg base 2 "_law_parts" ["d"] S__law_parts) (hG : IsLst c) (hgd : A.guards = some []) (hr : Room 2 (A.deeper (envOfC "_law_square_free" (defScope s__law_square_free) s.heap.objs.size f cdv))) : PSsd (XX P w K mg base N__law_square_free "_law_square_free" s__law_square_free f cdv A outer s c.H0) c (defBody s__law_square_free) g__law_square_free := by
  have hN : (XX P w K mg base N__law_square_free "_law_square_free" s__law_square_free f cdv A outer s c.H0).N.Nodup := sc__law_square_free.nd
  have hc : (XX P w K mg base N__law_square_free "_law_square_free" s__law_square_free f cdv A outer s c.H0).calm = true := rfl
  have hx : ∀ e s1, ¬ (XX P w K mg base N__law_square_free "_law_square_free" s__law_square_free f cdv A outer s c.H0).xe e s1 := fun _ _ z => z
  have hp : PassesOwn (model P w) (XX P w K mg base N__law_square_free "_law_square_free" s__law_square_free f cdv A outer s c.H0).A (XX P w K mg base N__law_square_free "_law_square_free" s__law_square_free f cdv A outer s c.H0).env (XX P w K mg base N__law_square_free "_law_square_free" s__law_square_free f cdv A outer s c.H0).xe := PassesOwn.never
  have hu : (XX P w K mg base N__law_square_free "_law_square_free" s__law_square_free f cdv A outer s c.H0).A.units + 64 < cLine := units_of hr
  exact (ss_cons (s_set 1 hN (v_callX C__law_draw hG hgd hr (a_bag 0 (a_cons v_int a_nil)))) (ss_cons (s_if (t_cmp (o_eq hu) (b_name 1) (PV.b v_int)) (ss_one (s_ret (v_callX C__law_pick hG hgd hr (a_bag 0 (a_cons (PN.v (n_lst (d_cons v_int (d_cons v_int (d_cons v_int (d_cons v_int (d_cons v_int (d_cons v_int (d_cons v_int (d_cons v_int (d_cons v_int (d_cons v_int d_nil)))))))))))) a_nil))))) ss_nil) (ss_cons (s_if (t_cmp (o_eq hu) (b_name 1) (PV.b v_int)) (ss_one (s_ret (v_callX C__law_pick hG hgd hr (a_bag 0 (a_cons (PN.v (n_lst (d_cons v_int (d_cons v_int (d_cons v_int (d_cons v_int (d_cons (v_bin o_add (PV.b (v_bin o_div (PV.b v_int) (PV.b v_int))) (PV.b v_int)) (d_cons v_int (d_cons (v_bin o_mul (PV.b v_int) (PV.b v_int)) (d_cons (v_bin o_mul (PV.b v_int) (PV.b v_int)) d_nil)))))))))) a_nil))))) ss_nil) (ss_cons (s_set 2 hN (v_ix (PV.b (v_callX C__law_parts hG hgd hr (a_cons (v_bin o_add (PV.b v_int) (PV.b (v_callX C__law_draw hG hgd hr (a_bag 0 (a_cons (v_bin o_sub (PV.b (v_bin o_pow (PV.b v_int) (PV.b v_int))) (PV.b v_int)) a_nil))))) a_nil))) (PV.b v_int))) (ss_one (s_ret (v_if (t_cmp o_gt (b_name 2) (PV.b v_int)) (v_name 2) v_int)))))))
theorem ok__law_square_free {P : Program} {w : World} {K : PySem.W.Frag} {mg : Str → Option Value} {base : Heap} {f : Addr} {fd : FuncData} (F : Fun K "_law_square_free" "_law_square_free" s__law_square_free f fd) (bl : Bl mg) (C__law_draw : Kn P w K mg base 2 "_law_draw" ["bag", "below"] S__law_draw) (C__law_pick : Kn P w K mg base 2 "_law_pick" ["bag", "some"] S__law_pick) (C__law_parts : Kn P w K mg base 2 "_law_parts" ["d"] S__law_parts) : FnG IsLst P w K mg base 3 f fd ["bag"] S__law_square_free :=
  fng_of F sc__law_square_free m__law_square_free l__law_square_free fun cdv A outer s c hG hgd hr => ⟨g__law_square_free, der__law_square_free bl C__law_draw C__law_pick C__law_parts hG hgd hr, r__law_square_free⟩
theorem sc__law_integer : FnScope N__law_integer ["bag"] (defScope s__law_integer) := ⟨rfl, rfl, rfl, by decide +kernel, rfl, by decide +kernel, by decide +kernel⟩
theorem der__law_integer {P : Program} {w : World} {K : PySem.W.Frag} {mg : Str → Option Value} {base : Heap} {f : Addr} {cdv : Value} {A : Around} {outer : List PySem.Env} {s : Shared} {c : C} (bl : Bl mg) (C__law_pick : Kn P w K mg base 2 "_law_pick" ["bag", "some"] S__law_pick) (C__law_great : Kn P w K mg base 2 "_law_great" ["bag", "below"] S__law_great) (C__law_draw : Kn P w K mg base 2 "_law_draw" ["bag", "below"] S__law_draw) (hG : IsLst c) (hgd : A.guards = some []) (hr : Room 2 (A.deeper (envOfC "_law_integer" (defScope s__law_integer) s.heap.objs.size f cdv))) : PSsd (XX P w K mg base N__law_integer "_law_integer" s__law_integer f cdv A outer s c.H0) c (defBody s__law_integer) g__law_integer := by
  have hN : (XX P w K mg base N__law_integer "_law_integer" s__law_integer f cdv A outer s c.H0).N.Nodup := sc__law_integer.nd
  have hc : (XX P w K mg base N__law_integer "_law_integer" s__law_integer f cdv A outer s c.H0).calm = true := rfl
  have hx : ∀ e s1, ¬ (XX P w K mg base N__law_integer "_law_integer" s__law_integer f cdv A outer s c.H0).xe e s1 := fun _ _ z => z
  have hp : PassesOwn (model P w) (XX P w K mg base N__law_integer "_law_integer" s__law_integer f cdv A outer s c.H0).A (XX P w K mg base N__law_integer "_law_integer" s__law_integer f cdv A outer s c.H0).env (XX P w K mg base N__law_integer "_law_integer" s__law_integer f cdv A outer s c.H0).xe := PassesOwn.never
  have hu : (XX P w K mg base N__law_integer "_law_integer" s__law_integer f cdv A outer s c.H0).A.units + 64 < cLine := units_of hr
  exact (ss_cons (s_set 1 hN (v_callX C__law_pick hG hgd hr (a_bag 0 (a_cons (PN.v (n_lst (d_cons v_int (d_cons v_int (d_cons v_int (d_cons v_int (d_cons (v_bin o_pow (PV.b v_int) (PV.b v_int)) (d_cons (v_bin o_pow (PV.b v_int) (PV.b v_int)) (d_cons (v_bin o_pow (PV.b v_int) (PV.b v_int)) (d_cons (v_bin o_pow (PV.b v_int) (PV.b v_int)) d_nil)))))))))) a_nil)))) (ss_cons (s_set 2 hN (v_callX C__law_great hG hgd hr (a_bag 0 (a_cons (v_bin o_add (b_name 1) (PV.b v_int)) a_nil)))) (ss_cons (s_if (t_cmp (o_eq hu) (PV.b (v_callX C__law_draw hG hgd hr (a_bag 0 (a_cons v_int a_nil)))) (PV.b v_int)) (ss_one (s_set 2 hN (v_bin o_pow (PV.b v_int) (PV.b v_int)))) ss_nil) (ss_one (s_ret (v_if (t_cmp (o_eq hu) (PV.b (v_callX C__law_draw hG hgd hr (a_bag 0 (a_cons v_int a_nil)))) (PV.b v_int)) (v_neg (b_name 2)) (v_name 2)))))))
theorem ok__law_integer {P : Program} {w : World} {K : PySem.W.Frag} {mg : Str → Option Value} {base : Heap} {f : Addr} {fd : FuncData} (F : Fun K "_law_integer" "_law_integer" s__law_integer f fd) (bl : Bl mg) (C__law_pick : Kn P w K mg base 2 "_law_pick" ["bag", "some"] S__law_pick) (C__law_great : Kn P w K mg base 2 "_law_great" ["bag", "below"] S__law_great) (C__law_draw : Kn P w K mg base 2 "_law_draw" ["bag", "below"] S__law_draw) : FnG IsLst P w K mg base 3 f fd ["bag"] S__law_integer :=
  fng_of F sc__law_integer m__law_integer l__law_integer fun cdv A outer s c hG hgd hr => ⟨g__law_integer, der__law_integer bl C__law_pick C__law_great C__law_draw hG hgd hr, r__law_integer⟩
theorem sc__law_own_sum : FnScope N__law_own_sum ["one", "other"] (defScope s__law_own_sum) := ⟨rfl, rfl, rfl, by decide +kernel, rfl, by decide +kernel, by decide +kernel⟩
theorem der__law_own_sum {P : Program} {w : World} {K : PySem.W.Frag} {mg : Str → Option Value} {base : Heap} {f : Addr} {cdv : Value} {A : Around} {outer : List PySem.Env} {s : Shared} {c : C} (bl : Bl mg) (C__law_surd : Kn P w K mg base 2 "_law_surd" ["a", "b", "c", "d"] S__law_surd) (hG : IsLst c) (hgd : A.guards = some []) (hr : Room 2 (A.deeper (envOfC "_law_own_sum" (defScope s__law_own_sum) s.heap.objs.size f cdv))) : PSsd (XX P w K mg base N__law_own_sum "_law_own_sum" s__law_own_sum f cdv A outer s c.H0) c (defBody s__law_own_sum) g__law_own_sum := by
  have hN : (XX P w K mg base N__law_own_sum "_law_own_sum" s__law_own_sum f cdv A outer s c.H0).N.Nodup := sc__law_own_sum.nd
  have hc : (XX P w K mg base N__law_own_sum "_law_own_sum" s__law_own_sum f cdv A outer s c.H0).calm = true := rfl
  have hx : ∀ e s1, ¬ (XX P w K mg base N__law_own_sum "_law_own_sum" s__law_own_sum f cdv A outer s c.H0).xe e s1 := fun _ _ z => z
  have hp : PassesOwn (model P w) (XX P w K mg base N__law_own_sum "_law_own_sum" s__law_own_sum f cdv A outer s c.H0).A (XX P w K mg base N__law_own_sum "_law_own_sum" s__law_own_sum f cdv A outer s c.H0).env (XX P w K mg base N__law_own_sum "_law_own_sum" s__law_own_sum f cdv A outer s c.H0).xe := PassesOwn.never
  have hu : (XX P w K mg base N__law_own_sum "_law_own_sum" s__law_own_sum f cdv A outer s c.H0).A.units + 64 < cLine := units_of hr
  exact (ss_cons (s_asg (v_name 0) (g_sq hc (gs_cons (g_nm 2 hN) (gs_cons (g_nm 3 hN) (gs_cons (g_nm 4 hN) (gs_cons (g_nm 5 hN) gs_nil)))))) (ss_cons (s_asg (v_name 1) (g_sq hc (gs_cons (g_nm 6 hN) (gs_cons (g_nm 7 hN) (gs_cons (g_nm 8 hN) (gs_cons (g_nm 9 hN) gs_nil)))))) (ss_one (s_ret (v_callX C__law_surd hG hgd hr (a_cons (v_bin o_add (PV.b (v_bin o_mul (b_name 2) (b_name 8))) (PV.b (v_bin o_mul (b_name 6) (b_name 4)))) (a_cons (v_bin o_add (PV.b (v_bin o_mul (b_name 3) (b_name 8))) (PV.b (v_bin o_mul (b_name 7) (b_name 4)))) (a_cons (v_bin o_mul (b_name 4) (b_name 8)) (a_cons (v_callB (c_max2 hc) bl.max (bb_cons (b_name 5) (bb_cons (b_name 9) bb_nil))) a_nil)))))))))
theorem ok__law_own_sum {P : Program} {w : World} {K : PySem.W.Frag} {mg : Str → Option Value} {base : Heap} {f : Addr} {fd : FuncData} (F : Fun K "_law_own_sum" "_law_own_sum" s__law_own_sum f fd) (bl : Bl mg) (C__law_surd : Kn P w K mg base 2 "_law_surd" ["a", "b", "c", "d"] S__law_surd) : FnG IsLst P w K mg base 3 f fd ["one", "other"] S__law_own_sum :=
  fng_of F sc__law_own_sum m__law_own_sum l__law_own_sum fun cdv A outer s c hG hgd hr => ⟨g__law_own_sum, der__law_own_sum bl C__law_surd hG hgd hr, r__law_own_sum⟩
theorem sc__law_own_times : FnScope N__law_own_times ["one", "other"] (defScope s__law_own_times) := ⟨rfl, rfl, rfl, by decide +kernel, rfl, by decide +kernel, by decide +kernel⟩
theorem der__law_own_times {P : Program} {w : World} {K : PySem.W.Frag} {mg : Str → Option Value} {base : Heap} {f : Addr} {cdv : Value} {A : Around} {outer : List PySem.Env} {s : Shared} {c : C} (bl : Bl mg) (C__law_surd : Kn P w K mg base 2 "_law_surd" ["a", "b", "c", "d"] S__law_surd) (hG : IsLst c) (hgd : A.guards = some []) (hr : Room 2 (A.deeper (envOfC "_law_own_times" (defScope s__law_own_times) s.heap.objs.size f cdv))) : PSsd (XX P w K mg base N__law_own_times "_law_own_times" s__law_own_times f cdv A outer s c.H0) c (defBody s__law_own_times) g__law_own_times := by
  have hN : (XX P w K mg base N__law_own_times "_law_own_times" s__law_own_times f cdv A outer s c.H0).N.Nodup := sc__law_own_times.nd
  have hc : (XX P w K mg base N__law_own_times "_law_own_times" s__law_own_times f cdv A outer s c.H0).calm = true := rfl
  have hx : ∀ e s1, ¬ (XX P w K mg base N__law_own_times "_law_own_times" s__law_own_times f cdv A outer s c.H0).xe e s1 := fun _ _ z => z
  have hp : PassesOwn (model P w) (XX P w K mg base N__law_own_times "_law_own_times" s__law_own_times f cdv A outer s c.H0).A (XX P w K mg base N__law_own_times "_law_own_times" s__law_own_times f cdv A outer s c.H0).env (XX P w K mg base N__law_own_times "_law_own_times" s__law_own_times f cdv A outer s c.H0).xe := PassesOwn.never
  have hu : (XX P w K mg base N__law_own_times "_law_own_times" s__law_own_times f cdv A outer s c.H0).A.units + 64 < cLine := units_of hr
  exact (ss_cons (s_asg (v_name 0) (g_sq hc (gs_cons (g_nm 2 hN) (gs_cons (g_nm 3 hN) (gs_cons (g_nm 4 hN) (gs_cons (g_nm 5 hN) gs_nil)))))) (ss_cons (s_asg (v_name 1) (g_sq hc (gs_cons (g_nm 6 hN) (gs_cons (g_nm 7 hN) (gs_cons (g_nm 8 hN) (gs_cons (g_nm 9 hN) gs_nil)))))) (ss_cons (s_set 10 hN (v_callB (c_max2 hc) bl.max (bb_cons (b_name 5) (bb_cons (b_name 9) bb_nil)))) (ss_one (s_ret (v_callX C__law_surd hG hgd hr (a_cons (v_bin o_add (PV.b (v_bin o_mul (b_name 2) (b_name 6))) (PV.b (v_bin o_mul (PV.b (v_bin o_mul (b_name 3) (b_name 7))) (b_name 10)))) (a_cons (v_bin o_add (PV.b (v_bin o_mul (b_name 2) (b_name 7))) (PV.b (v_bin o_mul (b_name 3) (b_name 6)))) (a_cons (v_bin o_mul (b_name 4) (b_name 8)) (a_cons (v_name 10) a_nil))))))))))
theorem ok__law_own_times {P : Program} {w : World} {K : PySem.W.Frag} {mg : Str → Option Value} {base : Heap} {f : Addr} {fd : FuncData} (F : Fun K "_law_own_times" "_law_own_times" s__law_own_times f fd) (bl : Bl mg) (C__law_surd : Kn P w K mg base 2 "_law_surd" ["a", "b", "c", "d"] S__law_surd) : FnG IsLst P w K mg base 3 f fd ["one", "other"] S__law_own_times :=
  fng_of F sc__law_own_times m__law_own_times l__law_own_times fun cdv A outer s c hG hgd hr => ⟨g__law_own_times, der__law_own_times bl C__law_surd hG hgd hr, r__law_own_times⟩
theorem sc_surd_order : FnScope N_surd_order ["one", "other"] (defScope s_surd_order) := ⟨rfl, rfl, rfl, by decide +kernel, rfl, by decide +kernel, by decide +kernel⟩
theorem der_surd_order {P : Program} {w : World} {K : PySem.W.Frag} {mg : Str → Option Value} {base : Heap} {f : Addr} {cdv : Value} {A : Around} {outer : List PySem.Env} {s : Shared} {c : C} (bl : Bl mg) (C_surd_sign : Kn P w K mg base 3 "surd_sign" ["one"] S_surd_sign) (C_surd_sum : Kn P w K mg base 3 "surd_sum" ["one", "other"] S_surd_sum) (C_surd_turned : Kn P w K mg base 3 "surd_turned" ["one"] S_surd_turned) (hG : IsLst c) (hgd : A.guards = some []) (hr : Room 3 (A.deeper (envOfC "surd_order" (defScope s_surd_order) s.heap.objs.size f cdv))) : PSsd (XX P w K mg base N_surd_order "surd_order" s_surd_order f cdv A outer s c.H0) c (defBody s_surd_order) g_surd_order := by
  have hN : (XX P w K mg base N_surd_order "surd_order" s_surd_order f cdv A outer s c.H0).N.Nodup := sc_surd_order.nd
  have hc : (XX P w K mg base N_surd_order "surd_order" s_surd_order f cdv A outer s c.H0).calm = true := rfl
  have hx : ∀ e s1, ¬ (XX P w K mg base N_surd_order "surd_order" s_surd_order f cdv A outer s c.H0).xe e s1 := fun _ _ z => z
  have hp : PassesOwn (model P w) (XX P w K mg base N_surd_order "surd_order" s_surd_order f cdv A outer s c.H0).A (XX P w K mg base N_surd_order "surd_order" s_surd_order f cdv A outer s c.H0).env (XX P w K mg base N_surd_order "surd_order" s_surd_order f cdv A outer s c.H0).xe := PassesOwn.never
  have hu : (XX P w K mg base N_surd_order "surd_order" s_surd_order f cdv A outer s c.H0).A.units + 64 < cLine := units_of hr
  exact (ss_one (s_ret (v_callX C_surd_sign hG hgd hr (a_cons (v_callX C_surd_sum hG hgd hr (a_cons (v_name 0) (a_cons (v_callX C_surd_turned hG hgd hr (a_cons (v_name 1) a_nil)) a_nil))) a_nil))))
theorem ok_surd_order {P : Program} {w : World} {K : PySem.W.Frag} {mg : Str → Option Value} {base : Heap} {f : Addr} {fd : FuncData} (F : Fun K "surd_order" "surd_order" s_surd_order f fd) (bl : Bl mg) (C_surd_sign : Kn P w K mg base 3 "surd_sign" ["one"] S_surd_sign) (C_surd_sum : Kn P w K mg base 3 "surd_sum" ["one", "other"] S_surd_sum) (C_surd_turned : Kn P w K mg base 3 "surd_turned" ["one"] S_surd_turned) : FnG IsLst P w K mg base 4 f fd ["one", "other"] S_surd_order :=
  fng_of F sc_surd_order m_surd_order l_surd_order fun cdv A outer s c hG hgd hr => ⟨g_surd_order, der_surd_order bl C_surd_sign C_surd_sum C_surd_turned hG hgd hr, r_surd_order⟩
theorem sc__law_due : FnScope N__law_due ["word", "row"] (defScope s__law_due) := ⟨rfl, rfl, rfl, by decide +kernel, rfl, by decide +kernel, by decide +kernel⟩
theorem der__law_due {P : Program} {w : World} {K : PySem.W.Frag} {mg : Str → Option Value} {base : Heap} {f : Addr} {cdv : Value} {A : Around} {outer : List PySem.Env} {s : Shared} {c : C} (bl : Bl mg) (C__law_own_sign : Kn P w K mg base 3 "_law_own_sign" ["a", "b", "d"] S__law_own_sign) (C__law_own_whole : Kn P w K mg base 3 "_law_own_whole" ["one"] S__law_own_whole) (C__law_own_sum : Kn P w K mg base 3 "_law_own_sum" ["one", "other"] S__law_own_sum) (C__law_own_times : Kn P w K mg base 3 "_law_own_times" ["one", "other"] S__law_own_times) (hG : IsLst c) (hgd : A.guards = some []) (hr : Room 3 (A.deeper (envOfC "_law_due" (defScope s__law_due) s.heap.objs.size f cdv))) : PSsd (XX P w K mg base N__law_due "_law_due" s__law_due f cdv A outer s c.H0) c (defBody s__law_due) g__law_due := by
  have hN : (XX P w K mg base N__law_due "_law_due" s__law_due f cdv A outer s c.H0).N.Nodup := sc__law_due.nd
  have hc : (XX P w K mg base N__law_due "_law_due" s__law_due f cdv A outer s c.H0).calm = true := rfl
  have hx : ∀ e s1, ¬ (XX P w K mg base N__law_due "_law_due" s__law_due f cdv A outer s c.H0).xe e s1 := fun _ _ z => z
  have hp : PassesOwn (model P w) (XX P w K mg base N__law_due "_law_due" s__law_due f cdv A outer s c.H0).A (XX P w K mg base N__law_due "_law_due" s__law_due f cdv A outer s c.H0).env (XX P w K mg base N__law_due "_law_due" s__law_due f cdv A outer s c.H0).xe := PassesOwn.never
  have hu : (XX P w K mg base N__law_due "_law_due" s__law_due f cdv A outer s c.H0).A.units + 64 < cLine := units_of hr
  exact (ss_cons (s_if (t_cmp (o_eq hu) (b_name 0) (PV.b v_str)) (ss_one (s_ret (v_tup (d_cons v_str (d_cons (v_callX C__law_own_sign hG hgd hr (a_cons (v_ix (PV.b (v_ix (b_name 1) (PV.b v_int))) (PV.b v_int)) (a_cons (v_ix (PV.b (v_ix (b_name 1) (PV.b v_int))) (PV.b v_int)) (a_cons (v_ix (PV.b (v_ix (b_name 1) (PV.b v_int))) (PV.b v_int)) a_nil)))) d_nil))))) ss_nil) (ss_cons (s_if (t_cmp (o_eq hu) (b_name 0) (PV.b v_str)) (ss_one (s_ret (v_tup (d_cons v_str (d_cons (v_callX C__law_own_whole hG hgd hr (a_cons (v_ix (b_name 1) (PV.b v_int)) a_nil)) d_nil))))) ss_nil) (ss_cons (s_if (t_cmp (o_eq hu) (b_name 0) (PV.b v_str)) (ss_one (s_ret (v_tup (d_cons v_str (d_cons (v_callX C__law_own_sum hG hgd hr (a_cons (v_ix (b_name 1) (PV.b v_int)) (a_cons (v_ix (b_name 1) (PV.b v_int)) a_nil))) d_nil))))) ss_nil) (ss_cons (s_if (t_cmp (o_eq hu) (b_name 0) (PV.b v_str)) (ss_one (s_ret (v_tup (d_cons v_str (d_cons (v_callX C__law_own_times hG hgd hr (a_cons (v_ix (b_name 1) (PV.b v_int)) (a_cons (v_ix (b_name 1) (PV.b v_int)) a_nil))) d_nil))))) ss_nil) (ss_cons (s_asg (v_ix (b_name 1) (PV.b v_int)) (g_sq hc (gs_cons (g_nm 2 hN) (gs_cons (g_nm 3 hN) (gs_cons (g_nm 4 hN) (gs_cons (g_nm 5 hN) gs_nil)))))) (ss_cons (s_set 6 hN (v_callX C__law_own_sum hG hgd hr (a_cons (v_ix (b_name 1) (PV.b v_int)) (a_cons (v_tup (d_cons (v_neg (b_name 2)) (d_cons (v_neg (b_name 3)) (d_cons (v_name 4) (d_cons (v_name 5) d_nil))))) a_nil)))) (ss_one (s_ret (v_tup (d_cons v_str (d_cons (v_callX C__law_own_sign hG hgd hr (a_cons (v_ix (b_name 6) (PV.b v_int)) (a_cons (v_ix (b_name 6) (PV.b v_int)) (a_cons (v_ix (b_name 6) (PV.b v_int)) a_nil)))) d_nil)))))))))))
theorem ok__law_due {P : Program} {w : World} {K : PySem.W.Frag} {mg : Str → Option Value} {base : Heap} {f : Addr} {fd : FuncData} (F : Fun K "_law_due" "_law_due" s__law_due f fd) (bl : Bl mg) (C__law_own_sign : Kn P w K mg base 3 "_law_own_sign" ["a", "b", "d"] S__law_own_sign) (C__law_own_whole : Kn P w K mg base 3 "_law_own_whole" ["one"] S__law_own_whole) (C__law_own_sum : Kn P w K mg base 3 "_law_own_sum" ["one", "other"] S__law_own_sum) (C__law_own_times : Kn P w K mg base 3 "_law_own_times" ["one", "other"] S__law_own_times) : FnG IsLst P w K mg base 4 f fd ["word", "row"] S__law_due :=
  fng_of F sc__law_due m__law_due l__law_due fun cdv A outer s c hG hgd hr => ⟨g__law_due, der__law_due bl C__law_own_sign C__law_own_whole C__law_own_sum C__law_own_times hG hgd hr, r__law_due⟩
theorem sc__law_handed : FnScope N__law_handed ["bag", "root"] (defScope s__law_handed) := ⟨rfl, rfl, rfl, by decide +kernel, rfl, by decide +kernel, by decide +kernel⟩
theorem der__law_handed {P : Program} {w : World} {K : PySem.W.Frag} {mg : Str → Option Value} {base : Heap} {f : Addr} {cdv : Value} {A : Around} {outer : List PySem.Env} {s : Shared} {c : C} (bl : Bl mg) (C__law_integer : Kn P w K mg base 3 "_law_integer" ["bag"] S__law_integer) (C__law_draw : Kn P w K mg base 3 "_law_draw" ["bag", "below"] S__law_draw) (C__law_surd : Kn P w K mg base 3 "_law_surd" ["a", "b", "c", "d"] S__law_surd) (hG : IsLst c) (hgd : A.guards = some []) (hr : Room 3 (A.deeper (envOfC "_law_handed" (defScope s__law_handed) s.heap.objs.size f cdv))) : PSsd (XX P w K mg base N__law_handed "_law_handed" s__law_handed f cdv A outer s c.H0) c (defBody s__law_handed) g__law_handed := by
  have hN : (XX P w K mg base N__law_handed "_law_handed" s__law_handed f cdv A outer s c.H0).N.Nodup := sc__law_handed.nd
  have hc : (XX P w K mg base N__law_handed "_law_handed" s__law_handed f cdv A outer s c.H0).calm = true := rfl
  have hx : ∀ e s1, ¬ (XX P w K mg base N__law_handed "_law_handed" s__law_handed f cdv A outer s c.H0).xe e s1 := fun _ _ z => z
  have hp : PassesOwn (model P w) (XX P w K mg base N__law_handed "_law_handed" s__law_handed f cdv A outer s c.H0).A (XX P w K mg base N__law_handed "_law_handed" s__law_handed f cdv A outer s c.H0).env (XX P w K mg base N__law_handed "_law_handed" s__law_handed f cdv A outer s c.H0).xe := PassesOwn.never
  have hu : (XX P w K mg base N__law_handed "_law_handed" s__law_handed f cdv A outer s c.H0).A.units + 64 < cLine := units_of hr
  exact (ss_cons (s_set 2 hN (v_callB (c_max2 hc) bl.max (bb_cons (PV.b v_int) (bb_cons (PV.b (v_callB c_abs bl.abs (bb_cons (PV.b (v_callX C__law_integer hG hgd hr (a_bag 0 a_nil))) bb_nil))) bb_nil)))) (ss_cons (s_set 3 hN (v_if (t_cmp (o_eq hu) (PV.b (v_callX C__law_draw hG hgd hr (a_bag 0 (a_cons v_int a_nil)))) (PV.b v_int)) v_int (v_callX C__law_integer hG hgd hr (a_bag 0 a_nil)))) (ss_one (s_ret (v_callX C__law_surd hG hgd hr (a_cons (v_callX C__law_integer hG hgd hr (a_bag 0 a_nil)) (a_cons (v_name 3) (a_cons (v_name 2) (a_cons (v_name 1) a_nil)))))))))
theorem ok__law_handed {P : Program} {w : World} {K : PySem.W.Frag} {mg : Str → Option Value} {base : Heap} {f : Addr} {fd : FuncData} (F : Fun K "_law_handed" "_law_handed" s__law_handed f fd) (bl : Bl mg) (C__law_integer : Kn P w K mg base 3 "_law_integer" ["bag"] S__law_integer) (C__law_draw : Kn P w K mg base 3 "_law_draw" ["bag", "below"] S__law_draw) (C__law_surd : Kn P w K mg base 3 "_law_surd" ["a", "b", "c", "d"] S__law_surd) : FnG IsLst P w K mg base 4 f fd ["bag", "root"] S__law_handed :=
  fng_of F sc__law_handed m__law_handed l__law_handed fun cdv A outer s c hG hgd hr => ⟨g__law_handed, der__law_handed bl C__law_integer C__law_draw C__law_surd hG hgd hr, r__law_handed⟩
theorem sc__law_near_asks : FnScope N__law_near_asks ["bag", "root"] (defScope s__law_near_asks) := ⟨rfl, rfl, rfl, by decide +kernel, rfl, by decide +kernel, by decide +kernel⟩
theorem der__law_near_asks {P : Program} {w : World} {K : PySem.W.Frag} {mg : Str → Option Value} {base : Heap} {f : Addr} {cdv : Value} {A : Around} {outer : List PySem.Env} {s : Shared} {c : C} (bl : Bl mg) (C__law_near : Kn P w K mg base 3 "_law_near" ["bag", "root", "steps"] S__law_near) (C__law_pick : Kn P w K mg base 3 "_law_pick" ["bag", "some"] S__law_pick) (C__law_draw : Kn P w K mg base 3 "_law_draw" ["bag", "below"] S__law_draw) (C__law_surd : Kn P w K mg base 3 "_law_surd" ["a", "b", "c", "d"] S__law_surd) (C__law_own_sum : Kn P w K mg base 3 "_law_own_sum" ["one", "other"] S__law_own_sum) (hG : IsLst c) (hgd : A.guards = some []) (hr : Room 3 (A.deeper (envOfC "_law_near_asks" (defScope s__law_near_asks) s.heap.objs.size f cdv))) : PSsd (XX P w K mg base N__law_near_asks "_law_near_asks" s__law_near_asks f cdv A outer s c.H0) c (defBody s__law_near_asks) g__law_near_asks := by
  have hN : (XX P w K mg base N__law_near_asks "_law_near_asks" s__law_near_asks f cdv A outer s c.H0).N.Nodup := sc__law_near_asks.nd
  have hc : (XX P w K mg base N__law_near_asks "_law_near_asks" s__law_near_asks f cdv A outer s c.H0).calm = true := rfl
  have hx : ∀ e s1, ¬ (XX P w K mg base N__law_near_asks "_law_near_asks" s__law_near_asks f cdv A outer s c.H0).xe e s1 := fun _ _ z => z
  have hp : PassesOwn (model P w) (XX P w K mg base N__law_near_asks "_law_near_asks" s__law_near_asks f cdv A outer s c.H0).A (XX P w K mg base N__law_near_asks "_law_near_asks" s__law_near_asks f cdv A outer s c.H0).env (XX P w K mg base N__law_near_asks "_law_near_asks" s__law_near_asks f cdv A outer s c.H0).xe := PassesOwn.never
  have hu : (XX P w K mg base N__law_near_asks "_law_near_asks" s__law_near_asks f cdv A outer s c.H0).A.units + 64 < cLine := units_of hr
  exact (ss_cons (s_setN 2 hN (n_lst d_nil)) (ss_cons (s_for hp hc (i_rng1 bl.range (PV.b v_int)) (g_nm 3 hN) (ss_cons (s_asg (v_callX C__law_near hG hgd hr (a_bag 0 (a_cons (v_name 1) (a_cons (v_callX C__law_pick hG hgd hr (a_bag 0 (a_cons (PN.v (n_lst (d_cons v_int (d_cons v_int (d_cons v_int (d_cons v_int (d_cons v_int (d_cons (v_callX C__law_draw hG hgd hr (a_bag 0 (a_cons v_int a_nil))) d_nil)))))))) a_nil))) a_nil)))) (g_sq hc (gs_cons (g_nm 4 hN) (gs_cons (g_nm 5 hN) gs_nil)))) (ss_cons (s_asg (v_callX C__law_near hG hgd hr (a_bag 0 (a_cons (v_name 1) (a_cons (v_callX C__law_pick hG hgd hr (a_bag 0 (a_cons (PN.v (n_lst (d_cons v_int (d_cons v_int (d_cons (v_callX C__law_draw hG hgd hr (a_bag 0 (a_cons v_int a_nil))) d_nil))))) a_nil))) a_nil)))) (g_sq hc (gs_cons (g_nm 6 hN) (gs_cons (g_nm 7 hN) gs_nil)))) (ss_cons (s_par3 8 9 10 hc hN (m_v (v_callX C__law_pick hG hgd hr (a_bag 0 (a_cons (PN.v (n_lst (d_cons v_int (d_cons (v_neg (PV.b v_int)) d_nil)))) a_nil))) (m_v (v_bin o_add (PV.b v_int) (PV.b (v_callX C__law_draw hG hgd hr (a_bag 0 (a_cons v_int a_nil))))) (m_v (v_bin o_sub (PV.b (v_callX C__law_draw hG hgd hr (a_bag 0 (a_cons v_int a_nil)))) (PV.b v_int)) m_nil)))) (ss_cons (s_par 11 12 hc hN (m_v (v_callX C__law_surd hG hgd hr (a_cons (v_bin o_mul (b_name 8) (b_name 4)) (a_cons (v_bin o_mul (PV.b (v_neg (b_name 8))) (b_name 5)) (a_cons (v_name 9) (a_cons (v_name 1) a_nil))))) (m_v (v_callX C__law_surd hG hgd hr (a_cons (v_name 6) (a_cons (v_neg (b_name 7)) (a_cons v_int (a_cons (v_name 1) a_nil))))) m_nil))) (ss_cons (s_set 13 hN (v_callX C__law_surd hG hgd hr (a_cons (v_bin o_add (PV.b (v_bin o_mul (b_name 8) (b_name 4))) (PV.b (v_bin o_mul (b_name 10) (b_name 9)))) (a_cons (v_bin o_mul (PV.b (v_neg (b_name 8))) (b_name 5)) (a_cons (v_name 9) (a_cons (v_name 1) a_nil)))))) (ss_cons (s_ext 2 (PV.b (PN.v (n_lst (d_cons (PN.v (n_lst (d_cons v_str (d_cons (PN.v (n_lst (d_cons (v_name 11) d_nil))) d_nil)))) (d_cons (PN.v (n_lst (d_cons v_str (d_cons (PN.v (n_lst (d_cons (v_name 11) d_nil))) d_nil)))) (d_cons (PN.v (n_lst (d_cons v_str (d_cons (PN.v (n_lst (d_cons (v_name 13) d_nil))) d_nil)))) (d_cons (PN.v (n_lst (d_cons v_str (d_cons (PN.v (n_lst (d_cons (v_name 11) (d_cons (v_name 12) d_nil)))) d_nil)))) d_nil)))))))) (ss_cons (s_ext 2 (PV.b (PN.v (n_lst (d_cons (PN.v (n_lst (d_cons v_str (d_cons (PN.v (n_lst (d_cons (v_name 12) (d_cons (v_name 11) d_nil)))) d_nil)))) (d_cons (PN.v (n_lst (d_cons v_str (d_cons (PN.v (n_lst (d_cons (v_name 13) (d_cons (v_tup (d_cons (v_name 10) (d_cons v_int (d_cons v_int (d_cons v_int d_nil))))) d_nil)))) d_nil)))) (d_cons (PN.v (n_lst (d_cons v_str (d_cons (PN.v (n_lst (d_cons (v_name 11) (d_cons (v_name 12) d_nil)))) d_nil)))) d_nil))))))) (ss_cons (s_ext 2 (PV.b (PN.v (n_lst (d_cons (PN.v (n_lst (d_cons v_str (d_cons (PN.v (n_lst (d_cons (v_tup (d_cons v_int (d_cons v_int (d_cons v_int (d_cons (v_name 1) d_nil))))) (d_cons (v_tup (d_cons (v_name 4) (d_cons v_int (d_cons (v_name 5) (d_cons v_int d_nil))))) d_nil)))) d_nil)))) (d_cons (PN.v (n_lst (d_cons v_str (d_cons (PN.v (n_lst (d_cons (v_tup (d_cons (v_name 4) (d_cons v_int (d_cons (v_name 5) (d_cons v_int d_nil))))) (d_cons (v_tup (d_cons v_int (d_cons v_int (d_cons v_int (d_cons (v_name 1) d_nil))))) d_nil)))) d_nil)))) d_nil)))))) (ss_cons (s_par3 14 15 16 hc hN (m_v (v_bin o_sub (PV.b (v_callX C__law_draw hG hgd hr (a_bag 0 (a_cons (v_bin o_pow (PV.b v_int) (PV.b v_int)) a_nil)))) (PV.b (v_bin o_pow (PV.b v_int) (PV.b v_int)))) (m_v (v_bin o_sub (PV.b (v_callX C__law_draw hG hgd hr (a_bag 0 (a_cons (v_bin o_pow (PV.b v_int) (PV.b v_int)) a_nil)))) (PV.b (v_bin o_pow (PV.b v_int) (PV.b v_int)))) (m_v (v_bin o_add (PV.b v_int) (PV.b (v_callX C__law_draw hG hgd hr (a_bag 0 (a_cons v_int a_nil))))) m_nil)))) (ss_cons (s_asg (v_callX C__law_near hG hgd hr (a_bag 0 (a_cons (v_name 1) (a_cons (v_callX C__law_draw hG hgd hr (a_bag 0 (a_cons v_int a_nil))) a_nil)))) (g_sq hc (gs_cons (g_nm 4 hN) (gs_cons (g_nm 5 hN) gs_nil)))) (ss_cons (s_set 17 hN (v_callX C__law_surd hG hgd hr (a_cons (v_name 14) (a_cons (v_name 15) (a_cons (v_name 16) (a_cons (v_name 1) a_nil)))))) (ss_one (s_if (t_cmp o_lt (b_name 4) (PV.b (v_bin o_pow (PV.b v_int) (PV.b v_int)))) (ss_cons (s_set 18 hN (v_callX C__law_own_sum hG hgd hr (a_cons (v_name 17) (a_cons (v_tup (d_cons (v_bin o_mul (b_name 8) (b_name 4)) (d_cons (v_bin o_mul (PV.b (v_neg (b_name 8))) (b_name 5)) (d_cons v_int (d_cons (v_name 1) d_nil))))) a_nil)))) (ss_one (s_ext 2 (PV.b (PN.v (n_lst (d_cons (PN.v (n_lst (d_cons v_str (d_cons (PN.v (n_lst (d_cons (v_name 17) (d_cons (v_name 18) d_nil)))) d_nil)))) (d_cons (PN.v (n_lst (d_cons v_str (d_cons (PN.v (n_lst (d_cons (v_name 18) (d_cons (v_name 17) d_nil)))) d_nil)))) (d_cons (PN.v (n_lst (d_cons v_str (d_cons (PN.v (n_lst (d_cons (v_name 18) (d_cons (v_name 17) d_nil)))) d_nil)))) d_nil))))))))) ss_nil)))))))))))))) (ss_one (s_frz 2 (s_ret (v_name 2))))))
theorem ok__law_near_asks {P : Program} {w : World} {K : PySem.W.Frag} {mg : Str → Option Value} {base : Heap} {f : Addr} {fd : FuncData} (F : Fun K "_law_near_asks" "_law_near_asks" s__law_near_asks f fd) (bl : Bl mg) (C__law_near : Kn P w K mg base 3 "_law_near" ["bag", "root", "steps"] S__law_near) (C__law_pick : Kn P w K mg base 3 "_law_pick" ["bag", "some"] S__law_pick) (C__law_draw : Kn P w K mg base 3 "_law_draw" ["bag", "below"] S__law_draw) (C__law_surd : Kn P w K mg base 3 "_law_surd" ["a", "b", "c", "d"] S__law_surd) (C__law_own_sum : Kn P w K mg base 3 "_law_own_sum" ["one", "other"] S__law_own_sum) : FnG IsLst P w K mg base 4 f fd ["bag", "root"] S__law_near_asks :=
  fng_of F sc__law_near_asks m__law_near_asks l__law_near_asks fun cdv A outer s c hG hgd hr => ⟨g__law_near_asks, der__law_near_asks bl C__law_near C__law_pick C__law_draw C__law_surd C__law_own_sum hG hgd hr, r__law_near_asks⟩
theorem sc__law_told : FnScope N__law_told ["word", "row", "is_named"] (defScope s__law_told) := ⟨rfl, rfl, rfl, by decide +kernel, rfl, by decide +kernel, by decide +kernel⟩
theorem der__law_told {P : Program} {w : World} {K : PySem.W.Frag} {mg : Str → Option Value} {base : Heap} {f : Addr} {cdv : Value} {A : Around} {outer : List PySem.Env} {s : Shared} {c : C} (bl : Bl mg) (C_surd_sign : Kn P w K mg base 4 "surd_sign" ["one"] S_surd_sign) (C_surd_order : Kn P w K mg base 4 "surd_order" ["one", "other"] S_surd_order) (C_whole_part : Kn P w K mg base 4 "whole_part" ["one"] S_whole_part) (C_surd_sum : Kn P w K mg base 4 "surd_sum" ["one", "other"] S_surd_sum) (C_surd_turned : Kn P w K mg base 4 "surd_turned" ["one"] S_surd_turned) (C_surd_of : Kn P w K mg base 4 "surd_of" ["a", "b", "c", "d"] S_surd_of) (C_surd_times : Kn P w K mg base 4 "surd_times" ["one", "other"] S_surd_times) (K_surd_sign_one : KnK P w K mg base 4 "surd_sign" ["one"] ["one"] [0] S_surd_sign) (K_surd_order_other_one : KnK P w K mg base 4 "surd_order" ["one", "other"] ["other", "one"] [1, 0] S_surd_order) (K_whole_part_one : KnK P w K mg base 4 "whole_part" ["one"] ["one"] [0] S_whole_part) (hG : IsLst c) (hgd : A.guards = some []) (hr : Room 4 (A.deeper (envOfC "_law_told" (defScope s__law_told) s.heap.objs.size f cdv))) : PSsd (XX P w K mg base N__law_told "_law_told" s__law_told f cdv A outer s c.H0) c (defBody s__law_told) g__law_told := by
  have hN : (XX P w K mg base N__law_told "_law_told" s__law_told f cdv A outer s c.H0).N.Nodup := sc__law_told.nd
  have hc : (XX P w K mg base N__law_told "_law_told" s__law_told f cdv A outer s c.H0).calm = true := rfl
  have hx : ∀ e s1, ¬ (XX P w K mg base N__law_told "_law_told" s__law_told f cdv A outer s c.H0).xe e s1 := fun _ _ z => z
  have hp : PassesOwn (model P w) (XX P w K mg base N__law_told "_law_told" s__law_told f cdv A outer s c.H0).A (XX P w K mg base N__law_told "_law_told" s__law_told f cdv A outer s c.H0).env (XX P w K mg base N__law_told "_law_told" s__law_told f cdv A outer s c.H0).xe := PassesOwn.never
  have hu : (XX P w K mg base N__law_told "_law_told" s__law_told f cdv A outer s c.H0).A.units + 64 < cLine := units_of hr
  exact (ss_one (s_tryN hx (ss_cons (s_if (t_cmp (o_eq hu) (b_name 0) (PV.b v_str)) (ss_one (s_ret (v_tup (d_cons v_str (d_cons (v_if (t_val (b_name 2)) (v_callKX K_surd_sign_one hG hgd hr (k_cons (v_ix (b_name 1) (PV.b v_int)) k_nil)) (v_callX C_surd_sign hG hgd hr (a_cons (v_ix (b_name 1) (PV.b v_int)) a_nil))) d_nil))))) ss_nil) (ss_cons (s_if (t_cmp (o_eq hu) (b_name 0) (PV.b v_str)) (ss_one (s_ret (v_tup (d_cons v_str (d_cons (v_if (t_val (b_name 2)) (v_callKX K_surd_order_other_one hG hgd hr (k_cons (v_ix (b_name 1) (PV.b v_int)) (k_cons (v_ix (b_name 1) (PV.b v_int)) k_nil))) (v_callX C_surd_order hG hgd hr (a_cons (v_ix (b_name 1) (PV.b v_int)) (a_cons (v_ix (b_name 1) (PV.b v_int)) a_nil)))) d_nil))))) ss_nil) (ss_cons (s_if (t_cmp (o_eq hu) (b_name 0) (PV.b v_str)) (ss_one (s_ret (v_tup (d_cons v_str (d_cons (v_if (t_val (b_name 2)) (v_callKX K_whole_part_one hG hgd hr (k_cons (v_ix (b_name 1) (PV.b v_int)) k_nil)) (v_callX C_whole_part hG hgd hr (a_cons (v_ix (b_name 1) (PV.b v_int)) a_nil))) d_nil))))) ss_nil) (ss_cons (s_if (t_cmp (o_eq hu) (b_name 0) (PV.b v_str)) (ss_one (s_ret (v_tup (d_cons v_str (d_cons (v_callX C_surd_sign hG hgd hr (a_cons (v_callX C_surd_sum hG hgd hr (a_cons (v_ix (b_name 1) (PV.b v_int)) (a_cons (v_callX C_surd_turned hG hgd hr (a_cons (v_ix (b_name 1) (PV.b v_int)) a_nil)) a_nil))) a_nil)) d_nil))))) ss_nil) (ss_cons (s_if (t_cmp (o_eq hu) (b_name 0) (PV.b v_str)) (ss_one (s_ret (v_tup (d_cons v_str (d_cons (v_callX C_surd_of hG hgd hr (a_cons (v_ix (b_name 1) (PV.b v_int)) (a_cons (v_ix (b_name 1) (PV.b v_int)) (a_cons (v_ix (b_name 1) (PV.b v_int)) (a_cons (v_ix (b_name 1) (PV.b v_int)) a_nil))))) d_nil))))) ss_nil) (ss_cons (s_if (t_cmp (o_eq hu) (b_name 0) (PV.b v_str)) (ss_one (s_ret (v_tup (d_cons v_str (d_cons (v_callX C_surd_sum hG hgd hr (a_cons (v_ix (b_name 1) (PV.b v_int)) (a_cons (v_ix (b_name 1) (PV.b v_int)) a_nil))) d_nil))))) ss_nil) (ss_one (s_ret (v_tup (d_cons v_str (d_cons (v_callX C_surd_times hG hgd hr (a_cons (v_ix (b_name 1) (PV.b v_int)) (a_cons (v_ix (b_name 1) (PV.b v_int)) a_nil))) d_nil)))))))))))))
theorem ok__law_told {P : Program} {w : World} {K : PySem.W.Frag} {mg : Str → Option Value} {base : Heap} {f : Addr} {fd : FuncData} (F : Fun K "_law_told" "_law_told" s__law_told f fd) (bl : Bl mg) (C_surd_sign : Kn P w K mg base 4 "surd_sign" ["one"] S_surd_sign) (C_surd_order : Kn P w K mg base 4 "surd_order" ["one", "other"] S_surd_order) (C_whole_part : Kn P w K mg base 4 "whole_part" ["one"] S_whole_part) (C_surd_sum : Kn P w K mg base 4 "surd_sum" ["one", "other"] S_surd_sum) (C_surd_turned : Kn P w K mg base 4 "surd_turned" ["one"] S_surd_turned) (C_surd_of : Kn P w K mg base 4 "surd_of" ["a", "b", "c", "d"] S_surd_of) (C_surd_times : Kn P w K mg base 4 "surd_times" ["one", "other"] S_surd_times) (K_surd_sign_one : KnK P w K mg base 4 "surd_sign" ["one"] ["one"] [0] S_surd_sign) (K_surd_order_other_one : KnK P w K mg base 4 "surd_order" ["one", "other"] ["other", "one"] [1, 0] S_surd_order) (K_whole_part_one : KnK P w K mg base 4 "whole_part" ["one"] ["one"] [0] S_whole_part) : FnG IsLst P w K mg base 5 f fd ["word", "row", "is_named"] S__law_told :=
  fng_of F sc__law_told m__law_told l__law_told fun cdv A outer s c hG hgd hr => ⟨g__law_told, der__law_told bl C_surd_sign C_surd_order C_whole_part C_surd_sum C_surd_turned C_surd_of C_surd_times K_surd_sign_one K_surd_order_other_one K_whole_part_one hG hgd hr, r__law_told⟩
theorem sc__law_plain_asks : FnScope N__law_plain_asks ["bag", "root"] (defScope s__law_plain_asks) := ⟨rfl, rfl, rfl, by decide +kernel, rfl, by decide +kernel, by decide +kernel⟩
theorem der__law_plain_asks {P : Program} {w : World} {K : PySem.W.Frag} {mg : Str → Option Value} {base : Heap} {f : Addr} {cdv : Value} {A : Around} {outer : List PySem.Env} {s : Shared} {c : C} (bl : Bl mg) (C__law_handed : Kn P w K mg base 4 "_law_handed" ["bag", "root"] S__law_handed) (C__law_surd : Kn P w K mg base 4 "_law_surd" ["a", "b", "c", "d"] S__law_surd) (C__law_draw : Kn P w K mg base 4 "_law_draw" ["bag", "below"] S__law_draw) (C__law_integer : Kn P w K mg base 4 "_law_integer" ["bag"] S__law_integer) (C__law_pick : Kn P w K mg base 4 "_law_pick" ["bag", "some"] S__law_pick) (hG : IsLst c) (hgd : A.guards = some []) (hr : Room 4 (A.deeper (envOfC "_law_plain_asks" (defScope s__law_plain_asks) s.heap.objs.size f cdv))) : PSsd (XX P w K mg base N__law_plain_asks "_law_plain_asks" s__law_plain_asks f cdv A outer s c.H0) c (defBody s__law_plain_asks) g__law_plain_asks := by
  have hN : (XX P w K mg base N__law_plain_asks "_law_plain_asks" s__law_plain_asks f cdv A outer s c.H0).N.Nodup := sc__law_plain_asks.nd
  have hc : (XX P w K mg base N__law_plain_asks "_law_plain_asks" s__law_plain_asks f cdv A outer s c.H0).calm = true := rfl
  have hx : ∀ e s1, ¬ (XX P w K mg base N__law_plain_asks "_law_plain_asks" s__law_plain_asks f cdv A outer s c.H0).xe e s1 := fun _ _ z => z
  have hp : PassesOwn (model P w) (XX P w K mg base N__law_plain_asks "_law_plain_asks" s__law_plain_asks f cdv A outer s c.H0).A (XX P w K mg base N__law_plain_asks "_law_plain_asks" s__law_plain_asks f cdv A outer s c.H0).env (XX P w K mg base N__law_plain_asks "_law_plain_asks" s__law_plain_asks f cdv A outer s c.H0).xe := PassesOwn.never
  have hu : (XX P w K mg base N__law_plain_asks "_law_plain_asks" s__law_plain_asks f cdv A outer s c.H0).A.units + 64 < cLine := units_of hr
  exact (ss_cons (s_par 2 3 hc hN (m_n (n_lc hc hN (own := [("turn", 4)]) (by first | rfl | decide +kernel) (i_rng1 bl.range (PV.b v_int)) (fun _ _ _ _ _ => (g_nm 4 (by exact hN))) (fun _ _ _ _ _ => ts_nil) (fun _ _ _ _ _ => (v_callX C__law_handed hG (by exact hgd) (by exact hr) (a_bag 0 (a_cons (v_name 1) a_nil))))) (m_n (n_lst d_nil) m_nil))) (ss_cons (s_set 5 hN (v_callX C__law_surd hG hgd hr (a_cons (v_bin o_sub (PV.b (v_neg (PV.b v_int))) (PV.b (v_callX C__law_draw hG hgd hr (a_bag 0 (a_cons v_int a_nil))))) (a_cons v_int (a_cons (v_bin o_add (PV.b v_int) (PV.b (v_callX C__law_draw hG hgd hr (a_bag 0 (a_cons v_int a_nil))))) (a_cons v_int a_nil)))))) (ss_cons (s_ext 2 (PV.b (PN.v (n_lst (d_cons (v_tup (d_cons v_int (d_cons v_int (d_cons v_int (d_cons v_int d_nil))))) (d_cons (v_name 5) (d_cons (v_tup (d_cons v_int (d_cons (v_bin o_pow (PV.b v_int) (PV.b v_int)) (d_cons v_int (d_cons (v_name 1) d_nil))))) (d_cons (v_tup (d_cons (v_callX C__law_integer hG hgd hr (a_bag 0 a_nil)) (d_cons v_int (d_cons v_int (d_cons v_int d_nil))))) d_nil)))))))) (ss_cons (s_frz 2 (s_for hp hc (i_seq (v_name 2)) (g_nm 6 hN) (ss_cons (s_asg (v_name 6) (g_sq hc (gs_cons (g_nm 7 hN) (gs_cons (g_nm 8 hN) (gs_cons (g_nm 9 hN) (gs_cons (g_nm 10 hN) gs_nil)))))) (ss_cons (s_ext 3 (PV.b (PN.v (n_lst (d_cons (PN.v (n_lst (d_cons v_str (d_cons (PN.v (n_lst (d_cons (v_name 6) d_nil))) d_nil)))) (d_cons (PN.v (n_lst (d_cons v_str (d_cons (PN.v (n_lst (d_cons (v_name 6) d_nil))) d_nil)))) (d_cons (PN.v (n_lst (d_cons v_str (d_cons (PN.v (n_lst (d_cons (v_tup (d_cons (v_neg (b_name 7)) (d_cons (v_neg (b_name 8)) (d_cons (v_name 9) (d_cons (v_name 10) d_nil))))) d_nil))) d_nil)))) (d_cons (PN.v (n_lst (d_cons v_str (d_cons (PN.v (n_lst (d_cons (v_tup (d_cons (v_name 7) (d_cons (v_neg (b_name 8)) (d_cons (v_name 9) (d_cons (v_name 10) d_nil))))) d_nil))) d_nil)))) d_nil)))))))) (ss_cons (s_frz 2 (s_set 11 hN (v_callX C__law_pick hG hgd hr (a_bag 0 (a_cons (v_name 2) a_nil))))) (ss_cons (s_app 3 (PN.v (n_lst (d_cons v_str (d_cons (PN.v (n_lst (d_cons (v_name 6) (d_cons (v_tup (d_cons (v_name 7) (d_cons (v_neg (b_name 8)) (d_cons (v_name 9) (d_cons (v_name 10) d_nil))))) d_nil)))) d_nil))))) (ss_one (s_ext 3 (PV.b (PN.v (n_lst (d_cons (PN.v (n_lst (d_cons v_str (d_cons (PN.v (n_lst (d_cons (v_name 6) (d_cons (v_name 11) d_nil)))) d_nil)))) (d_cons (PN.v (n_lst (d_cons v_str (d_cons (PN.v (n_lst (d_cons (v_name 11) (d_cons (v_name 6) d_nil)))) d_nil)))) (d_cons (PN.v (n_lst (d_cons v_str (d_cons (PN.v (n_lst (d_cons (v_name 6) (d_cons (v_name 11) d_nil)))) d_nil)))) d_nil)))))))))))))) (ss_cons (s_app 3 (PN.v (n_lst (d_cons v_str (d_cons (PN.v (n_lst (d_cons (v_ix (b_name 2) (PV.b v_int)) (d_cons (v_callX C__law_surd hG hgd hr (a_cons (v_ix (PV.b (v_ix (b_name 2) (PV.b v_int))) (PV.b v_int)) (a_cons (v_ix (PV.b (v_ix (b_name 2) (PV.b v_int))) (PV.b v_int)) (a_cons (v_ix (PV.b (v_ix (b_name 2) (PV.b v_int))) (PV.b v_int)) (a_cons (v_name 1) a_nil))))) d_nil)))) d_nil))))) (ss_cons (s_set 12 hN (v_bin o_sub (PV.b (v_bin o_pow (PV.b v_int) (PV.b v_int))) (PV.b (v_callX C__law_draw hG hgd hr (a_bag 0 (a_cons (v_bin o_pow (PV.b v_int) (PV.b v_int)) a_nil)))))) (ss_cons (s_par 13 14 hc hN (m_v (v_callX C__law_pick hG hgd hr (a_bag 0 (a_cons (PN.v (n_lst (d_cons v_int (d_cons (v_neg (PV.b v_int)) d_nil)))) a_nil))) (m_v (v_callX C__law_draw hG hgd hr (a_bag 0 (a_cons v_int a_nil))) m_nil))) (ss_cons (s_par 6 11 hc hN (m_v (v_tup (d_cons (v_bin o_mul (b_name 13) (PV.b (v_bin o_sub (b_name 12) (PV.b v_int)))) (d_cons v_int (d_cons (v_name 12) (d_cons v_int d_nil))))) (m_v (v_tup (d_cons (v_bin o_mul (b_name 13) (PV.b (v_bin o_add (PV.b (v_bin o_sub (b_name 12) (PV.b v_int))) (PV.b (v_bin o_div (b_name 14) (PV.b v_int)))))) (d_cons v_int (d_cons (v_bin o_add (PV.b (v_bin o_sub (b_name 12) (PV.b v_int))) (PV.b (v_bin o_div (b_name 14) (PV.b v_int)))) (d_cons v_int d_nil))))) m_nil))) (ss_one (s_ret (v_bin o_add (b_name 3) (PV.b (PN.v (n_lst (d_cons (PN.v (n_lst (d_cons v_str (d_cons (PN.v (n_lst (d_cons (v_name 6) (d_cons (v_name 11) d_nil)))) d_nil)))) (d_cons (PN.v (n_lst (d_cons v_str (d_cons (PN.v (n_lst (d_cons (v_name 11) (d_cons (v_name 6) d_nil)))) d_nil)))) (d_cons (PN.v (n_lst (d_cons v_str (d_cons (PN.v (n_lst (d_cons (v_name 6) d_nil))) d_nil)))) (d_cons (PN.v (n_lst (d_cons v_str (d_cons (PN.v (n_lst (d_cons (v_name 11) d_nil))) d_nil)))) d_nil))))))))))))))))))
theorem ok__law_plain_asks {P : Program} {w : World} {K : PySem.W.Frag} {mg : Str → Option Value} {base : Heap} {f : Addr} {fd : FuncData} (F : Fun K "_law_plain_asks" "_law_plain_asks" s__law_plain_asks f fd) (bl : Bl mg) (C__law_handed : Kn P w K mg base 4 "_law_handed" ["bag", "root"] S__law_handed) (C__law_surd : Kn P w K mg base 4 "_law_surd" ["a", "b", "c", "d"] S__law_surd) (C__law_draw : Kn P w K mg base 4 "_law_draw" ["bag", "below"] S__law_draw) (C__law_integer : Kn P w K mg base 4 "_law_integer" ["bag"] S__law_integer) (C__law_pick : Kn P w K mg base 4 "_law_pick" ["bag", "some"] S__law_pick) : FnG IsLst P w K mg base 5 f fd ["bag", "root"] S__law_plain_asks :=
  fng_of F sc__law_plain_asks m__law_plain_asks l__law_plain_asks fun cdv A outer s c hG hgd hr => ⟨g__law_plain_asks, der__law_plain_asks bl C__law_handed C__law_surd C__law_draw C__law_integer C__law_pick hG hgd hr, r__law_plain_asks⟩
theorem sc__law_are_right : FnScope N__law_are_right ["bag", "asks"] (defScope s__law_are_right) := ⟨rfl, rfl, rfl, by decide +kernel, rfl, by decide +kernel, by decide +kernel⟩
theorem der__law_are_right {P : Program} {w : World} {K : PySem.W.Frag} {mg : Str → Option Value} {base : Heap} {f : Addr} {cdv : Value} {A : Around} {outer : List PySem.Env} {s : Shared} {c : C} (bl : Bl mg) (C__law_due : Kn P w K mg base 5 "_law_due" ["word", "row"] S__law_due) (C__law_draw : Kn P w K mg base 5 "_law_draw" ["bag", "below"] S__law_draw) (C__law_like : Kn P w K mg base 5 "_law_like" ["told", "due"] S__law_like) (C__law_told : Kn P w K mg base 5 "_law_told" ["word", "row", "is_named"] S__law_told) (hG : IsLst c) (hgd : A.guards = some []) (hr : Room 5 (A.deeper (envOfC "_law_are_right" (defScope s__law_are_right) s.heap.objs.size f cdv))) : PSsd (XX P w K mg base N__law_are_right "_law_are_right" s__law_are_right f cdv A outer s c.H0) c (defBody s__law_are_right) g__law_are_right := by
  have hN : (XX P w K mg base N__law_are_right "_law_are_right" s__law_are_right f cdv A outer s c.H0).N.Nodup := sc__law_are_right.nd
  have hc : (XX P w K mg base N__law_are_right "_law_are_right" s__law_are_right f cdv A outer s c.H0).calm = true := rfl
  have hx : ∀ e s1, ¬ (XX P w K mg base N__law_are_right "_law_are_right" s__law_are_right f cdv A outer s c.H0).xe e s1 := fun _ _ z => z
  have hp : PassesOwn (model P w) (XX P w K mg base N__law_are_right "_law_are_right" s__law_are_right f cdv A outer s c.H0).A (XX P w K mg base N__law_are_right "_law_are_right" s__law_are_right f cdv A outer s c.H0).env (XX P w K mg base N__law_are_right "_law_are_right" s__law_are_right f cdv A outer s c.H0).xe := PassesOwn.never
  have hu : (XX P w K mg base N__law_are_right "_law_are_right" s__law_are_right f cdv A outer s c.H0).A.units + 64 < cLine := units_of hr
  exact (ss_cons (s_lc 2 hc hN (own := [("word", 3), ("row", 4)]) (by first | rfl | decide +kernel) (i_seq (v_name 1)) (fun _ _ _ _ _ => (g_sq (by exact hc) (gs_cons (g_nm 3 (by exact hN)) (gs_cons (g_nm 4 (by exact hN)) gs_nil)))) (fun _ _ _ _ _ => ts_nil) (fun _ _ _ _ _ => (v_callX C__law_due hG (by exact hgd) (by exact hr) (a_cons (v_name 3) (a_cons (v_name 4) a_nil))))) (ss_cons (s_par 5 6 hc hN (m_v (v_callB (c_repr hgd hu) bl.repr (bb_cons (b_name 1) bb_nil)) (m_v (v_callX C__law_draw hG hgd hr (a_bag 0 (a_cons v_int a_nil))) m_nil))) (ss_cons (s_for hp hc (i_seq (PN.v (n_lrng1 hc bl.list bl.range (PV.b (v_callB c_len bl.len (bb_cons (b_name 1) bb_nil)))))) (g_nm 7 hN) (ss_one (s_if (t_not (t_val (PV.b (v_callX C__law_like hG hgd hr (a_cons (v_callX C__law_told hG hgd hr (a_cons (v_ix (PV.b (v_ix (b_name 1) (b_name 7))) (PV.b v_int)) (a_cons (v_ix (PV.b (v_ix (b_name 1) (b_name 7))) (PV.b v_int)) (a_cons (v_cmp (o_eq hu) (PV.b (v_bin o_mod (PV.b (v_callT c_int bl.int (bb_cons (PV.b (v_bin o_add (b_name 7) (b_name 6))) bb_nil))) (PV.b v_int))) (PV.b v_int)) a_nil)))) (a_cons (v_ix (b_name 2) (b_name 7)) a_nil)))))) (ss_one (s_ret v_bl)) ss_nil))) (ss_cons (s_for hp hc (i_seq (PN.v (n_listRev hc bl.list bl.reversed (PV.b (PN.v (n_lrng1 hc bl.list bl.range (PV.b (v_callB c_len bl.len (bb_cons (b_name 1) bb_nil))))))))) (g_nm 7 hN) (ss_one (s_if (t_not (t_val (PV.b (v_callX C__law_like hG hgd hr (a_cons (v_callX C__law_told hG hgd hr (a_cons (v_ix (PV.b (v_ix (b_name 1) (b_name 7))) (PV.b v_int)) (a_cons (v_ix (PV.b (v_ix (b_name 1) (b_name 7))) (PV.b v_int)) (a_cons (v_cmp (o_eq hu) (PV.b (v_bin o_mod (PV.b (v_callT c_int bl.int (bb_cons (PV.b (v_bin o_add (b_name 7) (b_name 6))) bb_nil))) (PV.b v_int))) (PV.b v_int)) a_nil)))) (a_cons (v_ix (b_name 2) (b_name 7)) a_nil)))))) (ss_one (s_ret v_bl)) ss_nil))) (ss_one (s_ret (v_cmp (o_eq hu) (PV.b (v_callB (c_repr hgd hu) bl.repr (bb_cons (b_name 1) bb_nil))) (b_name 5))))))))
theorem ok__law_are_right {P : Program} {w : World} {K : PySem.W.Frag} {mg : Str → Option Value} {base : Heap} {f : Addr} {fd : FuncData} (F : Fun K "_law_are_right" "_law_are_right" s__law_are_right f fd) (bl : Bl mg) (C__law_due : Kn P w K mg base 5 "_law_due" ["word", "row"] S__law_due) (C__law_draw : Kn P w K mg base 5 "_law_draw" ["bag", "below"] S__law_draw) (C__law_like : Kn P w K mg base 5 "_law_like" ["told", "due"] S__law_like) (C__law_told : Kn P w K mg base 5 "_law_told" ["word", "row", "is_named"] S__law_told) : FnG IsLst P w K mg base 6 f fd ["bag", "asks"] S__law_are_right :=
  fng_of F sc__law_are_right m__law_are_right l__law_are_right fun cdv A outer s c hG hgd hr => ⟨g__law_are_right, der__law_are_right bl C__law_due C__law_draw C__law_like C__law_told hG hgd hr, r__law_are_right⟩
theorem sc__law_is_told_right : FnScope N__law_is_told_right ["bag", "root"] (defScope s__law_is_told_right) := ⟨rfl, rfl, rfl, by decide +kernel, rfl, by decide +kernel, by decide +kernel⟩
theorem der__law_is_told_right {P : Program} {w : World} {K : PySem.W.Frag} {mg : Str → Option Value} {base : Heap} {f : Addr} {cdv : Value} {A : Around} {outer : List PySem.Env} {s : Shared} {c : C} (bl : Bl mg) (C__law_draw : Kn P w K mg base 6 "_law_draw" ["bag", "below"] S__law_draw) (C__law_integer : Kn P w K mg base 6 "_law_integer" ["bag"] S__law_integer) (C__law_told : Kn P w K mg base 6 "_law_told" ["word", "row", "is_named"] S__law_told) (C__law_like : Kn P w K mg base 6 "_law_like" ["told", "due"] S__law_like) (C__law_surd : Kn P w K mg base 6 "_law_surd" ["a", "b", "c", "d"] S__law_surd) (C__law_near : Kn P w K mg base 6 "_law_near" ["bag", "root", "steps"] S__law_near) (C__law_pick : Kn P w K mg base 6 "_law_pick" ["bag", "some"] S__law_pick) (C__law_due : Kn P w K mg base 6 "_law_due" ["word", "row"] S__law_due) (C__law_own_whole : Kn P w K mg base 6 "_law_own_whole" ["one"] S__law_own_whole) (C__law_are_right : Kn P w K mg base 6 "_law_are_right" ["bag", "asks"] S__law_are_right) (hG : IsLst c) (hgd : A.guards = some []) (hr : Room 6 (A.deeper (envOfC "_law_is_told_right" (defScope s__law_is_told_right) s.heap.objs.size f cdv))) : PSsd (XX P w K mg base N__law_is_told_right "_law_is_told_right" s__law_is_told_right f cdv A outer s c.H0) c (defBody s__law_is_told_right) g__law_is_told_right := by
  have hN : (XX P w K mg base N__law_is_told_right "_law_is_told_right" s__law_is_told_right f cdv A outer s c.H0).N.Nodup := sc__law_is_told_right.nd
  have hc : (XX P w K mg base N__law_is_told_right "_law_is_told_right" s__law_is_told_right f cdv A outer s c.H0).calm = true := rfl
  have hx : ∀ e s1, ¬ (XX P w K mg base N__law_is_told_right "_law_is_told_right" s__law_is_told_right f cdv A outer s c.H0).xe e s1 := fun _ _ z => z
  have hp : PassesOwn (model P w) (XX P w K mg base N__law_is_told_right "_law_is_told_right" s__law_is_told_right f cdv A outer s c.H0).A (XX P w K mg base N__law_is_told_right "_law_is_told_right" s__law_is_told_right f cdv A outer s c.H0).env (XX P w K mg base N__law_is_told_right "_law_is_told_right" s__law_is_told_right f cdv A outer s c.H0).xe := PassesOwn.never
  have hu : (XX P w K mg base N__law_is_told_right "_law_is_told_right" s__law_is_told_right f cdv A outer s c.H0).A.units + 64 < cLine := units_of hr
  exact (ss_cons (s_setN 2 hN (n_lst (d_cons (v_callX C__law_integer hG hgd hr (a_bag 0 a_nil)) (d_cons (v_bin o_sub (PV.b (v_bin o_pow (PV.b v_int) (PV.b v_int))) (PV.b (v_callX C__law_draw hG hgd hr (a_bag 0 (a_cons v_int a_nil))))) (d_cons (v_bin o_add (PV.b v_int) (PV.b (v_callX C__law_draw hG hgd hr (a_bag 0 (a_cons v_int a_nil))))) (d_cons (v_bin o_sub (PV.b (v_bin o_pow (PV.b v_int) (PV.b v_int))) (PV.b v_int)) d_nil)))))) (ss_cons (s_if (t_not (t_cmp (o_eq hu) (PV.b (v_callX C__law_draw hG hgd hr (a_bag 0 (a_cons v_int a_nil)))) (PV.b v_int))) (ss_one (s_setIx 2 (v_name 1) (PV.b v_int))) ss_nil) (ss_cons (s_frz 2 (s_set 3 hN (v_callX C__law_told hG hgd hr (a_cons v_str (a_cons (v_name 2) (a_cons v_bl a_nil)))))) (ss_cons (s_if (t_not (t_val (PV.b (v_callX C__law_like hG hgd hr (a_cons (v_name 3) (a_cons (v_tup (d_cons v_str (d_cons (v_callX C__law_surd hG hgd hr (a_cons (v_ix (b_name 2) (PV.b v_int)) (a_cons (v_ix (b_name 2) (PV.b v_int)) (a_cons (v_ix (b_name 2) (PV.b v_int)) (a_cons (v_ix (b_name 2) (PV.b v_int)) a_nil))))) d_nil))) a_nil)))))) (ss_one (s_ret v_bl)) ss_nil) (ss_cons (s_par3 4 5 6 hc hN (m_v (v_ix (b_name 3) (PV.b v_int)) (m_v (v_ix (b_name 2) (PV.b v_int)) (m_v v_int m_nil)))) (ss_cons (s_for hp hc (i_rng1 bl.range (PV.b v_int)) (g_nm 7 hN) (ss_cons (s_asg (v_callX C__law_near hG hgd hr (a_bag 0 (a_cons (v_name 5) (a_cons (v_callX C__law_pick hG hgd hr (a_bag 0 (a_cons (PN.v (n_lst (d_cons v_int (d_cons v_int (d_cons v_int (d_cons v_int d_nil)))))) a_nil))) a_nil)))) (g_sq hc (gs_cons (g_nm 8 hN) (gs_cons (g_nm 9 hN) gs_nil)))) (ss_cons (s_set 10 hN (v_callX C__law_pick hG hgd hr (a_bag 0 (a_cons (PN.v (n_lst (d_cons v_int (d_cons (v_neg (PV.b v_int)) d_nil)))) a_nil)))) (ss_cons (s_set 11 hN (v_callX C__law_pick hG hgd hr (a_bag 0 (a_cons (PN.v (n_lst (d_cons v_str (d_cons v_str (d_cons v_str d_nil))))) a_nil)))) (ss_cons (s_set 12 hN (v_callX C__law_pick hG hgd hr (a_bag 0 (a_cons (PN.v (n_lst (d_cons (v_name 4) (d_cons (v_tup (d_cons (v_bin o_mul (b_name 10) (b_name 8)) (d_cons (v_bin o_mul (PV.b (v_neg (b_name 10))) (b_name 9)) (d_cons (v_bin o_add (PV.b v_int) (PV.b (v_callX C__law_draw hG hgd hr (a_bag 0 (a_cons v_int a_nil))))) (d_cons (v_name 5) d_nil))))) d_nil)))) a_nil)))) (ss_cons (s_set 12 hN (v_if (t_cmp (o_ne hu) (b_name 12) (b_name 4)) (v_callX C__law_surd hG hgd hr (a_cons (v_ix (b_name 12) (PV.b v_int)) (a_cons (v_ix (b_name 12) (PV.b v_int)) (a_cons (v_ix (b_name 12) (PV.b v_int)) (a_cons (v_name 5) a_nil))))) (v_name 4))) (ss_cons (s_par 3 13 hc hN (m_v (v_callX C__law_told hG hgd hr (a_cons (v_name 11) (a_cons (PN.v (n_lst (d_cons (v_name 4) (d_cons (v_name 12) d_nil)))) (a_cons v_bl a_nil)))) (m_v (v_callX C__law_due hG hgd hr (a_cons (v_name 11) (a_cons (PN.v (n_lst (d_cons (v_name 4) (d_cons (v_name 12) d_nil)))) a_nil))) m_nil))) (ss_cons (s_if (t_not (t_val (PV.b (v_callX C__law_like hG hgd hr (a_cons (v_name 3) (a_cons (v_name 13) a_nil)))))) (ss_one (s_ret v_bl)) ss_nil) (ss_cons (s_par 14 4 hc hN (m_v (v_name 4) (m_v (v_ix (b_name 3) (PV.b v_int)) m_nil))) (ss_cons (s_set 6 hN (v_callX C__law_own_whole hG hgd hr (a_cons (v_name 4) a_nil))) (ss_cons (s_setN 15 hN (n_lst (d_cons (PN.v (n_lst (d_cons v_str (d_cons (PN.v (n_lst (d_cons (v_name 4) d_nil))) d_nil)))) (d_cons (PN.v (n_lst (d_cons v_str (d_cons (PN.v (n_lst (d_cons (v_name 4) d_nil))) d_nil)))) (d_cons (PN.v (n_lst (d_cons v_str (d_cons (PN.v (n_lst (d_cons (v_name 4) (d_cons (v_name 14) d_nil)))) d_nil)))) (d_cons (PN.v (n_lst (d_cons v_str (d_cons (PN.v (n_lst (d_cons (v_name 14) (d_cons (v_name 4) d_nil)))) d_nil)))) (d_cons (PN.v (n_lst (d_cons v_str (d_cons (PN.v (n_lst (d_cons (v_name 4) (d_cons (v_name 4) d_nil)))) d_nil)))) d_nil))))))) (ss_cons (s_if (t_cmp o_lt (PV.b (v_callB c_abs bl.abs (bb_cons (b_name 6) bb_nil))) (PV.b (v_bin o_pow (PV.b v_int) (PV.b v_int)))) (ss_one (s_ext 15 (PV.b (PN.v (n_lst (d_cons (PN.v (n_lst (d_cons v_str (d_cons (PN.v (n_lst (d_cons (v_name 4) (d_cons (v_tup (d_cons (v_name 6) (d_cons v_int (d_cons v_int (d_cons v_int d_nil))))) d_nil)))) d_nil)))) (d_cons (PN.v (n_lst (d_cons v_str (d_cons (PN.v (n_lst (d_cons (v_tup (d_cons (v_bin o_add (b_name 6) (PV.b v_int)) (d_cons v_int (d_cons v_int (d_cons v_int d_nil))))) (d_cons (v_name 4) d_nil)))) d_nil)))) d_nil))))))) ss_nil) (ss_one (s_frz 15 (s_if (t_not (t_val (PV.b (v_callX C__law_are_right hG hgd hr (a_bag 0 (a_cons (v_name 15) a_nil)))))) (ss_one (s_ret v_bl)) ss_nil))))))))))))))) (ss_one (s_ret v_bl))))))))
theorem ok__law_is_told_right {P : Program} {w : World} {K : PySem.W.Frag} {mg : Str → Option Value} {base : Heap} {f : Addr} {fd : FuncData} (F : Fun K "_law_is_told_right" "_law_is_told_right" s__law_is_told_right f fd) (bl : Bl mg) (C__law_draw : Kn P w K mg base 6 "_law_draw" ["bag", "below"] S__law_draw) (C__law_integer : Kn P w K mg base 6 "_law_integer" ["bag"] S__law_integer) (C__law_told : Kn P w K mg base 6 "_law_told" ["word", "row", "is_named"] S__law_told) (C__law_like : Kn P w K mg base 6 "_law_like" ["told", "due"] S__law_like) (C__law_surd : Kn P w K mg base 6 "_law_surd" ["a", "b", "c", "d"] S__law_surd) (C__law_near : Kn P w K mg base 6 "_law_near" ["bag", "root", "steps"] S__law_near) (C__law_pick : Kn P w K mg base 6 "_law_pick" ["bag", "some"] S__law_pick) (C__law_due : Kn P w K mg base 6 "_law_due" ["word", "row"] S__law_due) (C__law_own_whole : Kn P w K mg base 6 "_law_own_whole" ["one"] S__law_own_whole) (C__law_are_right : Kn P w K mg base 6 "_law_are_right" ["bag", "asks"] S__law_are_right) : FnG IsLst P w K mg base 7 f fd ["bag", "root"] S__law_is_told_right :=
  fng_of F sc__law_is_told_right m__law_is_told_right l__law_is_told_right fun cdv A outer s c hG hgd hr => ⟨g__law_is_told_right, der__law_is_told_right bl C__law_draw C__law_integer C__law_told C__law_like C__law_surd C__law_near C__law_pick C__law_due C__law_own_whole C__law_are_right hG hgd hr, r__law_is_told_right⟩
theorem sc_law : FnScope N_law ["script"] (defScope s_law) := ⟨rfl, rfl, rfl, by decide +kernel, rfl, by decide +kernel, by decide +kernel⟩
theorem sc__law_draw : FnScope ["bag", "below", "cell", "found"] ["bag", "below"] (defScope s__law_draw) := ⟨rfl, rfl, rfl, by decide +kernel, rfl, by decide +kernel, by decide +kernel⟩
theorem der__law_draw {P : Program} {w : World} {K : PySem.W.Frag} {mg : Str → Option Value} {base : Heap} {f : Addr} {cdv : Value} {A : Around} {outer : List PySem.Env} {s : Shared} {c : C} (bl : Bl mg) (hr : Room 0 (A.deeper (envOfC "_law_draw" (defScope s__law_draw) s.heap.objs.size f cdv))) : PSs (XX P w K mg base ["bag", "below", "cell", "found"] "_law_draw" s__law_draw f cdv A outer s c.H0) (defBody s__law_draw) (tDraw 69621 13 5) := by
  have hN : (XX P w K mg base ["bag", "below", "cell", "found"] "_law_draw" s__law_draw f cdv A outer s c.H0).N.Nodup := sc__law_draw.nd
  have hp : PassesOwn (model P w) (XX P w K mg base ["bag", "below", "cell", "found"] "_law_draw" s__law_draw f cdv A outer s c.H0).A (XX P w K mg base ["bag", "below", "cell", "found"] "_law_draw" s__law_draw f cdv A outer s c.H0).env (XX P w K mg base ["bag", "below", "cell", "found"] "_law_draw" s__law_draw f cdv A outer s c.H0).xe := PassesOwn.never
  have hu : (XX P w K mg base ["bag", "below", "cell", "found"] "_law_draw" s__law_draw f cdv A outer s c.H0).A.units + 64 < cLine := units_of hr
  have w1 : ∀ (σ : L2.St) (H : Hp) (b : Bool) (Q : Bool → Hp → Prop), (∃ x y, rNm 2 σ H x ∧ rPow (rK 10) (rK 9) σ H y ∧ b = gGtI x y) → Q b H → tIt gGtI (rNm 2) (rPow (rK 10) (rK 9)) σ H Q := fun σ H b Q ⟨x, y, h1, h2, e⟩ q => ⟨x, y, h1, h2, e ▸ q⟩
  exact pss_cons (ps_while hp (PW.pt (pw_and (pt_i iop_eq (pi_bag 0) pi_c) (pw_and1 (pt_full 0 hu)))) (pss_cons (ps_bagPop 0 2 hN) (pss_one (ps_bag 0 (pi_if (pt_i op_gt (pi_nm 2) (pi_bin op_pow pi_c pi_c)) w1 (pi_nm 2) pi_c)))))
    (pss_cons (ps_if (pt_i op_gt (pi_bag 0) pi_c) (pss_cons (ps_setI 3 hN (pi_bin op_mod (pi_int bl.int (pi_bag 0)) (pi_nm 1))) (pss_cons (ps_bag 0 (pi_bin iop_div (pi_bag 0) (pi_nm 1))) (pss_one (ps_retI (pi_nm 3))))) pss_nil)
    (pss_cons (ps_bag 0 (pi_bin op_mod (pi_bin iop_add (pi_bin op_mulW (pi_bag 0) pi_c) pi_c) pi_c)) (pss_one (ps_retI (pi_bin op_mod (pi_bin iop_div (pi_bin op_mod (pi_bin op_mulW (pi_bag 0) (pi_bag 0)) pi_c) pi_c) (pi_nm 1))))))
theorem ok__law_draw {P : Program} {w : World} {K : PySem.W.Frag} {mg : Str → Option Value} {base : Heap} {f : Addr} {fd : FuncData} (F : Fun K "_law_draw" "_law_draw" s__law_draw f fd) (bl : Bl mg) : FnG IsLst P w K mg base 1 f fd ["bag", "below"] S__law_draw :=
  fng_of F sc__law_draw spDraw_mono spDraw_len fun cdv A outer s c hG hgd hr => ⟨gDraw, draw_ss (a := 69621) (b := 13) (q := 5) hG (by decide) (by decide) (by decide) (der__law_draw (c := c) bl hr), spDraw_go rfl⟩
theorem der_law {P : Program} {w : World} {K : PySem.W.Frag} {mg : Str → Option Value} {base : Heap} {f : Addr} {cdv : Value} {s : Shared} {H : Hp} {c : C} (bl : Bl mg) (C__law_square_free : Kn P w K mg base 7 "_law_square_free" ["bag"] S__law_square_free) (C__law_are_right : Kn P w K mg base 7 "_law_are_right" ["bag", "asks"] S__law_are_right) (C__law_plain_asks : Kn P w K mg base 7 "_law_plain_asks" ["bag", "root"] S__law_plain_asks) (C__law_near_asks : Kn P w K mg base 7 "_law_near_asks" ["bag", "root"] S__law_near_asks) (C__law_is_told_right : Kn P w K mg base 7 "_law_is_told_right" ["bag", "root"] S__law_is_told_right) (hG : IsLst c) (hr : Room 7 (callerA.deeper (envOfC "law" (defScope s_law) s.heap.objs.size f cdv))) : PSsd (XX P w K mg base N_law "law" s_law f cdv callerA [] s H) c (defBody s_law).tail g_law := by
  have hN : (XX P w K mg base N_law "law" s_law f cdv callerA [] s H).N.Nodup := sc_law.nd
  have hc : (XX P w K mg base N_law "law" s_law f cdv callerA [] s H).calm = true := rfl
  have hx : ∀ e s1, ¬ (XX P w K mg base N_law "law" s_law f cdv callerA [] s H).xe e s1 := fun _ _ z => z
  have hgd : (XX P w K mg base N_law "law" s_law f cdv callerA [] s H).A.guards = some [] := rfl
  have hp : PassesOwn (model P w) (XX P w K mg base N_law "law" s_law f cdv callerA [] s H).A (XX P w K mg base N_law "law" s_law f cdv callerA [] s H).env (XX P w K mg base N_law "law" s_law f cdv callerA [] s H).xe := PassesOwn.never
  have hu : (XX P w K mg base N_law "law" s_law f cdv callerA [] s H).A.units + 64 < cLine := units_of hr
  exact (ss_cons (s_set 2 hN (v_callX C__law_square_free hG hgd hr (a_bag 1 a_nil))) (ss_cons (s_if (t_not (t_val (PV.b (v_callX C__law_are_right hG hgd hr (a_bag 1 (a_cons (v_callX C__law_plain_asks hG hgd hr (a_bag 1 (a_cons (v_name 2) a_nil))) a_nil)))))) (ss_one (s_ret v_bl)) ss_nil) (ss_cons (s_if (t_not (t_val (PV.b (v_callX C__law_are_right hG hgd hr (a_bag 1 (a_cons (v_callX C__law_near_asks hG hgd hr (a_bag 1 (a_cons (v_name 2) a_nil))) a_nil)))))) (ss_one (s_ret v_bl)) ss_nil) (ss_one (s_ret (v_callX C__law_is_told_right hG hgd hr (a_bag 1 (a_cons (v_name 2) a_nil))))))))
theorem ok_law {P : Program} {w : World} {K : PySem.W.Frag} {mg : Str → Option Value} {base : Heap} {f fO : Addr} {fd fdO : FuncData} (F : Fun K "law" "law" s_law f fd) (bl : Bl mg) (FO : FnG (GOwn K) P w K mg base 7 fO fdO ["script"] S__law_own_bag) (gO : mg "_law_own_bag" = some (.ref fO)) (kO : PySem.W.keepIn K (.ref fO) = true) (bO : Binds K fdO ["script"] []) (C__law_square_free : Kn P w K mg base 7 "_law_square_free" ["bag"] S__law_square_free) (C__law_are_right : Kn P w K mg base 7 "_law_are_right" ["bag", "asks"] S__law_are_right) (C__law_plain_asks : Kn P w K mg base 7 "_law_plain_asks" ["bag", "root"] S__law_plain_asks) (C__law_near_asks : Kn P w K mg base 7 "_law_near_asks" ["bag", "root"] S__law_near_asks) (C__law_is_told_right : Kn P w K mg base 7 "_law_is_told_right" ["bag", "root"] S__law_is_told_right) (hb : ∀ (s : Shared) (u : Value), BindsTo s fd ⟨[u], []⟩ [("script", u)]) : FnL P w K mg base f :=
  fnl_of (n := 1) (k := 7) F sc_law rfl ⟨rfl, by decide, by decide⟩ (fun cdv s H hr => law_ss (n := 1) (ps_set (i := 1) sc_law.nd rfl (Or.inl rfl) (pe_own FO rfl hr gO kO bO)) (fun c hG => der_law (c := c) bl C__law_square_free C__law_are_right C__law_plain_asks C__law_near_asks C__law_is_told_right hG hr) r_law) hb
end T
end DL
namespace DL
namespace T
open PySem L2 PySem.Spec PyProof.Rows
/-! ### the head: facts by names -/
def dfOf (x : Str) (st : Stmt) : He.DefD := ⟨(x, none), x, x, defArgs st, defBody st, defScope st, [], []⟩
def fn : List He.DefD := ([dfOf "common" s_common, dfOf "whole_root" s_whole_root, dfOf "root_parts" s_root_parts, dfOf "lowest" s_lowest, dfOf "surd_of" s_surd_of, dfOf "surd_sum" s_surd_sum, dfOf "surd_times" s_surd_times, dfOf "surd_turned" s_surd_turned, dfOf "surd_sign" s_surd_sign, dfOf "surd_order" s_surd_order, dfOf "whole_part" s_whole_part, dfOf "_law_own_bag" s__law_own_bag, dfOf "_law_draw" s__law_draw, dfOf "_law_pick" s__law_pick, dfOf "_law_great" s__law_great, dfOf "_law_refused" s__law_refused, dfOf "_law_like" s__law_like, dfOf "_law_common" s__law_common, dfOf "_law_root_of" s__law_root_of, dfOf "_law_parts" s__law_parts, dfOf "_law_surd" s__law_surd, dfOf "_law_square_free" s__law_square_free, dfOf "_law_integer" s__law_integer, dfOf "_law_told" s__law_told, dfOf "_law_own_sign" s__law_own_sign, dfOf "_law_own_sum" s__law_own_sum, dfOf "_law_own_times" s__law_own_times, dfOf "_law_own_whole" s__law_own_whole, dfOf "_law_due" s__law_due, dfOf "_law_handed" s__law_handed] : List He.DefD) ++ ([dfOf "_law_near" s__law_near, dfOf "_law_near_asks" s__law_near_asks, dfOf "_law_plain_asks" s__law_plain_asks, dfOf "_law_is_told_right" s__law_is_told_right, dfOf "_law_are_right" s__law_are_right, dfOf "law" s_law] : List He.DefD)
def fa : List He.Fa := ([.glo "common", .glo "whole_root", .glo "root_parts", .glo "lowest", .glo "surd_of", .glo "surd_sum", .glo "surd_times", .glo "surd_turned", .glo "surd_sign", .glo "surd_order", .glo "whole_part", .glo "_law_own_bag", .glo "_law_draw", .glo "_law_pick", .glo "_law_great", .glo "_law_refused", .glo "_law_like", .glo "_law_common", .glo "_law_root_of", .glo "_law_parts", .glo "_law_surd", .glo "_law_square_free", .glo "_law_integer", .glo "_law_told", .glo "_law_own_sign", .glo "_law_own_sum", .glo "_law_own_times", .glo "_law_own_whole", .glo "_law_due", .glo "_law_handed"] : List He.Fa) ++ ([.glo "_law_near", .glo "_law_near_asks", .glo "_law_plain_asks", .glo "_law_is_told_right", .glo "_law_are_right", .glo "law", .free "ValueError", .free "abs", .free "int", .free "isinstance", .free "len", .free "list", .free "max", .free "range", .free "repr", .free "reversed"] : List He.Fa)
abbrev R : PySem.W.OpenRow := PySem.W.OpenLaw.row PySem.Challenge.rw_linecuts_k02_whole_surd_orders
abbrev hk : PySem.W.Hook := He.hookD 4 fa fn
def ob (s : PySem.W.SharedT) : He.AlD := He.obsDG 4 fa fn (HandSHeadRun.getT s)
theorem ob_eq (s : PySem.W.SharedT) : ob s = hk.obs s.abs := He.obsDG_eq (HandSHeadRun.getT_eq s)
def loose : List PySem.Str := (["LineError", "Unfit", "TooMany", "BadText", "BadChain", "BadLog", "Refused", "NothingToUndo", "common", "whole_root", "root_parts", "lowest", "surd_of", "surd_sum", "surd_times", "surd_turned", "surd_sign", "surd_order", "whole_part", "_law_own_bag", "_law_draw", "_law_pick", "_law_great", "_law_refused", "_law_like", "_law_common", "_law_root_of", "_law_parts", "_law_surd", "_law_square_free"] : List PySem.Str) ++ (["_law_integer", "_law_told", "_law_own_sign", "_law_own_sum", "_law_own_times", "_law_own_whole", "_law_due", "_law_handed", "_law_near", "_law_near_asks", "_law_plain_asks", "_law_is_told_right", "_law_are_right"] : List PySem.Str)
theorem run (w : World) : HandSHeadRun.RunEq R (PySem.W.view R.prog [48]) hk ob 20000 loose w := by
  intro os
  kernel_rfl
theorem facts {P : Program} {w : World} {K : PySem.W.Frag} {h : Heap} {mg : Str → Option Value} {f : Addr} (X : K.In h) (G : h.Ns mainGlobals mg) (hfa : mg ("law" : Str) = some (.ref f)) (c : He.SaysD fa fn K) : ∀ base : Heap, K.In base → base.Ns mainGlobals mg → FnL P w K mg base f := by
  have bl : Bl mg := ⟨He.free_ok X G (c.fact 43 (f := .free "range") rfl), He.free_ok X G (c.fact 37 (f := .free "abs") rfl), He.free_ok X G (c.fact 42 (f := .free "max") rfl), He.free_ok X G (c.fact 38 (f := .free "int") rfl), He.free_ok X G (c.fact 40 (f := .free "len") rfl), He.free_ok X G (c.fact 41 (f := .free "list") rfl), He.free_ok X G (c.fact 45 (f := .free "reversed") rfl), He.free_ok X G (c.fact 44 (f := .free "repr") rfl)⟩
  obtain ⟨fd__law_draw, F__law_draw⟩ := c.def_ 12 (d := dfOf "_law_draw" s__law_draw) rfl
  have z__law_draw := He.glo_ok X G (c.fact 12 (f := .glo "_law_draw") rfl)
  obtain ⟨fd_common, F_common⟩ := c.def_ 0 (d := dfOf "common" s_common) rfl
  have z_common := He.glo_ok X G (c.fact 0 (f := .glo "common") rfl)
  obtain ⟨fd_whole_root, F_whole_root⟩ := c.def_ 1 (d := dfOf "whole_root" s_whole_root) rfl
  have z_whole_root := He.glo_ok X G (c.fact 1 (f := .glo "whole_root") rfl)
  obtain ⟨fd_surd_turned, F_surd_turned⟩ := c.def_ 7 (d := dfOf "surd_turned" s_surd_turned) rfl
  have z_surd_turned := He.glo_ok X G (c.fact 7 (f := .glo "surd_turned") rfl)
  obtain ⟨fd_surd_sign, F_surd_sign⟩ := c.def_ 8 (d := dfOf "surd_sign" s_surd_sign) rfl
  have z_surd_sign := He.glo_ok X G (c.fact 8 (f := .glo "surd_sign") rfl)
  obtain ⟨fd__law_own_bag, F__law_own_bag⟩ := c.def_ 11 (d := dfOf "_law_own_bag" s__law_own_bag) rfl
  have z__law_own_bag := He.glo_ok X G (c.fact 11 (f := .glo "_law_own_bag") rfl)
  obtain ⟨fd__law_like, F__law_like⟩ := c.def_ 16 (d := dfOf "_law_like" s__law_like) rfl
  have z__law_like := He.glo_ok X G (c.fact 16 (f := .glo "_law_like") rfl)
  obtain ⟨fd__law_common, F__law_common⟩ := c.def_ 17 (d := dfOf "_law_common" s__law_common) rfl
  have z__law_common := He.glo_ok X G (c.fact 17 (f := .glo "_law_common") rfl)
  obtain ⟨fd__law_root_of, F__law_root_of⟩ := c.def_ 18 (d := dfOf "_law_root_of" s__law_root_of) rfl
  have z__law_root_of := He.glo_ok X G (c.fact 18 (f := .glo "_law_root_of") rfl)
  obtain ⟨fd__law_own_sign, F__law_own_sign⟩ := c.def_ 24 (d := dfOf "_law_own_sign" s__law_own_sign) rfl
  have z__law_own_sign := He.glo_ok X G (c.fact 24 (f := .glo "_law_own_sign") rfl)
  obtain ⟨fd_root_parts, F_root_parts⟩ := c.def_ 2 (d := dfOf "root_parts" s_root_parts) rfl
  have z_root_parts := He.glo_ok X G (c.fact 2 (f := .glo "root_parts") rfl)
  obtain ⟨fd_lowest, F_lowest⟩ := c.def_ 3 (d := dfOf "lowest" s_lowest) rfl
  have z_lowest := He.glo_ok X G (c.fact 3 (f := .glo "lowest") rfl)
  obtain ⟨fd_whole_part, F_whole_part⟩ := c.def_ 10 (d := dfOf "whole_part" s_whole_part) rfl
  have z_whole_part := He.glo_ok X G (c.fact 10 (f := .glo "whole_part") rfl)
  obtain ⟨fd__law_pick, F__law_pick⟩ := c.def_ 13 (d := dfOf "_law_pick" s__law_pick) rfl
  have z__law_pick := He.glo_ok X G (c.fact 13 (f := .glo "_law_pick") rfl)
  obtain ⟨fd__law_great, F__law_great⟩ := c.def_ 14 (d := dfOf "_law_great" s__law_great) rfl
  have z__law_great := He.glo_ok X G (c.fact 14 (f := .glo "_law_great") rfl)
  obtain ⟨fd__law_parts, F__law_parts⟩ := c.def_ 19 (d := dfOf "_law_parts" s__law_parts) rfl
  have z__law_parts := He.glo_ok X G (c.fact 19 (f := .glo "_law_parts") rfl)
  obtain ⟨fd__law_surd, F__law_surd⟩ := c.def_ 20 (d := dfOf "_law_surd" s__law_surd) rfl
  have z__law_surd := He.glo_ok X G (c.fact 20 (f := .glo "_law_surd") rfl)
  obtain ⟨fd__law_own_whole, F__law_own_whole⟩ := c.def_ 27 (d := dfOf "_law_own_whole" s__law_own_whole) rfl
  have z__law_own_whole := He.glo_ok X G (c.fact 27 (f := .glo "_law_own_whole") rfl)
  obtain ⟨fd__law_near, F__law_near⟩ := c.def_ 30 (d := dfOf "_law_near" s__law_near) rfl
  have z__law_near := He.glo_ok X G (c.fact 30 (f := .glo "_law_near") rfl)
  obtain ⟨fd_surd_of, F_surd_of⟩ := c.def_ 4 (d := dfOf "surd_of" s_surd_of) rfl
  have z_surd_of := He.glo_ok X G (c.fact 4 (f := .glo "surd_of") rfl)
  obtain ⟨fd_surd_sum, F_surd_sum⟩ := c.def_ 5 (d := dfOf "surd_sum" s_surd_sum) rfl
  have z_surd_sum := He.glo_ok X G (c.fact 5 (f := .glo "surd_sum") rfl)
  obtain ⟨fd_surd_times, F_surd_times⟩ := c.def_ 6 (d := dfOf "surd_times" s_surd_times) rfl
  have z_surd_times := He.glo_ok X G (c.fact 6 (f := .glo "surd_times") rfl)
  obtain ⟨fd__law_square_free, F__law_square_free⟩ := c.def_ 21 (d := dfOf "_law_square_free" s__law_square_free) rfl
  have z__law_square_free := He.glo_ok X G (c.fact 21 (f := .glo "_law_square_free") rfl)
  obtain ⟨fd__law_integer, F__law_integer⟩ := c.def_ 22 (d := dfOf "_law_integer" s__law_integer) rfl
  have z__law_integer := He.glo_ok X G (c.fact 22 (f := .glo "_law_integer") rfl)
  obtain ⟨fd__law_own_sum, F__law_own_sum⟩ := c.def_ 25 (d := dfOf "_law_own_sum" s__law_own_sum) rfl
  have z__law_own_sum := He.glo_ok X G (c.fact 25 (f := .glo "_law_own_sum") rfl)
  obtain ⟨fd__law_own_times, F__law_own_times⟩ := c.def_ 26 (d := dfOf "_law_own_times" s__law_own_times) rfl
  have z__law_own_times := He.glo_ok X G (c.fact 26 (f := .glo "_law_own_times") rfl)
  obtain ⟨fd_surd_order, F_surd_order⟩ := c.def_ 9 (d := dfOf "surd_order" s_surd_order) rfl
  have z_surd_order := He.glo_ok X G (c.fact 9 (f := .glo "surd_order") rfl)
  obtain ⟨fd__law_due, F__law_due⟩ := c.def_ 28 (d := dfOf "_law_due" s__law_due) rfl
  have z__law_due := He.glo_ok X G (c.fact 28 (f := .glo "_law_due") rfl)
  obtain ⟨fd__law_handed, F__law_handed⟩ := c.def_ 29 (d := dfOf "_law_handed" s__law_handed) rfl
  have z__law_handed := He.glo_ok X G (c.fact 29 (f := .glo "_law_handed") rfl)
  obtain ⟨fd__law_near_asks, F__law_near_asks⟩ := c.def_ 31 (d := dfOf "_law_near_asks" s__law_near_asks) rfl
  have z__law_near_asks := He.glo_ok X G (c.fact 31 (f := .glo "_law_near_asks") rfl)
  obtain ⟨fd__law_told, F__law_told⟩ := c.def_ 23 (d := dfOf "_law_told" s__law_told) rfl
  have z__law_told := He.glo_ok X G (c.fact 23 (f := .glo "_law_told") rfl)
  obtain ⟨fd__law_plain_asks, F__law_plain_asks⟩ := c.def_ 32 (d := dfOf "_law_plain_asks" s__law_plain_asks) rfl
  have z__law_plain_asks := He.glo_ok X G (c.fact 32 (f := .glo "_law_plain_asks") rfl)
  obtain ⟨fd__law_are_right, F__law_are_right⟩ := c.def_ 34 (d := dfOf "_law_are_right" s__law_are_right) rfl
  have z__law_are_right := He.glo_ok X G (c.fact 34 (f := .glo "_law_are_right") rfl)
  obtain ⟨fd__law_is_told_right, F__law_is_told_right⟩ := c.def_ 33 (d := dfOf "_law_is_told_right" s__law_is_told_right) rfl
  have z__law_is_told_right := He.glo_ok X G (c.fact 33 (f := .glo "_law_is_told_right") rfl)
  obtain ⟨fd_law, F_law⟩ := c.def_ 35 (d := dfOf "law" s_law) rfl
  have e := hfa.symm.trans (He.glo_ok X G (c.fact 35 (f := .glo "law") rfl))
  cases e
  intro base _ _
  have O__law_draw := ok__law_draw (P := P) (w := w) (base := base) (fun_of F__law_draw) bl 
  have b__law_draw : Binds K fd__law_draw ["bag", "below"] [] := F__law_draw.bindsN (fun _ _ _ _ _ _ us hl => match us, hl with | [_, _], _ => rfl)
  have C__law_draw := Kn.mk O__law_draw z__law_draw F__law_draw.kp b__law_draw
  have O_common := ok_common (P := P) (w := w) (base := base) (fun_of F_common) bl 
  have b_common : Binds K fd_common ["one", "other"] [] := F_common.bindsN (fun _ _ _ _ _ _ us hl => match us, hl with | [_, _], _ => rfl)
  have C_common := Kn.mk O_common z_common F_common.kp b_common
  have O_whole_root := ok_whole_root (P := P) (w := w) (base := base) (fun_of F_whole_root) bl 
  have b_whole_root : Binds K fd_whole_root ["number"] [] := F_whole_root.bindsN (fun _ _ _ _ _ _ us hl => match us, hl with | [_], _ => rfl)
  have C_whole_root := Kn.mk O_whole_root z_whole_root F_whole_root.kp b_whole_root
  have O_surd_turned := ok_surd_turned (P := P) (w := w) (base := base) (fun_of F_surd_turned) bl 
  have b_surd_turned : Binds K fd_surd_turned ["one"] [] := F_surd_turned.bindsN (fun _ _ _ _ _ _ us hl => match us, hl with | [_], _ => rfl)
  have C_surd_turned := Kn.mk O_surd_turned z_surd_turned F_surd_turned.kp b_surd_turned
  have O_surd_sign := ok_surd_sign (P := P) (w := w) (base := base) (fun_of F_surd_sign) bl 
  have b_surd_sign : Binds K fd_surd_sign ["one"] [] := F_surd_sign.bindsN (fun _ _ _ _ _ _ us hl => match us, hl with | [_], _ => rfl)
  have C_surd_sign := Kn.mk O_surd_sign z_surd_sign F_surd_sign.kp b_surd_sign
  have K_surd_sign_one := KnK.mk (ks := ["one"]) (is := [0]) O_surd_sign z_surd_sign F_surd_sign.kp (kwb_of (x := "surd_sign") (qual := "surd_sign") (st := s_surd_sign) (fun_of F_surd_sign) (fun _ _ _ _ _ _ ws hl => match ws, hl with | [_], _ => rfl))
  have O__law_own_bag := ok__law_own_bag (P := P) (w := w) (base := base) (fun_of F__law_own_bag) bl 
  have b__law_own_bag : Binds K fd__law_own_bag ["script"] [] := F__law_own_bag.bindsN (fun _ _ _ _ _ _ us hl => match us, hl with | [_], _ => rfl)
  have O__law_like := ok__law_like (P := P) (w := w) (base := base) (fun_of F__law_like) bl 
  have b__law_like : Binds K fd__law_like ["told", "due"] [] := F__law_like.bindsN (fun _ _ _ _ _ _ us hl => match us, hl with | [_, _], _ => rfl)
  have C__law_like := Kn.mk O__law_like z__law_like F__law_like.kp b__law_like
  have O__law_common := ok__law_common (P := P) (w := w) (base := base) (fun_of F__law_common) bl 
  have b__law_common : Binds K fd__law_common ["one", "other"] [] := F__law_common.bindsN (fun _ _ _ _ _ _ us hl => match us, hl with | [_, _], _ => rfl)
  have C__law_common := Kn.mk O__law_common z__law_common F__law_common.kp b__law_common
  have O__law_root_of := ok__law_root_of (P := P) (w := w) (base := base) (fun_of F__law_root_of) bl 
  have b__law_root_of : Binds K fd__law_root_of ["n"] [] := F__law_root_of.bindsN (fun _ _ _ _ _ _ us hl => match us, hl with | [_], _ => rfl)
  have C__law_root_of := Kn.mk O__law_root_of z__law_root_of F__law_root_of.kp b__law_root_of
  have O__law_own_sign := ok__law_own_sign (P := P) (w := w) (base := base) (fun_of F__law_own_sign) bl 
  have b__law_own_sign : Binds K fd__law_own_sign ["a", "b", "d"] [] := F__law_own_sign.bindsN (fun _ _ _ _ _ _ us hl => match us, hl with | [_, _, _], _ => rfl)
  have C__law_own_sign := Kn.mk O__law_own_sign z__law_own_sign F__law_own_sign.kp b__law_own_sign
  have O_root_parts := ok_root_parts (P := P) (w := w) (base := base) (fun_of F_root_parts) bl (C_whole_root.up (by decide))
  have b_root_parts : Binds K fd_root_parts ["number"] [] := F_root_parts.bindsN (fun _ _ _ _ _ _ us hl => match us, hl with | [_], _ => rfl)
  have C_root_parts := Kn.mk O_root_parts z_root_parts F_root_parts.kp b_root_parts
  have O_lowest := ok_lowest (P := P) (w := w) (base := base) (fun_of F_lowest) bl (C_common.up (by decide))
  have b_lowest : Binds K fd_lowest ["a", "b", "c", "d"] [] := F_lowest.bindsN (fun _ _ _ _ _ _ us hl => match us, hl with | [_, _, _, _], _ => rfl)
  have C_lowest := Kn.mk O_lowest z_lowest F_lowest.kp b_lowest
  have O_whole_part := ok_whole_part (P := P) (w := w) (base := base) (fun_of F_whole_part) bl (C_whole_root.up (by decide))
  have b_whole_part : Binds K fd_whole_part ["one"] [] := F_whole_part.bindsN (fun _ _ _ _ _ _ us hl => match us, hl with | [_], _ => rfl)
  have C_whole_part := Kn.mk O_whole_part z_whole_part F_whole_part.kp b_whole_part
  have K_whole_part_one := KnK.mk (ks := ["one"]) (is := [0]) O_whole_part z_whole_part F_whole_part.kp (kwb_of (x := "whole_part") (qual := "whole_part") (st := s_whole_part) (fun_of F_whole_part) (fun _ _ _ _ _ _ ws hl => match ws, hl with | [_], _ => rfl))
  have O__law_pick := ok__law_pick (P := P) (w := w) (base := base) (fun_of F__law_pick) bl (C__law_draw.up (by decide))
  have b__law_pick : Binds K fd__law_pick ["bag", "some"] [] := F__law_pick.bindsN (fun _ _ _ _ _ _ us hl => match us, hl with | [_, _], _ => rfl)
  have C__law_pick := Kn.mk O__law_pick z__law_pick F__law_pick.kp b__law_pick
  have O__law_great := ok__law_great (P := P) (w := w) (base := base) (fun_of F__law_great) bl (C__law_draw.up (by decide))
  have b__law_great : Binds K fd__law_great ["bag", "below"] [] := F__law_great.bindsN (fun _ _ _ _ _ _ us hl => match us, hl with | [_, _], _ => rfl)
  have C__law_great := Kn.mk O__law_great z__law_great F__law_great.kp b__law_great
  have O__law_parts := ok__law_parts (P := P) (w := w) (base := base) (fun_of F__law_parts) bl (C__law_root_of.up (by decide))
  have b__law_parts : Binds K fd__law_parts ["d"] [] := F__law_parts.bindsN (fun _ _ _ _ _ _ us hl => match us, hl with | [_], _ => rfl)
  have C__law_parts := Kn.mk O__law_parts z__law_parts F__law_parts.kp b__law_parts
  have O__law_surd := ok__law_surd (P := P) (w := w) (base := base) (fun_of F__law_surd) bl (C__law_common.up (by decide))
  have b__law_surd : Binds K fd__law_surd ["a", "b", "c", "d"] [] := F__law_surd.bindsN (fun _ _ _ _ _ _ us hl => match us, hl with | [_, _, _, _], _ => rfl)
  have C__law_surd := Kn.mk O__law_surd z__law_surd F__law_surd.kp b__law_surd
  have O__law_own_whole := ok__law_own_whole (P := P) (w := w) (base := base) (fun_of F__law_own_whole) bl (C__law_root_of.up (by decide))
  have b__law_own_whole : Binds K fd__law_own_whole ["one"] [] := F__law_own_whole.bindsN (fun _ _ _ _ _ _ us hl => match us, hl with | [_], _ => rfl)
  have C__law_own_whole := Kn.mk O__law_own_whole z__law_own_whole F__law_own_whole.kp b__law_own_whole
  have O__law_near := ok__law_near (P := P) (w := w) (base := base) (fun_of F__law_near) bl (C__law_root_of.up (by decide))
  have b__law_near : Binds K fd__law_near ["bag", "root", "steps"] [] := F__law_near.bindsN (fun _ _ _ _ _ _ us hl => match us, hl with | [_, _, _], _ => rfl)
  have C__law_near := Kn.mk O__law_near z__law_near F__law_near.kp b__law_near
  have O_surd_of := ok_surd_of (P := P) (w := w) (base := base) (fun_of F_surd_of) bl (C_root_parts.up (by decide)) (C_lowest.up (by decide))
  have b_surd_of : Binds K fd_surd_of ["a", "b", "c", "d"] [] := F_surd_of.bindsN (fun _ _ _ _ _ _ us hl => match us, hl with | [_, _, _, _], _ => rfl)
  have C_surd_of := Kn.mk O_surd_of z_surd_of F_surd_of.kp b_surd_of
  have O_surd_sum := ok_surd_sum (P := P) (w := w) (base := base) (fun_of F_surd_sum) bl (C_lowest.up (by decide))
  have b_surd_sum : Binds K fd_surd_sum ["one", "other"] [] := F_surd_sum.bindsN (fun _ _ _ _ _ _ us hl => match us, hl with | [_, _], _ => rfl)
  have C_surd_sum := Kn.mk O_surd_sum z_surd_sum F_surd_sum.kp b_surd_sum
  have O_surd_times := ok_surd_times (P := P) (w := w) (base := base) (fun_of F_surd_times) bl (C_lowest.up (by decide))
  have b_surd_times : Binds K fd_surd_times ["one", "other"] [] := F_surd_times.bindsN (fun _ _ _ _ _ _ us hl => match us, hl with | [_, _], _ => rfl)
  have C_surd_times := Kn.mk O_surd_times z_surd_times F_surd_times.kp b_surd_times
  have O__law_square_free := ok__law_square_free (P := P) (w := w) (base := base) (fun_of F__law_square_free) bl (C__law_draw.up (by decide)) (C__law_pick.up (by decide)) (C__law_parts.up (by decide))
  have b__law_square_free : Binds K fd__law_square_free ["bag"] [] := F__law_square_free.bindsN (fun _ _ _ _ _ _ us hl => match us, hl with | [_], _ => rfl)
  have C__law_square_free := Kn.mk O__law_square_free z__law_square_free F__law_square_free.kp b__law_square_free
  have O__law_integer := ok__law_integer (P := P) (w := w) (base := base) (fun_of F__law_integer) bl (C__law_pick.up (by decide)) (C__law_great.up (by decide)) (C__law_draw.up (by decide))
  have b__law_integer : Binds K fd__law_integer ["bag"] [] := F__law_integer.bindsN (fun _ _ _ _ _ _ us hl => match us, hl with | [_], _ => rfl)
  have C__law_integer := Kn.mk O__law_integer z__law_integer F__law_integer.kp b__law_integer
  have O__law_own_sum := ok__law_own_sum (P := P) (w := w) (base := base) (fun_of F__law_own_sum) bl (C__law_surd.up (by decide))
  have b__law_own_sum : Binds K fd__law_own_sum ["one", "other"] [] := F__law_own_sum.bindsN (fun _ _ _ _ _ _ us hl => match us, hl with | [_, _], _ => rfl)
  have C__law_own_sum := Kn.mk O__law_own_sum z__law_own_sum F__law_own_sum.kp b__law_own_sum
  have O__law_own_times := ok__law_own_times (P := P) (w := w) (base := base) (fun_of F__law_own_times) bl (C__law_surd.up (by decide))
  have b__law_own_times : Binds K fd__law_own_times ["one", "other"] [] := F__law_own_times.bindsN (fun _ _ _ _ _ _ us hl => match us, hl with | [_, _], _ => rfl)
  have C__law_own_times := Kn.mk O__law_own_times z__law_own_times F__law_own_times.kp b__law_own_times
  have O_surd_order := ok_surd_order (P := P) (w := w) (base := base) (fun_of F_surd_order) bl (C_surd_sign.up (by decide)) (C_surd_sum.up (by decide)) (C_surd_turned.up (by decide))
  have b_surd_order : Binds K fd_surd_order ["one", "other"] [] := F_surd_order.bindsN (fun _ _ _ _ _ _ us hl => match us, hl with | [_, _], _ => rfl)
  have C_surd_order := Kn.mk O_surd_order z_surd_order F_surd_order.kp b_surd_order
  have K_surd_order_other_one := KnK.mk (ks := ["other", "one"]) (is := [1, 0]) O_surd_order z_surd_order F_surd_order.kp (kwb_of (x := "surd_order") (qual := "surd_order") (st := s_surd_order) (fun_of F_surd_order) (fun _ _ _ _ _ _ ws hl => match ws, hl with | [_, _], _ => rfl))
  have O__law_due := ok__law_due (P := P) (w := w) (base := base) (fun_of F__law_due) bl (C__law_own_sign.up (by decide)) (C__law_own_whole.up (by decide)) (C__law_own_sum.up (by decide)) (C__law_own_times.up (by decide))
  have b__law_due : Binds K fd__law_due ["word", "row"] [] := F__law_due.bindsN (fun _ _ _ _ _ _ us hl => match us, hl with | [_, _], _ => rfl)
  have C__law_due := Kn.mk O__law_due z__law_due F__law_due.kp b__law_due
  have O__law_handed := ok__law_handed (P := P) (w := w) (base := base) (fun_of F__law_handed) bl (C__law_integer.up (by decide)) (C__law_draw.up (by decide)) (C__law_surd.up (by decide))
  have b__law_handed : Binds K fd__law_handed ["bag", "root"] [] := F__law_handed.bindsN (fun _ _ _ _ _ _ us hl => match us, hl with | [_, _], _ => rfl)
  have C__law_handed := Kn.mk O__law_handed z__law_handed F__law_handed.kp b__law_handed
  have O__law_near_asks := ok__law_near_asks (P := P) (w := w) (base := base) (fun_of F__law_near_asks) bl (C__law_near.up (by decide)) (C__law_pick.up (by decide)) (C__law_draw.up (by decide)) (C__law_surd.up (by decide)) (C__law_own_sum.up (by decide))
  have b__law_near_asks : Binds K fd__law_near_asks ["bag", "root"] [] := F__law_near_asks.bindsN (fun _ _ _ _ _ _ us hl => match us, hl with | [_, _], _ => rfl)
  have C__law_near_asks := Kn.mk O__law_near_asks z__law_near_asks F__law_near_asks.kp b__law_near_asks
  have O__law_told := ok__law_told (P := P) (w := w) (base := base) (fun_of F__law_told) bl (C_surd_sign.up (by decide)) (C_surd_order.up (by decide)) (C_whole_part.up (by decide)) (C_surd_sum.up (by decide)) (C_surd_turned.up (by decide)) (C_surd_of.up (by decide)) (C_surd_times.up (by decide)) (K_surd_sign_one.up (by decide)) (K_surd_order_other_one.up (by decide)) (K_whole_part_one.up (by decide))
  have b__law_told : Binds K fd__law_told ["word", "row", "is_named"] [] := F__law_told.bindsN (fun _ _ _ _ _ _ us hl => match us, hl with | [_, _, _], _ => rfl)
  have C__law_told := Kn.mk O__law_told z__law_told F__law_told.kp b__law_told
  have O__law_plain_asks := ok__law_plain_asks (P := P) (w := w) (base := base) (fun_of F__law_plain_asks) bl (C__law_handed.up (by decide)) (C__law_surd.up (by decide)) (C__law_draw.up (by decide)) (C__law_integer.up (by decide)) (C__law_pick.up (by decide))
  have b__law_plain_asks : Binds K fd__law_plain_asks ["bag", "root"] [] := F__law_plain_asks.bindsN (fun _ _ _ _ _ _ us hl => match us, hl with | [_, _], _ => rfl)
  have C__law_plain_asks := Kn.mk O__law_plain_asks z__law_plain_asks F__law_plain_asks.kp b__law_plain_asks
  have O__law_are_right := ok__law_are_right (P := P) (w := w) (base := base) (fun_of F__law_are_right) bl (C__law_due.up (by decide)) (C__law_draw.up (by decide)) (C__law_like.up (by decide)) (C__law_told.up (by decide))
  have b__law_are_right : Binds K fd__law_are_right ["bag", "asks"] [] := F__law_are_right.bindsN (fun _ _ _ _ _ _ us hl => match us, hl with | [_, _], _ => rfl)
  have C__law_are_right := Kn.mk O__law_are_right z__law_are_right F__law_are_right.kp b__law_are_right
  have O__law_is_told_right := ok__law_is_told_right (P := P) (w := w) (base := base) (fun_of F__law_is_told_right) bl (C__law_draw.up (by decide)) (C__law_integer.up (by decide)) (C__law_told.up (by decide)) (C__law_like.up (by decide)) (C__law_surd.up (by decide)) (C__law_near.up (by decide)) (C__law_pick.up (by decide)) (C__law_due.up (by decide)) (C__law_own_whole.up (by decide)) (C__law_are_right.up (by decide))
  have b__law_is_told_right : Binds K fd__law_is_told_right ["bag", "root"] [] := F__law_is_told_right.bindsN (fun _ _ _ _ _ _ us hl => match us, hl with | [_, _], _ => rfl)
  have C__law_is_told_right := Kn.mk O__law_is_told_right z__law_is_told_right F__law_is_told_right.kp b__law_is_told_right
  have hb := FunD.bindsA (ps := ["script"]) F_law (fun _ _ _ _ _ _ us hl => match us, hl with | [_], _ => rfl)
  exact ok_law (fun_of F_law) bl (O__law_own_bag.up (by decide)) z__law_own_bag F__law_own_bag.kp b__law_own_bag (C__law_square_free.up (by decide)) (C__law_are_right.up (by decide)) (C__law_plain_asks.up (by decide)) (C__law_near_asks.up (by decide)) (C__law_is_told_right.up (by decide)) fun s v => hb s [v] rfl
end T
end DL
open PySem PySem.W PySem.Calls PyProof.Rows
theorem PySem.Challenge.cw_linecuts_k02_whole_surd_orders_holds : PySem.Challenge.rw_linecuts_k02_whole_surd_orders.Holds := by
  w_on; o_law
  refine HandSHeadRun.head_any (r := OpenLaw.row PySem.Challenge.rw_linecuts_k02_whole_surd_orders) (q := view (OpenLaw.row PySem.Challenge.rw_linecuts_k02_whole_surd_orders).prog [48]) (H := DL.T.hk) (ob := DL.T.ob) (M := 20000) (loose := DL.T.loose) (d := HandSHeadRun.topDef (OpenLaw.row PySem.Challenge.rw_linecuts_k02_whole_surd_orders).prog 48) (kwd := []) DL.T.ob_eq
    (by kernel_rfl) (fun s => by kernel_rfl) DL.T.run (by kernel_rfl) (by kernel_rfl) (by kernel_rfl) (by rfl) (by first | assumption | decide +kernel) (by decide +kernel) ⟨rfl, rfl, rfl, rfl, rfl, by decide +kernel⟩ ?hw ?hc
  case hw => w_witness2
  case hc =>
    refine DL.walk_law (l := PySem.Challenge.rw_linecuts_k02_whole_surd_orders) (n := 63) rfl (by decide) (by kernel_rfl) ?F
    intro w mg fa h Y G hmg0
    obtain ⟨K, KX, c⟩ := Y
    have hmg : mg ("law" : PySem.Str) = some (.ref fa) := by
      have e : (HandSHeadRun.topDef (OpenLaw.row PySem.Challenge.rw_linecuts_k02_whole_surd_orders).prog 48).name = ("law" : PySem.Str) := by kernel_rfl
      rw [← e]
      exact hmg0
    exact ⟨K, KX, DL.T.facts (P := (PySem.Challenge.rw_linecuts_k02_whole_surd_orders).prog) (w := w) KX G hmg c⟩
