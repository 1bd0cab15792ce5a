import PyProof.Rows.All
import Wide.All
import OpenK.AllK
import Wide.FinOn
import HandS.ForMost
import HandS.Evl
import HandS.Wide
import HandS.Style
import HandS.TupAny
import HandS.Conv
import HandS.Zip
import HandS.RevTup
import HandS.Rev
import HandS.NoneIn
import HandS.WideBits
import HandS.Exc
import HandS.Ends
import HandS.HeadEnd
import HandS.Defaults
import HandS.TupMul
import HandS.SortInts
import HandS.Deep
import KE.KTupSum
import HandS.IsInst
import HandS.Dict
import KE.GoesMore
import HandS.Iter
import HandS.Flt
import KE.KExcSuper
import HandS.ExcInit
import HandS.ExcIs
import HandS.ExcField
import HandS.HeadHook1
import HandS.TryMany
import KE.KExcIs
import HandS.HeadHook2
import PySem.Challenge.RW_linecuts_k11_whole_changes
import KE.KStateDown
import HandS.Head0
import HandS.Head1
import HandS.Head2
set_option Elab.async false
set_option linter.all false
set_option maxRecDepth 100000
set_option maxHeartbeats 0
set_option autoImplicit false
set_option exponentiation.threshold 2000
/-! DL: data-level readings over the hand layer. What a piece of syntax does is told as a function on data (PyData); slots hold data that stands (sh), a list of one's own (ow) or the bag (bg). -/
namespace DL
open PySem L2
abbrev D := PyData
abbrev Ex := Evl.Ex
/-- an error: its class's name, its field -/
structure Xn where
  nm : Str
  fl : Option (Str × D)
/-- what a slot holds -/
inductive Sl where
  | un
  | sh (d : D)
  | ow (ds : List D)
  | bg
  | ex (x : Xn)
abbrev Env := List Sl
/-- the bag: where it stands, its objects, what is known of them; B0, H0: the state at the entry -/
structure Bg where
  pb : Addr
  mem : Addr → Prop
  ok : Hp → Prop
  loc : ∀ H H' : Hp, (∀ a, mem a → H' a = H a) → ok H → ok H'
structure C extends Bg where
  B0 : Hp
  H0 : Hp
  xa : Addr := 0
  xd : Option Addr := none
  xn : Str := ""
def C.isBag (c : C) (a : Addr) : Prop := c.mem a
structure BagOk (c : C) (B H : Hp) : Prop where
  out : ∀ a, c.isBag a → B a = none
  here : ∀ a, c.isBag a → H a ≠ none
  ok : c.ok H
theorem BagOk.keep {c : C} {B H B' H' : Hp} (b : BagOk c B H) (k : ∀ a, c.isBag a → B' a = B a ∧ H' a = H a) : BagOk c B' H' :=
  ⟨fun a ha => by rw [(k a ha).1]; exact b.out a ha, fun a ha => by rw [(k a ha).2]; exact b.here a ha, c.loc H H' (fun a ha => (k a ha).2) b.ok⟩
/-- the state of the data: B, what stands and is shared, within H -/
structure Wd (c : C) (B H : Hp) : Prop where
  sub : Ex B H
  bag : BagOk c B H
/-- from one state to a later one: nothing that stood has changed but the bag; what is shared grew by new objects -/
structure Gr (c : C) (B H B' H' : Hp) : Prop where
  b : Ex B B'
  h : ∀ a o, ¬ c.isBag a → H a = some o → H' a = some o
  n : ∀ a, H a ≠ none → B' a = B a
  w : Wd c B' H'
theorem Wd.nb {c : C} {B H : Hp} (w : Wd c B H) {a : Addr} {o : HO} (h : B a = some o) : ¬ c.isBag a := by
  intro z
  rw [w.bag.out a z] at h
  cases h
theorem Wd.there {c : C} {B H : Hp} (w : Wd c B H) {a : Addr} (h : c.isBag a) : H a ≠ none := w.bag.here a h
/-- what is not there is no part of the bag -/
theorem Wd.off {c : C} {B H : Hp} (w : Wd c B H) {a p : Addr} (h : c.isBag a) (hp : H p = none) : a ≠ p := fun z => w.there h (by rw [z]; exact hp)
theorem Gr.refl {c : C} {B H : Hp} (w : Wd c B H) : Gr c B H B H := ⟨Evl.Ex.refl B, fun _ _ _ h => h, fun _ _ => rfl, w⟩
theorem Gr.trans {c : C} {B H B1 H1 B2 H2 : Hp} (w : Wd c B H) (x : Gr c B H B1 H1) (y : Gr c B1 H1 B2 H2) : Gr c B H B2 H2 := by
  refine ⟨x.b.trans y.b, fun a o nb h => y.h a o nb (x.h a o nb h), fun a h => ?_, y.w⟩
  rw [← x.n a h]
  refine y.n a ?_
  by_cases hb : c.isBag a
  · exact x.w.there hb
  · cases e : H a with
    | none => exact absurd e h
    | some o => rw [x.h a o hb e]; exact fun q => nomatch q
/-- a new shared object -/
theorem Gr.new {c : C} {B H : Hp} (w : Wd c B H) {p : Addr} {o : HO} (hp : H p = none) : Gr c B H (upd B p o) (upd H p o) := by
  have hB : B p = none := Evl.fresh_back w.sub hp
  refine ⟨Evl.Ex.new hB, fun a u _ e => ?_, fun a e => ?_, fun a u e => ?_, w.bag.keep fun a ha => ⟨upd_ne (w.off ha hp), upd_ne (w.off ha hp)⟩⟩
  · rw [upd_ne (ne_of_none e hp)]; exact e
  · exact upd_ne fun z => e (by rw [z]; exact hp)
  · by_cases z : a = p
    · subst z; rw [upd_same] at e ⊢; exact e
    · rw [upd_ne z] at e ⊢; exact w.sub a u e
/-- a new object that is not shared (yet) -/
theorem Gr.newO {c : C} {B H : Hp} (w : Wd c B H) {p : Addr} {o : HO} (hp : H p = none) : Gr c B H B (upd H p o) := by
  have hB : B p = none := Evl.fresh_back w.sub hp
  refine ⟨Evl.Ex.refl B, fun a u _ e => ?_, fun a e => rfl, fun a u e => ?_, w.bag.keep fun a ha => ⟨rfl, upd_ne (w.off ha hp)⟩⟩
  · rw [upd_ne (ne_of_none e hp)]; exact e
  · have z : a ≠ p := ne_of_none e hB
    rw [upd_ne z]; exact w.sub a u e
/-! ### data that stands -/
def kD : Key → D
  | .inl i => .int i
  | .inr x => .str x
mutual
inductive Rp (B : Hp) : V → D → Prop
  | non : Rp B .non .none
  | bl (b : Bool) : Rp B (.bl b) (.bool b)
  | int (i : Int) : Rp B (.int i) (.int i)
  | str (x : Str) : Rp B (.str x) (.str x)
  | lst {a : Addr} {xs : List V} {ds : List D} : B a = some (.lst xs) → RpA B xs ds → Rp B (.ref a) (.list ds)
  | tup {a : Addr} {xs : List V} {ds : List D} : B a = some (.tup xs) → RpA B xs ds → Rp B (.ref a) (.tuple ds)
  | dct {a : Addr} {kvs : List (Key × V)} {ds : List D} : B a = some (.dK kvs) → RpA B (kvs.map (·.2)) ds → Rp B (.ref a) (.dict ((kvs.map fun p => kD p.1).zip ds))
inductive RpA (B : Hp) : List V → List D → Prop
  | nil : RpA B [] []
  | cons {v : V} {vs : List V} {d : D} {ds : List D} : Rp B v d → RpA B vs ds → RpA B (v :: vs) (d :: ds)
end
mutual
theorem rp_mono {B B' : Hp} (e : Ex B B') : ∀ {v : V} {d : D}, Rp B v d → Rp B' v d
  | _, _, .non => .non
  | _, _, .bl b => .bl b
  | _, _, .int i => .int i
  | _, _, .str x => .str x
  | _, _, .lst h1 h2 => .lst (e _ _ h1) (rpa_mono e h2)
  | _, _, .tup h1 h2 => .tup (e _ _ h1) (rpa_mono e h2)
  | _, _, .dct h1 h2 => .dct (e _ _ h1) (rpa_mono e h2)
theorem rpa_mono {B B' : Hp} (e : Ex B B') : ∀ {v : List V} {d : List D}, RpA B v d → RpA B' v d
  | _, _, .nil => .nil
  | _, _, .cons h1 h2 => .cons (rp_mono e h1) (rpa_mono e h2)
end
mutual
theorem rp_dp {K : PySem.W.Frag} {B : Hp} : ∀ {v : V} {d : D}, Rp B v d → d.canLay0 = true → Dp K B v d
  | _, _, .non, _ => .non
  | _, _, .bl b, _ => .bl b
  | _, _, .int i, _ => .int i
  | _, _, .str x, _ => .str x
  | _, _, .lst h1 h2, c => .lst (SqL.of h1) (rpa_dp h2 (by simpa [PyData.canLay0] using c))
  | _, _, .tup h1 h2, c => .tup (SqT.of h1) (rpa_dp h2 (by simpa [PyData.canLay0] using c))
  | _, _, .dct _ _, c => by simp [PyData.canLay0] at c
theorem rpa_dp {K : PySem.W.Frag} {B : Hp} : ∀ {v : List V} {d : List D}, RpA B v d → PyData.canLayAll0 d = true → DpAll K B v d
  | _, _, .nil, _ => .nil
  | _, _, .cons h1 h2, c => by
    have c' := c
    simp only [PyData.canLayAll0, Bool.and_eq_true] at c'
    exact .cons (rp_dp h1 c'.1) (rpa_dp h2 c'.2)
end
section
variable {B : Hp}
theorem rpa_len : ∀ {v : List V} {d : List D}, RpA B v d → v.length = d.length
  | _, _, .nil => rfl
  | _, _, .cons _ h2 => by rw [List.length_cons, List.length_cons, rpa_len h2]
theorem rpa_get : ∀ {vs : List V} {ds : List D} {i : Nat} {d : D}, RpA B vs ds → ds[i]? = some d → ∃ v, vs[i]? = some v ∧ Rp B v d
  | _, _, _, _, .nil, e => by simp at e
  | _, _, 0, _, .cons h1 _, e => by simp at e; subst e; exact ⟨_, rfl, h1⟩
  | _, _, i + 1, _, .cons _ h2, e => by
    obtain ⟨v, h3, h4⟩ := rpa_get (i := i) h2 (by simpa using e)
    exact ⟨v, by simpa using h3, h4⟩
theorem rpa_get' : ∀ {vs : List V} {ds : List D} {i : Nat} {v : V}, RpA B vs ds → vs[i]? = some v → ∃ d, ds[i]? = some d ∧ Rp B v d
  | _, _, _, _, .nil, e => by simp at e
  | _, _, 0, _, .cons h1 _, e => by simp at e; subst e; exact ⟨_, rfl, h1⟩
  | _, _, i + 1, _, .cons _ h2, e => by
    obtain ⟨v, h3, h4⟩ := rpa_get' (i := i) h2 (by simpa using e)
    exact ⟨v, by simpa using h3, h4⟩
theorem rpa_app : ∀ {vs ws : List V} {ds es : List D}, RpA B vs ds → RpA B ws es → RpA B (vs ++ ws) (ds ++ es)
  | _, _, _, _, .nil, h => h
  | _, _, _, _, .cons h1 h2, h => .cons h1 (rpa_app h2 h)
theorem rpa_take : ∀ {vs : List V} {ds : List D} (n : Nat), RpA B vs ds → RpA B (vs.take n) (ds.take n)
  | _, _, 0, _ => .nil
  | _, _, _ + 1, .nil => .nil
  | _, _, n + 1, .cons h1 h2 => .cons h1 (rpa_take n h2)
theorem rpa_drop : ∀ {vs : List V} {ds : List D} (n : Nat), RpA B vs ds → RpA B (vs.drop n) (ds.drop n)
  | _, _, 0, h => h
  | _, _, _ + 1, .nil => .nil
  | _, _, n + 1, .cons _ h2 => rpa_drop n h2
theorem rpa_set {v : V} {d : D} (h : Rp B v d) : ∀ {vs : List V} {ds : List D} (i : Nat), RpA B vs ds → RpA B (vs.set i v) (ds.set i d)
  | _, _, _, .nil => .nil
  | _, _, 0, .cons _ h2 => .cons h h2
  | _, _, i + 1, .cons h1 h2 => .cons h1 (rpa_set h i h2)
theorem rpa_rev : ∀ {vs : List V} {ds : List D}, RpA B vs ds → RpA B vs.reverse ds.reverse
  | _, _, .nil => .nil
  | _, _, .cons h1 h2 => by rw [List.reverse_cons, List.reverse_cons]; exact rpa_app (rpa_rev h2) (.cons h1 .nil)
theorem rpa_ints : ∀ {vs : List V} {ns : List Int}, RpA B vs (ns.map PyData.int) → vs = ns.map V.int
  | _, [], h => by cases h; rfl
  | _, n :: ns, h => by
    cases h with
    | cons h1 h2 =>
      cases h1
      rw [rpa_ints h2]; rfl
theorem rpa_of_ints : ∀ (ns : List Int), RpA B (ns.map V.int) (ns.map PyData.int)
  | [] => .nil
  | n :: ns => .cons (.int n) (rpa_of_ints ns)
theorem rpa_bls : ∀ {vs : List V} {ns : List Bool}, RpA B vs (ns.map PyData.bool) → vs = ns.map V.bl
  | _, [], h => by cases h; rfl
  | _, n :: ns, h => by
    cases h with
    | cons h1 h2 =>
      cases h1
      rw [rpa_bls h2]; rfl
theorem rpa_strs : ∀ {vs : List V} {ns : List Str}, RpA B vs (ns.map PyData.str) → vs = ns.map V.str
  | _, [], h => by cases h; rfl
  | _, n :: ns, h => by
    cases h with
    | cons h1 h2 =>
      cases h1
      rw [rpa_strs h2]; rfl
theorem rpa_nil_iff {vs : List V} {ds : List D} (h : RpA B vs ds) : vs = [] ↔ ds = [] := by
  have e := rpa_len h
  rw [← List.length_eq_zero_iff, ← List.length_eq_zero_iff, e]
theorem rp_lst {v : V} {ds : List D} (h : Rp B v (.list ds)) : ∃ a xs, v = .ref a ∧ B a = some (.lst xs) ∧ RpA B xs ds := by
  cases h with
  | lst h1 h2 => exact ⟨_, _, rfl, h1, h2⟩
theorem rp_tup {v : V} {ds : List D} (h : Rp B v (.tuple ds)) : ∃ a xs, v = .ref a ∧ B a = some (.tup xs) ∧ RpA B xs ds := by
  cases h with
  | tup h1 h2 => exact ⟨_, _, rfl, h1, h2⟩
theorem rp_int {v : V} {i : Int} (h : Rp B v (.int i)) : v = .int i := by cases h; rfl
theorem rp_bl {v : V} {i : Bool} (h : Rp B v (.bool i)) : v = .bl i := by cases h; rfl
theorem rp_str {v : V} {i : Str} (h : Rp B v (.str i)) : v = .str i := by cases h; rfl
theorem rp_non {v : V} (h : Rp B v .none) : v = .non := by cases h; rfl
end
/-- a value that may be read: shared, or a list of one's own -/
def Bw (c : C) (B H : Hp) (v : V) (d : D) : Prop :=
  Rp B v d ∨ ∃ p vs ds, v = .ref p ∧ d = .list ds ∧ ¬ c.isBag p ∧ B p = none ∧ H p = some (.lst vs) ∧ RpA B vs ds
section
variable {c : C} {B H B' H' : Hp} {v : V} {d : D}
theorem Bw.of (h : Rp B v d) : Bw c B H v d := .inl h
theorem Bw.mono (g : Gr c B H B' H') (h : Bw c B H v d) : Bw c B' H' v d := by
  rcases h with h | ⟨p, vs, ds, h1, h2, h3, h4, h5, h6⟩
  · exact .inl (rp_mono g.b h)
  · refine .inr ⟨p, vs, ds, h1, h2, h3, ?_, g.h p _ h3 h5, rpa_mono g.b h6⟩
    rw [g.n p (by rw [h5]; exact fun q => nomatch q)]; exact h4
theorem Bw.rp (w : Wd c B H) (h : Bw c B H v d) : Rp H v d := by
  rcases h with h | ⟨p, vs, ds, rfl, rfl, h3, h4, h5, h6⟩
  · exact rp_mono w.sub h
  · exact .lst h5 (rpa_mono w.sub h6)
theorem Bw.list {ds : List D} (w : Wd c B H) (h : Bw c B H v (.list ds)) : ∃ a xs, v = .ref a ∧ H a = some (.lst xs) ∧ RpA B xs ds := by
  rcases h with h | ⟨p, vs, es, rfl, e, h3, h4, h5, h6⟩
  · obtain ⟨a, xs, rfl, h1, h2⟩ := rp_lst h
    exact ⟨a, xs, rfl, w.sub _ _ h1, h2⟩
  · cases e
    exact ⟨p, vs, rfl, h5, h6⟩
theorem Bw.tup {ds : List D} (w : Wd c B H) (h : Bw c B H v (.tuple ds)) : ∃ a xs, v = .ref a ∧ H a = some (.tup xs) ∧ RpA B xs ds := by
  rcases h with h | ⟨p, vs, es, rfl, e, h3, h4, h5, h6⟩
  · obtain ⟨a, xs, rfl, h1, h2⟩ := rp_tup h
    exact ⟨a, xs, rfl, w.sub _ _ h1, h2⟩
  · cases e
theorem Bw.int {i : Int} (h : Bw c B H v (.int i)) : v = .int i := by
  rcases h with h | ⟨p, vs, es, rfl, e, _⟩
  · exact rp_int h
  · cases e
theorem Bw.bl {i : Bool} (h : Bw c B H v (.bool i)) : v = .bl i := by
  rcases h with h | ⟨p, vs, es, rfl, e, _⟩
  · exact rp_bl h
  · cases e
theorem Bw.str {i : Str} (h : Bw c B H v (.str i)) : v = .str i := by
  rcases h with h | ⟨p, vs, es, rfl, e, _⟩
  · exact rp_str h
  · cases e
theorem Bw.non (h : Bw c B H v .none) : v = .non := by
  rcases h with h | ⟨p, vs, es, rfl, e, _⟩
  · exact rp_non h
  · cases e
end
/-- the error that a suite holds -/
def ExOk (c : C) (B H : Hp) (x : Xn) : Prop := (x.nm = c.xn ∧ (x.fl = none → c.xd = none)) ∧ ∀ y dv, x.fl = some (y, dv) → ∃ dd v, c.xd = some dd ∧ ¬ c.isBag dd ∧ H dd = some (.xd [(y, v)]) ∧ Rp B v dv
theorem ExOk.mono {c : C} {B H B' H' : Hp} {x : Xn} (g : Gr c B H B' H') (h : ExOk c B H x) : ExOk c B' H' x :=
  ⟨h.1, fun y dv e => let ⟨dd, v, h1, h2, h3, h4⟩ := h.2 y dv e; ⟨dd, v, h1, h2, g.h dd _ h2 h3, rp_mono g.b h4⟩⟩
/-- what slot holds what -/
def SlOk (c : C) (B H : Hp) (σ : St) (i : Nat) : Sl → Prop
  | .un => True
  | .sh d => ∃ v, σ[i]? = some (some v) ∧ Rp B v d
  | .ow ds => ∃ p vs, σ[i]? = some (some (.ref p)) ∧ c.H0 p = none ∧ ¬ c.isBag p ∧ B p = none ∧ H p = some (.lst vs) ∧ RpA B vs ds
  | .bg => σ[i]? = some (some (.ref c.pb))
  | .ex x => σ[i]? = some (some (.ref c.xa)) ∧ ExOk c B H x
structure EOk (c : C) (B H : Hp) (σ : St) (ρ : Env) : Prop where
  w0 : Wd c c.B0 c.H0
  w : Wd c B H
  g : Gr c c.B0 c.H0 B H
  len : ρ.length = σ.length
  sl : ∀ i s, ρ[i]? = some s → SlOk c B H σ i s
  ap : ∀ (i j : Nat) (p : Addr) (ds es : List D), i ≠ j → ρ[i]? = some (Sl.ow ds) → ρ[j]? = some (Sl.ow es) → σ[i]? = some (some (V.ref p)) → ¬ σ[j]? = some (some (V.ref p))
section
variable {c : C} {B H B' H' : Hp} {σ : St} {ρ : Env}
theorem SlOk.mono {i : Nat} {s : Sl} (g : Gr c B H B' H') (h : SlOk c B H σ i s) : SlOk c B' H' σ i s := by
  cases s with
  | un => trivial
  | sh d => obtain ⟨v, h1, h2⟩ := h; exact ⟨v, h1, rp_mono g.b h2⟩
  | ow ds =>
    obtain ⟨p, vs, h1, h2, h3, h4, h5, h6⟩ := h
    refine ⟨p, vs, h1, h2, h3, ?_, g.h p _ h3 h5, rpa_mono g.b h6⟩
    rw [g.n p (by rw [h5]; exact fun q => nomatch q)]; exact h4
  | bg => exact h
  | ex x => exact ⟨h.1, h.2.mono g⟩
theorem EOk.mono (e : EOk c B H σ ρ) (g : Gr c B H B' H') : EOk c B' H' σ ρ :=
  ⟨e.w0, g.w, e.g.trans e.w0 g, e.len, fun i s h => (e.sl i s h).mono g, e.ap⟩
end
end DL
namespace DL
open PySem L2 PyProof.Rows
abbrev SE := Env → (D → Prop) → Prop
abbrev ST := Env → (Bool → Prop) → Prop
abbrev SA := Env → (List Sl → Prop) → Prop
/-- the i-th slot -/
def lk : Env → Nat → Sl
  | [], _ => .un
  | s :: _, 0 => s
  | _ :: r, n + 1 => lk r n
theorem lk_get : ∀ {ρ : Env} {i : Nat} {s : Sl}, lk ρ i = s → s ≠ .un → ρ[i]? = some s
  | [], _, _, h, n => by simp only [lk] at h; exact absurd h.symm n
  | s :: _, 0, _, h, _ => by simp only [lk] at h; rw [h]; rfl
  | _ :: r, i + 1, s, h, n => by
    have := lk_get (ρ := r) (i := i) (s := s) (by simpa only [lk] using h) n
    simpa using this
def Mono (f : SE) : Prop := ∀ ρ (Q Q' : D → Prop), (∀ d, Q d → Q' d) → f ρ Q → f ρ Q'
def MonoT (f : ST) : Prop := ∀ ρ (Q Q' : Bool → Prop), (∀ d, Q d → Q' d) → f ρ Q → f ρ Q'
def MonoA (f : SA) : Prop := ∀ ρ (Q Q' : List Sl → Prop), (∀ d, Q d → Q' d) → f ρ Q → f ρ Q'
def toV (c : C) (f : SE) : TE := fun σ H Q => ∃ B ρ, EOk c B H σ ρ ∧ f ρ fun d => ∀ v B' H', Gr c B H B' H' → Rp B' v d → Q v H'
def toB (c : C) (f : SE) : TE := fun σ H Q => ∃ B ρ, EOk c B H σ ρ ∧ f ρ fun d => ∀ v B' H', Gr c B H B' H' → Bw c B' H' v d → Q v H'
def toT (c : C) (f : ST) : TT := fun σ H Q => ∃ B ρ, EOk c B H σ ρ ∧ f ρ fun b => ∀ B' H', Gr c B H B' H' → Q b H'
/-- an argument -/
def ArgOk (c : C) (B H : Hp) (v : V) : Sl → Prop
  | .sh d => Rp B v d
  | .bg => v = .ref c.pb
  | _ => False
def ArgsOk (c : C) (B H : Hp) : List V → List Sl → Prop
  | [], [] => True
  | v :: vs, s :: ss => ArgOk c B H v s ∧ ArgsOk c B H vs ss
  | _, _ => False
def toA (c : C) (f : SA) : TA := fun σ H Q => ∃ B ρ, EOk c B H σ ρ ∧ f ρ fun ss => ∀ vs B' H', Gr c B H B' H' → ArgsOk c B' H' vs ss → Q vs H'
theorem ArgOk.mono {c : C} {B H B' H' : Hp} (g : Gr c B H B' H') {v : V} {s : Sl} (h : ArgOk c B H v s) : ArgOk c B' H' v s := by
  cases s with
  | sh d => exact rp_mono g.b h
  | bg => exact h
  | ex x => exact h
  | un => exact h
  | ow ds => exact h
theorem ArgsOk.mono {c : C} {B H B' H' : Hp} (g : Gr c B H B' H') : ∀ {vs : List V} {ss : List Sl}, ArgsOk c B H vs ss → ArgsOk c B' H' vs ss
  | [], [], _ => trivial
  | _ :: _, _ :: _, h => ⟨h.1.mono g, ArgsOk.mono g h.2⟩
  | [], _ :: _, h => h
  | _ :: _, [], h => h
structure PV (X : Cx) (c : C) (e : Expr) (f : SE) : Prop where
  mono : Mono f
  pe : PE X e (toV c f)
structure PB (X : Cx) (c : C) (e : Expr) (f : SE) : Prop where
  mono : Mono f
  pe : PE X e (toB c f)
structure PTd (X : Cx) (c : C) (e : Expr) (f : ST) : Prop where
  mono : MonoT f
  pt : PT X e (toT c f)
structure PAd (X : Cx) (c : C) (es : List Expr) (f : SA) : Prop where
  mono : MonoA f
  pa : PA X es (toA c f)
theorem pe_weak {X : Cx} {e : Expr} {t t' : TE} (h : PE X e t) (w : ∀ σ H Q, t' σ H Q → t σ H Q) : PE X e t' := ⟨fun pins s σ H Q I q => h.run pins s σ H Q I (w σ H Q q)⟩
theorem pt_weak {X : Cx} {e : Expr} {t t' : TT} (h : PT X e t) (w : ∀ σ H Q, t' σ H Q → t σ H Q) : PT X e t' := ⟨fun pins s σ H Q I q => h.run pins s σ H Q I (w σ H Q q)⟩
theorem pa_weak {X : Cx} {e : List Expr} {t t' : TA} (h : PA X e t) (w : ∀ σ H Q, t' σ H Q → t σ H Q) : PA X e t' := ⟨fun pos pins s σ H Q I q => h.run pos pins s σ H Q I (w σ H Q q)⟩
theorem ps_weak {X : Cx} {e : Stmt} {t t' : TS} (h : PS X e t) (w : ∀ D σ H, t' D σ H → t D σ H) : PS X e t' := ⟨fun pins s σ H D I q => h.run pins s σ H D I (w D σ H q)⟩
theorem pss_weak {X : Cx} {e : List Stmt} {t t' : TS} (h : PSs X e t) (w : ∀ D σ H, t' D σ H → t D σ H) : PSs X e t' := ⟨fun pins s σ H D I q => h.run pins s σ H D I (w D σ H q)⟩
section
variable {X : Cx} {c : C}
/-- what stands may be read -/
theorem PV.b {e : Expr} {f : SE} (h : PV X c e f) : PB X c e f :=
  ⟨h.mono, pe_weak h.pe fun σ H Q ⟨B, ρ, ok, q⟩ => ⟨B, ρ, ok, h.mono _ _ _ (fun d k v B' H' g r => k v B' H' g (.inl r)) q⟩⟩
/-! ### names, constants -/
def fV (i : Nat) : SE := fun ρ Q => match lk ρ i with | .sh d => Q d | _ => False
def fN (i : Nat) : SE := fun ρ Q => match lk ρ i with | .sh d => Q d | .ow ds => Q (.list ds) | _ => False
def fC (d : D) : SE := fun _ Q => Q d
theorem v_name (i : Nat) {x : Str} {pos : Pos} (hN : X.N[i]? = some x := by rfl) (hv : Vis X.env.scope x := by first | exact Or.inl rfl | exact Or.inr (Or.inl rfl) | exact Or.inr (Or.inr rfl))
    (hd : (x == ("__debug__" : Str)) = false := by decide) (hcd : (x == ("__classdict__" : Str)) = false := by decide) : PV X c (.Name x pos) (fV i) := by
  refine ⟨fun ρ Q Q' k h => ?_, pe_weak (pe_var hN hv hd hcd) fun σ H Q ⟨B, ρ, ok, h⟩ => ?_⟩
  · unfold fV at h ⊢
    cases e : lk ρ i with
    | sh d => rw [e] at h; exact k d h
    | _ => rw [e] at h; exact h
  · unfold fV at h
    cases e : lk ρ i with
    | sh d =>
      rw [e] at h
      obtain ⟨v, h1, h2⟩ := ok.sl i _ (lk_get e (fun z => nomatch z))
      exact ⟨v, h1, h v B H (Gr.refl ok.w) h2⟩
    | _ => rw [e] at h; exact h.elim
theorem b_name (i : Nat) {x : Str} {pos : Pos} (hN : X.N[i]? = some x := by rfl) (hv : Vis X.env.scope x := by first | exact Or.inl rfl | exact Or.inr (Or.inl rfl) | exact Or.inr (Or.inr rfl))
    (hd : (x == ("__debug__" : Str)) = false := by decide) (hcd : (x == ("__classdict__" : Str)) = false := by decide) : PB X c (.Name x pos) (fN i) := by
  refine ⟨fun ρ Q Q' k h => ?_, pe_weak (pe_var hN hv hd hcd) fun σ H Q ⟨B, ρ, ok, h⟩ => ?_⟩
  · unfold fN at h ⊢
    cases e : lk ρ i with
    | sh d => rw [e] at h; exact k d h
    | ow d => rw [e] at h; exact k _ h
    | _ => rw [e] at h; exact h
  · unfold fN at h
    cases e : lk ρ i with
    | sh d =>
      rw [e] at h
      obtain ⟨v, h1, h2⟩ := ok.sl i _ (lk_get e (fun z => nomatch z))
      exact ⟨v, h1, h v B H (Gr.refl ok.w) (.inl h2)⟩
    | ow ds =>
      rw [e] at h
      obtain ⟨p, vs, h1, h2, h3, h4, h5, h6⟩ := ok.sl i _ (lk_get e (fun z => nomatch z))
      exact ⟨_, h1, h _ B H (Gr.refl ok.w) (.inr ⟨p, vs, ds, rfl, rfl, h3, h4, h5, h6⟩)⟩
    | _ => rw [e] at h; exact h.elim
theorem mono_C {d : D} : Mono (fC d) := fun _ _ _ k h => k _ h
theorem cst {e : Expr} {v : V} {d : D} (h : PE X e (tC v)) (r : ∀ B, Rp B v d) : PV X c e (fC d) :=
  ⟨mono_C, pe_weak h fun σ H Q ⟨B, ρ, ok, q⟩ => q v B H (Gr.refl ok.w) (r B)⟩
theorem v_int {i : Int} {j : Nat} {pos : Pos} : PV X c (.Constant (.int i) j pos) (fC (.int i)) := cst pe_int fun _ => .int i
theorem v_bl {i : Bool} {j : Nat} {pos : Pos} : PV X c (.Constant (.bool i) j pos) (fC (.bool i)) := cst pe_bl fun _ => .bl i
theorem v_non {j : Nat} {pos : Pos} : PV X c (.Constant .none j pos) (fC .none) := cst pe_non fun _ => .non
theorem v_str {i : Str} {j : Nat} {pos : Pos} : PV X c (.Constant (.str i) j pos) (fC (.str i)) := cst pe_str fun _ => .str i
/-- a module's constant that is an int -/
theorem v_glob {x : Str} {i : Int} {t : Tok} {pos : Pos} (hg : Gl X x) (hm : X.mg x = some (.int i t)) (hd : (x == ("__debug__" : Str)) = false := by decide) : PV X c (.Name x pos) (fC (.int i)) :=
  cst (v := .int i) (pe_glob hg hm ⟨t, rfl⟩ hd) fun _ => .int i
/-! ### two-place operations -/
abbrev G2 := D → D → (D → Prop) → Prop
def MonoG (g : G2) : Prop := ∀ d e (Q Q' : D → Prop), (∀ z, Q z → Q' z) → g d e Q → g d e Q'
def rD (c : C) (g : G2) : R2 := fun x y H Q => ∃ B d e, Wd c B H ∧ Bw c B H x d ∧ Bw c B H y e ∧ g d e fun z => ∀ v B' H', Gr c B H B' H' → Rp B' v z → Q v H'
structure OpD (X : Cx) (c : C) (f : Value → Value → Sem Value) (g : G2) : Prop where
  mono : MonoG g
  op : OpR X f (rD c g)
theorem opr_weak {f : Value → Value → Sem Value} {r r' : R2} (h : OpR X f r) (w : ∀ x y H Q, r' x y H Q → r x y H Q) : OpR X f r' := fun pins s σ H x y v u Q I rx ry q => h pins s σ H x y v u Q I rx ry (w x y H Q q)
def fBin (g : G2) (fa fb : SE) : SE := fun ρ Q => fa ρ fun d => fb ρ fun e => g d e Q
theorem mono_Bin {g : G2} {fa fb : SE} (hg : MonoG g) (ha : Mono fa) (hb : Mono fb) : Mono (fBin g fa fb) := fun ρ Q Q' k h =>
  ha ρ _ _ (fun d hd => hb ρ _ _ (fun e he => hg d e _ _ k he) hd) h
theorem bin_go {g : G2} {fa fb : SE} (hg : MonoG g) (ha : Mono fa) (hb : Mono fb) (σ : L2.St) (H : Hp) (Q : VK) (h : toV c (fBin g fa fb) σ H Q) : tOp (rD c g) (toB c fa) (toB c fb) σ H Q := by
  obtain ⟨B, ρ, ok, h⟩ := h
  refine ⟨B, ρ, ok, ha _ _ _ (fun d hd v B1 H1 g1 r1 => ?_) h⟩
  refine ⟨B1, ρ, ok.mono g1, hb _ _ _ (fun e he u B2 H2 g2 r2 => ?_) hd⟩
  exact ⟨B2, d, e, g2.w, r1.mono g2, r2, hg _ _ _ _ (fun z hz w B3 H3 g3 r3 => hz w B3 H3 ((g1.trans ok.w g2).trans ok.w g3) r3) he⟩
theorem v_bin {op : Operator} {g : G2} {a b : Expr} {fa fb : SE} {pos : Pos} (ho : OpD X c (binaryOp op) g) (ha : PB X c a fa) (hb : PB X c b fb) : PV X c (.BinOp a op b pos) (fBin g fa fb) :=
  ⟨mono_Bin ho.mono ha.mono hb.mono, pe_weak (pe_op ho.op ha.pe hb.pe) (bin_go ho.mono ha.mono hb.mono)⟩
def gSub : G2 | .int i, .int j, Q => Q (.int (i - j)) | _, _, _ => False
def gAdd : G2
  | .int i, .int j, Q => Q (.int (i + j))
  | .tuple xs, .tuple ys, Q => xs.length + ys.length ≤ sizeLine ∧ Q (.tuple (xs ++ ys))
  | .list xs, .list ys, Q => xs.length + ys.length ≤ sizeLine ∧ Q (.list (xs ++ ys))
  | .str x, .str y, Q => x.length + y.length ≤ sizeLine ∧ Q (.str (x ++ y))
  | _, _, _ => False
def gMul : G2 | .int i, .int j, Q => CMulW i j ∧ Q (.int (i * j)) | _, _, _ => False
def gDiv : G2 | .int i, .int j, Q => j.natAbs.log2 < 9000 ∧ (if 0 < j then Q (.int (i / j)) else j ≠ 0 ∧ Q (.int (i.fdiv j))) | _, _, _ => False
def gMod : G2 | .int i, .int j, Q => (if 0 < j then Q (.int (i % j)) else j ≠ 0 ∧ Q (.int (i.fmod j))) | _, _, _ => False
def gPow : G2 | .int i, .int j, Q => CPow i j ∧ Q (.int (i ^ j.toNat)) | _, _, _ => False
def gShl : G2 | .int i, .int j, Q => CPow i j ∧ Q (.int (i * 2 ^ j.toNat)) | _, _, _ => False
def gShr : G2 | .int i, .int j, Q => 0 ≤ j ∧ Q (.int (i / 2 ^ j.toNat)) | _, _, _ => False
theorem opd_int {f : Value → Value → Sem Value} {g : G2} {P : Int → Int → Prop} {k : Int → Int → Int} (h : OpR X f (rI P fun i j => .int (k i j)))
    (hg : ∀ d e Q, g d e Q → ∃ i j, d = .int i ∧ e = .int j ∧ P i j ∧ Q (.int (k i j))) (m : MonoG g) : OpD X c f g :=
  ⟨m, opr_weak h fun x y H Q ⟨B, d, e, w, r1, r2, q⟩ => by
    obtain ⟨i, j, e1, e2, p, q2⟩ := hg d e _ q
    subst e1 e2
    exact ⟨i, j, r1.int, r2.int, p, q2 _ B H (Gr.refl w) (.int _)⟩⟩
theorem rI0_I {f : Value → Value → Sem Value} {k : Int → Int → V} (h : OpR X f (rI0 k)) : OpR X f (rI (fun _ _ => True) k) := opr_weak h fun _ _ _ _ ⟨i, j, h1, h2, _, h3⟩ => ⟨i, j, h1, h2, h3⟩
theorem m_Sub : MonoG gSub := fun d e Q Q' k h => by cases d <;> cases e <;> first | exact k _ h | exact h.elim
theorem o_sub : OpD X c (binaryOp .Sub) gSub := opd_int (rI0_I op_sub) (fun d e Q h => by cases d <;> cases e <;> first | exact ⟨_, _, rfl, rfl, trivial, h⟩ | exact h.elim) m_Sub
theorem m_Mul : MonoG gMul := fun d e Q Q' k h => by cases d <;> cases e <;> first | exact ⟨h.1, k _ h.2⟩ | exact h.elim
theorem o_mul : OpD X c (binaryOp .Mult) gMul := opd_int op_mulW (fun d e Q h => by cases d <;> cases e <;> first | exact ⟨_, _, rfl, rfl, h.1, h.2⟩ | exact h.elim) m_Mul
theorem m_Pow : MonoG gPow := fun d e Q Q' k h => by cases d <;> cases e <;> first | exact ⟨h.1, k _ h.2⟩ | exact h.elim
theorem o_pow : OpD X c (binaryOp .Pow) gPow := opd_int op_pow (fun d e Q h => by cases d <;> cases e <;> first | exact ⟨_, _, rfl, rfl, h.1, h.2⟩ | exact h.elim) m_Pow
theorem m_Shl : MonoG gShl := fun d e Q Q' k h => by cases d <;> cases e <;> first | exact ⟨h.1, k _ h.2⟩ | exact h.elim
theorem o_shl : OpD X c (binaryOp .LShift) gShl := opd_int op_shl (fun d e Q h => by cases d <;> cases e <;> first | exact ⟨_, _, rfl, rfl, h.1, h.2⟩ | exact h.elim) m_Shl
theorem m_Shr : MonoG gShr := fun d e Q Q' k h => by cases d <;> cases e <;> first | exact ⟨h.1, k _ h.2⟩ | exact h.elim
theorem o_shr : OpD X c (binaryOp .RShift) gShr := opd_int (P := fun _ j => 0 ≤ j) op_shr (fun d e Q h => by cases d <;> cases e <;> first | exact ⟨_, _, rfl, rfl, h.1, h.2⟩ | exact h.elim) m_Shr
theorem op_fdivA : OpR X (binaryOp .FloorDiv) (rI (fun _ j => j ≠ 0 ∧ j.natAbs.log2 < 9000) fun i j => .int (i.fdiv j)) := opI fun i j _ _ _ _ _ hc q => by
  exact floordiv_int hc.1 q (.inl (PyProof.noPylong_of_log2 hc.2))
theorem m_Div : MonoG gDiv := fun d e Q Q' k h => by
  cases d <;> cases e <;> first
    | exact h.elim
    | (refine ⟨h.1, ?_⟩
       have h2 := h.2
       split at h2
       · rw [if_pos (by assumption)]; exact k _ h2
       · rw [if_neg (by assumption)]; exact ⟨h2.1, k _ h2.2⟩)
theorem o_div : OpD X c (binaryOp .FloorDiv) gDiv := opd_int op_fdivA (fun d e Q h => by
  cases d <;> cases e <;> first
    | exact h.elim
    | (refine ⟨_, _, rfl, rfl, ?_⟩
       obtain ⟨h1, h2⟩ := h
       split at h2
       · rename_i hp
         exact ⟨⟨by omega, h1⟩, by rw [Int.fdiv_eq_ediv_of_nonneg _ (by omega)]; exact h2⟩
       · exact ⟨⟨h2.1, h1⟩, h2.2⟩)) m_Div
theorem m_Mod : MonoG gMod := fun d e Q Q' k h => by
  cases d <;> cases e <;> first
    | exact h.elim
    | (have h2 := h
       simp only [gMod] at h2 ⊢
       split at h2
       · rw [if_pos (by assumption)]; exact k _ h2
       · rw [if_neg (by assumption)]; exact ⟨h2.1, k _ h2.2⟩)
theorem o_mod : OpD X c (binaryOp .Mod) gMod := opd_int op_modN (fun d e Q h => by
  cases d <;> cases e <;> first
    | exact h.elim
    | (refine ⟨_, _, rfl, rfl, ?_⟩
       have h2 := h
       simp only [gMod] at h2
       split at h2
       · rename_i hp
         exact ⟨by omega, by rw [Int.fmod_eq_emod_of_nonneg _ (by omega)]; exact h2⟩
       · exact ⟨h2.1, h2.2⟩)) m_Mod
theorem m_Add : MonoG gAdd := fun d e Q Q' k h => by cases d <;> cases e <;> first | exact k _ h | exact ⟨h.1, k _ h.2⟩ | exact h.elim
theorem o_add : OpD X c (binaryOp .Add) gAdd := by
  refine ⟨m_Add, fun pins s σ H x y v u Q I rx ry ⟨B, d, e, w, r1, r2, q⟩ => ?_⟩
  cases d <;> cases e <;> first | exact q.elim | skip
  · exact op_add pins s σ H x y v u Q I rx ry ⟨_, _, r1.int, r2.int, q _ B H (Gr.refl w) (.int _)⟩
  · exact op_add_str pins s σ H x y v u Q I rx ry ⟨_, _, r1.str, r2.str, q.1, q.2 _ B H (Gr.refl w) (.str _)⟩
  · obtain ⟨a, xs, rfl, h1, h2⟩ := r1.list w
    obtain ⟨b, ys, rfl, h3, h4⟩ := r2.list w
    refine op_cat pins s σ H _ _ v u Q I rx ry ⟨a, b, xs, ys, rfl, rfl, h1, h3, ?_, fun p hp => ?_⟩
    · rw [rpa_len h2, rpa_len h4]; exact q.1
    · have g := Gr.new (o := .lst (xs ++ ys)) w hp
      exact q.2 _ _ _ g (.lst upd_same (rpa_app (rpa_mono g.b h2) (rpa_mono g.b h4)))
  · obtain ⟨a, xs, rfl, h1, h2⟩ := r1.tup w
    obtain ⟨b, ys, rfl, h3, h4⟩ := r2.tup w
    refine op_catA pins s σ H _ _ v u Q I rx ry ⟨a, b, xs, ys, rfl, rfl, SqT.of h1, SqT.of h3, ?_, fun z => ?_, fun _ z => ?_, fun _ _ p hp => ?_⟩
    · rw [rpa_len h2, rpa_len h4]; exact q.1
    · have z' := (rpa_nil_iff h2).mp z
      subst z'
      rcases r2 with r2 | ⟨_, _, _, _, e, _⟩
      · exact q.2 _ B H (Gr.refl w) r2
      · cases e
    · have z' := (rpa_nil_iff h4).mp z
      subst z'
      rcases r1 with r1 | ⟨_, _, _, _, e, _⟩
      · have q2 := q.2
        rw [List.append_nil] at q2
        exact q2 _ B H (Gr.refl w) r1
      · cases e
    · have g := Gr.new (o := .tup (xs ++ ys)) w hp
      exact q.2 _ _ _ g (.tup upd_same (rpa_app (rpa_mono g.b h2) (rpa_mono g.b h4)))
/-! ### one place -/
def fNeg (fa : SE) : SE := fun ρ Q => fa ρ fun d => match d with | .int i => Q (.int (-i)) | _ => False
theorem v_neg {a : Expr} {fa : SE} {pos : Pos} (ha : PB X c a fa) : PV X c (.UnaryOp .USub a pos) (fNeg fa) := by
  refine ⟨fun ρ Q Q' k h => ha.mono _ _ _ (fun d hd => ?_) h, pe_weak (pe_un un_neg ha.pe) fun σ H Q ⟨B, ρ, ok, h⟩ => ?_⟩
  · cases d <;> first | exact k _ hd | exact hd.elim
  · refine ⟨B, ρ, ok, ha.mono _ _ _ (fun d hd v B1 H1 g1 r1 => ?_) h⟩
    cases d <;> first | exact hd.elim | skip
    rename_i i
    exact ⟨i, r1.int, hd _ B1 H1 g1 (.int _)⟩
/-! ### comparisons -/
abbrev GC := D → D → (Bool → Prop) → Prop
def MonoC (g : GC) : Prop := ∀ d e (Q Q' : Bool → Prop), (∀ z, Q z → Q' z) → g d e Q → g d e Q'
def rC (c : C) (g : GC) : R2 := fun x y H Q => ∃ B d e, Wd c B H ∧ Bw c B H x d ∧ Bw c B H y e ∧ g d e fun b => Q (.bl b) H
structure CmpD (X : Cx) (c : C) (op : CmpOp) (g : GC) : Prop where
  mono : MonoC g
  op : OpR X (compareOp op) (rC c g)
def gv (g : GC) : G2 := fun d e Q => g d e fun b => Q (.bool b)
def fCmp (g : GC) (fa fb : SE) : ST := fun ρ Q => fa ρ fun d => fb ρ fun e => g d e Q
theorem CmpD.v {op : CmpOp} {g : GC} (h : CmpD X c op g) : OpD X c (compareOp op) (gv g) :=
  ⟨fun d e Q Q' k q => h.mono d e _ _ (fun b hb => k _ hb) q, opr_weak h.op fun x y H Q ⟨B, d, e, w, r1, r2, q⟩ => ⟨B, d, e, w, r1, r2, h.mono _ _ _ _ (fun b hb => hb _ B H (Gr.refl w) (.bl b)) q⟩⟩
theorem v_cmp {op : CmpOp} {g : GC} {a b : Expr} {fa fb : SE} {pos : Pos} (ho : CmpD X c op g) (ha : PB X c a fa) (hb : PB X c b fb) (hm : behindInMarks op b = false := by first | exact nomark _ | with_unfolding_all rfl) : PV X c (.Compare a [op] [b] pos) (fBin (gv g) fa fb) :=
  ⟨mono_Bin ho.v.mono ha.mono hb.mono, pe_weak (pe_cmpR ho.v.op ha.pe hb.pe hm) (bin_go ho.v.mono ha.mono hb.mono)⟩
theorem t_cmp {op : CmpOp} {g : GC} {a b : Expr} {fa fb : SE} {pos : Pos} (ho : CmpD X c op g) (ha : PB X c a fa) (hb : PB X c b fb) (hm : behindInMarks op b = false := by first | exact nomark _ | with_unfolding_all rfl) : PTd X c (.Compare a [op] [b] pos) (fCmp g fa fb) := by
  refine ⟨fun ρ Q Q' k h => ha.mono _ _ _ (fun d hd => hb.mono _ _ _ (fun e he => ho.mono _ _ _ _ k he) hd) h, pt_weak (pt_cmpR ho.op ha.pe hb.pe hm) fun σ H Q ⟨B, ρ, ok, h⟩ => ?_⟩
  refine ⟨B, ρ, ok, ha.mono _ _ _ (fun d hd v B1 H1 g1 r1 => ?_) h⟩
  refine ⟨B1, ρ, ok.mono g1, hb.mono _ _ _ (fun e he u B2 H2 g2 r2 => ?_) hd⟩
  exact ⟨B2, d, e, g2.w, r1.mono g2, r2, ho.mono _ _ _ _ (fun b hb => ⟨b, rfl, hb B2 H2 (g1.trans ok.w g2)⟩) he⟩
def gLt : GC | .int i, .int j, Q => Q (decide (i < j)) | _, _, _ => False
def gLe : GC | .int i, .int j, Q => Q (decide (i ≤ j)) | _, _, _ => False
def gGt : GC | .int i, .int j, Q => Q (decide (j < i)) | _, _, _ => False
def gGe : GC | .int i, .int j, Q => Q (decide (j ≤ i)) | _, _, _ => False
theorem cmpd_int {op : CmpOp} {g : GC} {k : Int → Int → Bool} (h : OpR X (compareOp op) (rI0 fun i j => .bl (k i j))) (hg : ∀ d e Q, g d e Q → ∃ i j, d = .int i ∧ e = .int j ∧ Q (k i j)) (m : MonoC g) : CmpD X c op g :=
  ⟨m, opr_weak h fun x y H Q ⟨B, d, e, w, r1, r2, q⟩ => by
    obtain ⟨i, j, e1, e2, q2⟩ := hg d e _ q
    subst e1 e2
    exact ⟨i, j, r1.int, r2.int, q2⟩⟩
theorem m_Lt : MonoC gLt := fun d e Q Q' k h => by cases d <;> cases e <;> first | exact k _ h | exact h.elim
theorem m_Le : MonoC gLe := fun d e Q Q' k h => by cases d <;> cases e <;> first | exact k _ h | exact h.elim
theorem m_Gt : MonoC gGt := fun d e Q Q' k h => by cases d <;> cases e <;> first | exact k _ h | exact h.elim
theorem m_Ge : MonoC gGe := fun d e Q Q' k h => by cases d <;> cases e <;> first | exact k _ h | exact h.elim
theorem o_lt : CmpD X c .Lt gLt := cmpd_int op_lt (fun d e Q h => by cases d <;> cases e <;> first | exact ⟨_, _, rfl, rfl, h⟩ | exact h.elim) m_Lt
theorem o_le : CmpD X c .LtE gLe := cmpd_int op_le (fun d e Q h => by cases d <;> cases e <;> first | exact ⟨_, _, rfl, rfl, h⟩ | exact h.elim) m_Le
theorem o_gt : CmpD X c .Gt gGt := cmpd_int op_gt (fun d e Q h => by cases d <;> cases e <;> first | exact ⟨_, _, rfl, rfl, h⟩ | exact h.elim) m_Gt
theorem o_ge : CmpD X c .GtE gGe := cmpd_int op_ge (fun d e Q h => by cases d <;> cases e <;> first | exact ⟨_, _, rfl, rfl, h⟩ | exact h.elim) m_Ge
/-- equality: ints by themselves, else data -/
def gEq : GC
  | .int i, .int j, Q => Q (decide (i = j))
  | .str x, .str y, Q => Q (decide (x = y))
  | .bool a, .bool b, Q => Q (decide (a = b))
  | d, e, Q => SeqAt.shaped d = true ∧ SeqAt.shaped e = true ∧ Q (PyData.eqv d e)
def gNe : GC
  | .int i, .int j, Q => Q (!decide (i = j))
  | .str x, .str y, Q => Q (!decide (x = y))
  | .bool a, .bool b, Q => Q (!decide (a = b))
  | d, e, Q => SeqAt.shaped d = true ∧ SeqAt.shaped e = true ∧ Q (!PyData.eqv d e)
theorem m_Eq : MonoC gEq := fun d e Q Q' k h => by
  unfold gEq at h ⊢
  split at h <;> first | exact k _ h | exact ⟨h.1, h.2.1, k _ h.2.2⟩
theorem m_Ne : MonoC gNe := fun d e Q Q' k h => by
  unfold gNe at h ⊢
  split at h <;> first | exact k _ h | exact ⟨h.1, h.2.1, k _ h.2.2⟩
theorem eqv_int (i j : Int) : PyData.eqv (.int i) (.int j) = decide (i = j) := by
  simp only [PyData.eqv]
  rfl
theorem shaped_int (i : Int) : SeqAt.shaped (.int i) = true := by simp [SeqAt.shaped, PyData.canLay0, PyData.depth]
theorem opr_or {f : Value → Value → Sem Value} {r r' : R2} (h : OpR X f r) (h' : OpR X f r') : OpR X f fun x y H Q => r x y H Q ∨ r' x y H Q := fun pins s σ H x y v u Q I rx ry q => q.elim (h pins s σ H x y v u Q I rx ry) (h' pins s σ H x y v u Q I rx ry)
theorem o_eq (hu : X.A.units + 64 < cLine) : CmpD X c .Eq gEq := by
  refine ⟨m_Eq, opr_weak (opr_or (op_eqD hu) op_eq) fun x y H Q ⟨B, d, e, w, r1, r2, q⟩ => ?_⟩
  have gen : (SeqAt.shaped d = true ∧ SeqAt.shaped e = true ∧ Q (.bl (PyData.eqv d e)) H) → rEqD X.K x y H Q ∨ rEq x y H Q := fun q' =>
    .inl ⟨d, e, rp_dp (r1.rp w) (SeqAt.canLay_of_shaped q'.1), rp_dp (r2.rp w) (SeqAt.canLay_of_shaped q'.2.1), q'.1, q'.2.1, q'.2.2⟩
  unfold gEq at q
  split at q
  · exact gen ⟨shaped_int _, shaped_int _, by rw [eqv_int]; exact q⟩
  · rw [r1.str, r2.str]
    refine .inr ⟨rfl, ?_⟩
    simpa using q
  · rw [r1.bl, r2.bl]
    refine .inr ⟨rfl, ?_⟩
    simpa using q
  · exact gen q
theorem o_ne (hu : X.A.units + 64 < cLine) : CmpD X c .NotEq gNe := by
  refine ⟨m_Ne, opr_weak (opr_or (op_neD hu) op_ne) fun x y H Q ⟨B, d, e, w, r1, r2, q⟩ => ?_⟩
  have gen : (SeqAt.shaped d = true ∧ SeqAt.shaped e = true ∧ Q (.bl (!PyData.eqv d e)) H) → rNeD X.K x y H Q ∨ rNe x y H Q := fun q' =>
    .inl ⟨d, e, rp_dp (r1.rp w) (SeqAt.canLay_of_shaped q'.1), rp_dp (r2.rp w) (SeqAt.canLay_of_shaped q'.2.1), q'.1, q'.2.1, q'.2.2⟩
  unfold gNe at q
  split at q
  · exact gen ⟨shaped_int _, shaped_int _, by rw [eqv_int]; exact q⟩
  · rw [r1.str, r2.str]
    refine .inr ⟨rfl, ?_⟩
    simpa using q
  · rw [r1.bl, r2.bl]
    refine .inr ⟨rfl, ?_⟩
    simpa using q
  · exact gen q
/-- is None -/
def isNone : D → Bool | .none => true | _ => false
def gIsN : GC | d, .none, Q => Q (isNone d) | _, _, _ => False
def gNotN : GC | d, .none, Q => Q (!isNone d) | _, _, _ => False
theorem m_IsN : MonoC gIsN := fun d e Q Q' k h => by cases e <;> first | exact k _ h | exact h.elim
theorem m_NotN : MonoC gNotN := fun d e Q Q' k h => by cases e <;> first | exact k _ h | exact h.elim
theorem bw_none {B H : Hp} {v : V} {d : D} (r : Bw c B H v d) : decide (v = .non) = isNone d := by
  rcases r with r | ⟨p, vs, ds, rfl, rfl, _⟩
  · cases r <;> rfl
  · rfl
theorem o_isN : CmpD X c .Is gIsN := ⟨m_IsN, opr_weak op_isN fun x y H Q ⟨B, d, e, w, r1, r2, q⟩ => by
  cases e <;> first | exact q.elim | exact ⟨r2.non, by rw [bw_none r1]; exact q⟩⟩
theorem o_notN : CmpD X c .IsNot gNotN := ⟨m_NotN, opr_weak op_notN fun x y H Q ⟨B, d, e, w, r1, r2, q⟩ => by
  cases e <;> first | exact q.elim | exact ⟨r2.non, by rw [bw_none r1]; exact q⟩⟩
/-! ### truth -/
def fTV (fa : SE) : ST := fun ρ Q => fa ρ fun d => match d with | .bool b => Q b | _ => False
theorem t_val {e : Expr} {fa : SE} (ha : PB X c e fa) (he : ∀ whole, isTrue e X.env whole = (do let v ← whole; standAt e.pos; holding [v] (truthy v)) := by intro _; rfl) : PTd X c e (fTV fa) := by
  refine ⟨fun ρ Q Q' k h => ha.mono _ _ _ (fun d hd => ?_) h, pt_weak (pt_val ha.pe he) fun σ H Q ⟨B, ρ, ok, h⟩ => ?_⟩
  · cases d <;> first | exact k _ hd | exact hd.elim
  · refine ⟨B, ρ, ok, ha.mono _ _ _ (fun d hd v B1 H1 g1 r1 => ?_) h⟩
    cases d <;> first | exact hd.elim | skip
    rename_i i
    exact ⟨i, r1.bl, hd B1 H1 g1⟩
def fNot (fa : ST) : ST := fun ρ Q => fa ρ fun b => Q (!b)
theorem t_not {a : Expr} {fa : ST} {pos : Pos} (ha : PTd X c a fa) : PTd X c (.UnaryOp .Not a pos) (fNot fa) :=
  ⟨fun ρ Q Q' k h => ha.mono _ _ _ (fun b hb => k _ hb) h, pt_weak (pt_not ha.pt) fun σ H Q ⟨B, ρ, ok, h⟩ => ⟨B, ρ, ok, h⟩⟩
/-- a chain of and, of or -/
structure PWd (X : Cx) (c : C) (e : Expr) (f : ST) : Prop where
  mono : MonoT f
  pw : PW X e (toT c f)
theorem pw_weak {X : Cx} {e : Expr} {t t' : TT} (h : PW X e t) (w : ∀ σ H Q, t' σ H Q → t σ H Q) : PW X e t' := ⟨fun wh pins s σ H Q I q => h.run wh pins s σ H Q I (w σ H Q q)⟩
def fAnd (fa fb : ST) : ST := fun ρ Q => fa ρ fun b => if b = true then fb ρ Q else Q false
def fOr (fa fb : ST) : ST := fun ρ Q => fa ρ fun b => if b = true then Q true else fb ρ Q
theorem PWd.t {e : Expr} {f : ST} (h : PWd X c e f) : PTd X c e f := ⟨h.mono, h.pw.pt⟩
theorem w_and1 {a : Expr} {fa : ST} {pos : Pos} (ha : PTd X c a fa) : PWd X c (.BoolOp .And [a] pos) fa := ⟨ha.mono, pw_and1 ha.pt⟩
theorem w_or1 {a : Expr} {fa : ST} {pos : Pos} (ha : PTd X c a fa) : PWd X c (.BoolOp .Or [a] pos) fa := ⟨ha.mono, pw_or1 ha.pt⟩
theorem mono_And {fa fb : ST} (ha : MonoT fa) (hb : MonoT fb) : MonoT (fAnd fa fb) := fun ρ Q Q' k h => ha _ _ _ (fun b hd => by
  cases b with
  | true => exact hb _ _ _ k hd
  | false => exact k _ hd) h
theorem mono_Or {fa fb : ST} (ha : MonoT fa) (hb : MonoT fb) : MonoT (fOr fa fb) := fun ρ Q Q' k h => ha _ _ _ (fun b hd => by
  cases b with
  | true => exact k _ hd
  | false => exact hb _ _ _ k hd) h
theorem w_and {a b : Expr} {rest : List Expr} {fa fb : ST} {pos : Pos} (ha : PTd X c a fa) (hb : PWd X c (.BoolOp .And (b :: rest) pos) fb) : PWd X c (.BoolOp .And (a :: b :: rest) pos) (fAnd fa fb) := by
  refine ⟨mono_And ha.mono hb.mono, pw_weak (pw_and ha.pt hb.pw) fun σ H Q ⟨B, ρ, ok, h⟩ => ⟨B, ρ, ok, ha.mono _ _ _ (fun d hd B1 H1 g1 => ?_) h⟩⟩
  cases d with
  | true => exact ⟨B1, ρ, ok.mono g1, hb.mono _ _ _ (fun e he B2 H2 g2 => he B2 H2 (g1.trans ok.w g2)) hd⟩
  | false => exact hd B1 H1 g1
theorem w_or {a b : Expr} {rest : List Expr} {fa fb : ST} {pos : Pos} (ha : PTd X c a fa) (hb : PWd X c (.BoolOp .Or (b :: rest) pos) fb) : PWd X c (.BoolOp .Or (a :: b :: rest) pos) (fOr fa fb) := by
  refine ⟨mono_Or ha.mono hb.mono, pw_weak (pw_or ha.pt hb.pw) fun σ H Q ⟨B, ρ, ok, h⟩ => ⟨B, ρ, ok, ha.mono _ _ _ (fun d hd B1 H1 g1 => ?_) h⟩⟩
  cases d with
  | false => exact ⟨B1, ρ, ok.mono g1, hb.mono _ _ _ (fun e he B2 H2 g2 => he B2 H2 (g1.trans ok.w g2)) hd⟩
  | true => exact hd B1 H1 g1
/-- as values -/
def fAndV (fa fb : SE) : SE := fun ρ Q => fa ρ fun d => match d with | .bool b => if b = true then fb ρ Q else Q (.bool false) | _ => False
def fOrV (fa fb : SE) : SE := fun ρ Q => fa ρ fun d => match d with | .bool b => if b = true then Q (.bool true) else fb ρ Q | _ => False
def fNotV (fa : SE) : SE := fun ρ Q => fa ρ fun d => match d with | .bool b => Q (.bool (!b)) | _ => False
theorem v_one {op : BoolOp} {a : Expr} {fa : SE} {pos : Pos} (ha : PV X c a fa) : PV X c (.BoolOp op [a] pos) fa := ⟨ha.mono, pe_one ha.pe⟩
theorem v_and {a b : Expr} {rest : List Expr} {fa fb : SE} {pos : Pos} (ha : PB X c a fa) (hb : PV X c (.BoolOp .And (b :: rest) pos) fb) : PV X c (.BoolOp .And (a :: b :: rest) pos) (fAndV fa fb) := by
  refine ⟨fun ρ Q Q' k h => ha.mono _ _ _ (fun d hd => ?_) h, pe_weak (pe_and ha.pe hb.pe) fun σ H Q ⟨B, ρ, ok, h⟩ => ⟨B, ρ, ok, ha.mono _ _ _ (fun d hd v B1 H1 g1 r1 => ?_) h⟩⟩
  · cases d <;> first | exact hd.elim | skip
    rename_i b
    cases b with
    | true => exact hb.mono _ _ _ k hd
    | false => exact k _ hd
  · cases d <;> first | exact hd.elim | skip
    rename_i b
    refine ⟨b, r1.bl, ?_⟩
    cases b with
    | true => exact ⟨B1, ρ, ok.mono g1, hb.mono _ _ _ (fun e he v B2 H2 g2 => he v B2 H2 (g1.trans ok.w g2)) hd⟩
    | false => exact hd _ B1 H1 g1 (.bl _)
theorem v_or {a b : Expr} {rest : List Expr} {fa fb : SE} {pos : Pos} (ha : PB X c a fa) (hb : PV X c (.BoolOp .Or (b :: rest) pos) fb) : PV X c (.BoolOp .Or (a :: b :: rest) pos) (fOrV fa fb) := by
  refine ⟨fun ρ Q Q' k h => ha.mono _ _ _ (fun d hd => ?_) h, pe_weak (pe_or ha.pe hb.pe) fun σ H Q ⟨B, ρ, ok, h⟩ => ⟨B, ρ, ok, ha.mono _ _ _ (fun d hd v B1 H1 g1 r1 => ?_) h⟩⟩
  · cases d <;> first | exact hd.elim | skip
    rename_i b
    cases b with
    | false => exact hb.mono _ _ _ k hd
    | true => exact k _ hd
  · cases d <;> first | exact hd.elim | skip
    rename_i b
    refine ⟨b, r1.bl, ?_⟩
    cases b with
    | false => exact ⟨B1, ρ, ok.mono g1, hb.mono _ _ _ (fun e he v B2 H2 g2 => he v B2 H2 (g1.trans ok.w g2)) hd⟩
    | true => exact hd _ B1 H1 g1 (.bl _)
theorem v_not {a : Expr} {fa : SE} {pos : Pos} (ha : PB X c a fa) : PV X c (.UnaryOp .Not a pos) (fNotV fa) := by
  refine ⟨fun ρ Q Q' k h => ha.mono _ _ _ (fun d hd => ?_) h, pe_weak (pe_not ha.pe) fun σ H Q ⟨B, ρ, ok, h⟩ => ⟨B, ρ, ok, ha.mono _ _ _ (fun d hd v B1 H1 g1 r1 => ?_) h⟩⟩
  · cases d <;> first | exact hd.elim | exact k _ hd
  · cases d <;> first | exact hd.elim | skip
    exact ⟨_, r1.bl, hd _ B1 H1 g1 (.bl _)⟩
def fIf (t : ST) (fa fb : SE) : SE := fun ρ Q => t ρ fun b => if b = true then fa ρ Q else fb ρ Q
theorem mono_If {t : ST} {fa fb : SE} (ht : MonoT t) (ha : Mono fa) (hb : Mono fb) : Mono (fIf t fa fb) := fun ρ Q Q' k h => ht _ _ _ (fun b hd => by
  cases b with
  | true => exact ha _ _ _ k hd
  | false => exact hb _ _ _ k hd) h
theorem v_if {t : ST} {cc a b : Expr} {fa fb : SE} {pos : Pos} (ht : PTd X c cc t) (ha : PV X c a fa) (hb : PV X c b fb) : PV X c (.IfExp cc a b pos) (fIf t fa fb) := by
  refine ⟨mono_If ht.mono ha.mono hb.mono, pe_weak (pe_ifExp ht.pt ha.pe hb.pe) fun σ H Q ⟨B, ρ, ok, h⟩ => ⟨B, ρ, ok, ht.mono _ _ _ (fun d hd B1 H1 g1 => ?_) h⟩⟩
  cases d with
  | true => exact ⟨B1, ρ, ok.mono g1, ha.mono _ _ _ (fun e he v B2 H2 g2 => he v B2 H2 (g1.trans ok.w g2)) hd⟩
  | false => exact ⟨B1, ρ, ok.mono g1, hb.mono _ _ _ (fun e he v B2 H2 g2 => he v B2 H2 (g1.trans ok.w g2)) hd⟩
end
end DL
namespace DL
open PySem L2 PyProof.Rows
/-! ### lists of expressions -/
abbrev SL := Env → (List D → Prop) → Prop
def MonoL (f : SL) : Prop := ∀ ρ (Q Q' : List D → Prop), (∀ d, Q d → Q' d) → f ρ Q → f ρ Q'
def BwA (c : C) (B H : Hp) : List V → List D → Prop
  | [], [] => True
  | v :: vs, d :: ds => Bw c B H v d ∧ BwA c B H vs ds
  | _, _ => False
theorem BwA.mono {c : C} {B H B' H' : Hp} (g : Gr c B H B' H') : ∀ {vs : List V} {ds : List D}, BwA c B H vs ds → BwA c B' H' vs ds
  | [], [], _ => trivial
  | _ :: _, _ :: _, h => ⟨h.1.mono g, BwA.mono g h.2⟩
  | [], _ :: _, h => h
  | _ :: _, [], h => h
theorem BwA.one {c : C} {B H : Hp} {vs : List V} {d : D} (h : BwA c B H vs [d]) : ∃ v, vs = [v] ∧ Bw c B H v d := by
  cases vs with
  | nil => exact h.elim
  | cons v r => cases r with
    | nil => exact ⟨v, rfl, h.1⟩
    | cons _ _ => exact h.2.elim
theorem BwA.two {c : C} {B H : Hp} {vs : List V} {d e : D} (h : BwA c B H vs [d, e]) : ∃ v u, vs = [v, u] ∧ Bw c B H v d ∧ Bw c B H u e := by
  cases vs with
  | nil => exact h.elim
  | cons v r =>
    obtain ⟨u, e1, h2⟩ := BwA.one (d := e) (vs := r) h.2
    subst e1
    exact ⟨v, u, rfl, h.1, h2⟩
theorem BwA.nil {c : C} {B H : Hp} {vs : List V} (h : BwA c B H vs []) : vs = [] := by
  cases vs with
  | nil => rfl
  | cons v r => exact h.elim
def toD (c : C) (f : SL) : TA := fun σ H Q => ∃ B ρ, EOk c B H σ ρ ∧ f ρ fun ds => ∀ vs B' H', Gr c B H B' H' → RpA B' vs ds → Q vs H'
def toDB (c : C) (f : SL) : TA := fun σ H Q => ∃ B ρ, EOk c B H σ ρ ∧ f ρ fun ds => ∀ vs B' H', Gr c B H B' H' → BwA c B' H' vs ds → Q vs H'
structure PDd (X : Cx) (c : C) (es : List Expr) (f : SL) : Prop where
  mono : MonoL f
  len : ∀ ρ Q, f ρ Q → f ρ fun ds => Q ds ∧ ds.length = es.length
  pa : PA X es (toD c f)
structure PBd (X : Cx) (c : C) (es : List Expr) (f : SL) : Prop where
  mono : MonoL f
  pa : PA X es (toDB c f)
def fLN : SL := fun _ Q => Q []
def fLC (fa : SE) (fr : SL) : SL := fun ρ Q => fa ρ fun d => fr ρ fun ds => Q (d :: ds)
section
variable {X : Cx} {c : C}
theorem mono_LC {fa : SE} {fr : SL} (ha : Mono fa) (hr : MonoL fr) : MonoL (fLC fa fr) := fun ρ Q Q' k h => ha _ _ _ (fun d hd => hr _ _ _ (fun ds he => k _ he) hd) h
theorem d_nil : PDd X c [] fLN := ⟨fun _ _ _ k h => k _ h, fun _ _ h => ⟨h, rfl⟩, pa_weak pa_nil fun σ H Q ⟨B, ρ, ok, h⟩ => h [] B H (Gr.refl ok.w) .nil⟩
theorem d_cons {e : Expr} {es : List Expr} {fa : SE} {fr : SL} (ha : PV X c e fa) (hr : PDd X c es fr) (hs : starEach (e :: es) X.env = (false, eval e X.env) :: starEach es X.env := by rfl) : PDd X c (e :: es) (fLC fa fr) := by
  refine ⟨mono_LC ha.mono hr.mono, fun ρ Q h => ha.mono _ _ _ (fun d hd => hr.mono _ _ _ (fun ds q => ⟨q.1, by rw [List.length_cons, List.length_cons, q.2]⟩) (hr.len _ _ hd)) h, pa_weak (pa_cons ha.pe hr.pa hs) fun σ H Q ⟨B, ρ, ok, h⟩ => ?_⟩
  refine ⟨B, ρ, ok, ha.mono _ _ _ (fun d hd v B1 H1 g1 r1 => ?_) h⟩
  exact ⟨B1, ρ, ok.mono g1, hr.mono _ _ _ (fun ds he vs B2 H2 g2 r2 => he _ B2 H2 (g1.trans ok.w g2) (.cons (rp_mono g2.b r1) r2)) hd⟩
theorem bb_nil : PBd X c [] fLN := ⟨fun _ _ _ k h => k _ h, pa_weak pa_nil fun σ H Q ⟨B, ρ, ok, h⟩ => h [] B H (Gr.refl ok.w) trivial⟩
theorem bb_cons {e : Expr} {es : List Expr} {fa : SE} {fr : SL} (ha : PB X c e fa) (hr : PBd X c es fr) (hs : starEach (e :: es) X.env = (false, eval e X.env) :: starEach es X.env := by rfl) : PBd X c (e :: es) (fLC fa fr) := by
  refine ⟨mono_LC ha.mono hr.mono, pa_weak (pa_cons ha.pe hr.pa hs) fun σ H Q ⟨B, ρ, ok, h⟩ => ?_⟩
  refine ⟨B, ρ, ok, ha.mono _ _ _ (fun d hd v B1 H1 g1 r1 => ?_) h⟩
  exact ⟨B1, ρ, ok.mono g1, hr.mono _ _ _ (fun ds he vs B2 H2 g2 r2 => he _ B2 H2 (g1.trans ok.w g2) ⟨r1.mono g2, r2⟩) hd⟩
/-- arguments of a def -/
def fAN : SA := fun _ Q => Q []
def fAC (fa : SE) (fr : SA) : SA := fun ρ Q => fa ρ fun d => fr ρ fun ds => Q (.sh d :: ds)
def fAB (i : Nat) (fr : SA) : SA := fun ρ Q => match lk ρ i with | .bg => fr ρ fun ds => Q (.bg :: ds) | _ => False
theorem a_nil : PAd X c [] fAN := ⟨fun _ _ _ k h => k _ h, pa_weak pa_nil fun σ H Q ⟨B, ρ, ok, h⟩ => h [] B H (Gr.refl ok.w) trivial⟩
theorem a_cons {e : Expr} {es : List Expr} {fa : SE} {fr : SA} (ha : PV X c e fa) (hr : PAd X c es fr) (hs : starEach (e :: es) X.env = (false, eval e X.env) :: starEach es X.env := by rfl) : PAd X c (e :: es) (fAC fa fr) := by
  refine ⟨fun ρ Q Q' k h => ha.mono _ _ _ (fun d hd => hr.mono _ _ _ (fun ds he => k _ he) hd) h, pa_weak (pa_cons ha.pe hr.pa hs) fun σ H Q ⟨B, ρ, ok, h⟩ => ?_⟩
  refine ⟨B, ρ, ok, ha.mono _ _ _ (fun d hd v B1 H1 g1 r1 => ?_) h⟩
  exact ⟨B1, ρ, ok.mono g1, hr.mono _ _ _ (fun ds he vs B2 H2 g2 r2 => he _ B2 H2 (g1.trans ok.w g2) ⟨rp_mono g2.b r1, r2⟩) hd⟩
/-- the bag handed on -/
theorem a_bag (i : Nat) {x : Str} {pos : Pos} {es : List Expr} {fr : SA} (hr : PAd X c es fr) (hN : X.N[i]? = some x := by rfl) (hv : Vis X.env.scope x := by first | exact Or.inl rfl | exact Or.inr (Or.inl rfl) | exact Or.inr (Or.inr rfl))
    (hs : starEach (.Name x pos :: es) X.env = (false, eval (.Name x pos) X.env) :: starEach es X.env := by rfl) (hd : (x == ("__debug__" : Str)) = false := by decide) (hcd : (x == ("__classdict__" : Str)) = false := by decide) : PAd X c (.Name x pos :: es) (fAB i fr) := by
  refine ⟨fun ρ Q Q' k h => ?_, pa_weak (pa_cons (pe_var hN hv hd hcd) hr.pa hs) fun σ H Q ⟨B, ρ, ok, h⟩ => ?_⟩
  · unfold fAB at h ⊢
    cases e : lk ρ i <;> rw [e] at h <;> first | exact h.elim | exact hr.mono _ _ _ (fun ds he => k _ he) h
  · unfold fAB at h
    cases e : lk ρ i <;> rw [e] at h <;> first | exact h.elim | skip
    have h1 := ok.sl i _ (lk_get e (fun z => nomatch z))
    exact ⟨_, h1, B, ρ, ok, hr.mono _ _ _ (fun ds he vs B2 H2 g2 r2 => he _ B2 H2 g2 ⟨rfl, r2⟩) h⟩
/-! ### new lists -/
def toN (c : C) (f : SL) : TE := fun σ H Q => ∃ B ρ, EOk c B H σ ρ ∧ f ρ fun ds => ∀ p vs B' H', Gr c B H B' H' → H p = none → B' p = none → H' p = some (.lst vs) → RpA B' vs ds → Q (.ref p) H'
structure PN (X : Cx) (c : C) (e : Expr) (f : SL) : Prop where
  mono : MonoL f
  pe : PE X e (toN c f)
/-- what is new may be shared -/
theorem Gr.share {B H B' H' : Hp} (w : Wd c B H) (g : Gr c B H B' H') {p : Addr} {vs : List V} (h0 : H p = none) (h1 : B' p = none) (h2 : H' p = some (.lst vs)) : Gr c B H (upd B' p (.lst vs)) H' := by
  have nb : ¬ c.isBag p := fun z => w.there z h0
  refine ⟨g.b.trans (Evl.Ex.new h1), g.h, fun a ha => ?_, fun a o e => ?_, g.w.bag.keep fun a ha => ⟨upd_ne fun z => nb (z ▸ ha), rfl⟩⟩
  · rw [upd_ne (fun z => ha (by rw [z]; exact h0))]
    exact g.n a ha
  · by_cases z : a = p
    · subst z
      rw [upd_same] at e
      rw [h2]; exact e
    · rw [upd_ne z] at e; exact g.w.sub a o e
def fNV (f : SL) : SE := fun ρ Q => f ρ fun ds => Q (.list ds)
theorem PN.v {e : Expr} {f : SL} (h : PN X c e f) : PV X c e (fNV f) := by
  refine ⟨fun ρ Q Q' k q => h.mono _ _ _ (fun ds hd => k _ hd) q, pe_weak h.pe fun σ H Q ⟨B, ρ, ok, q⟩ => ⟨B, ρ, ok, h.mono _ _ _ (fun ds hd p vs B' H' g h0 h1 h2 r => ?_) q⟩⟩
  have g' := Gr.share ok.w g h0 h1 h2
  exact hd _ _ _ g' (.lst upd_same (rpa_mono (Evl.Ex.new h1) r))
theorem n_lst {es : List Expr} {f : SL} {pos : Pos} (h : PDd X c es f) (hl : es.length ≤ 1000 := by decide) : PN X c (.List es pos) f := by
  refine ⟨h.mono, pe_weak (pe_lst h.pa) fun σ H Q ⟨B, ρ, ok, q⟩ => ⟨B, ρ, ok, h.mono _ _ _ (fun ds hd vs B' H' g r => ?_) (h.len _ _ q)⟩⟩
  refine ⟨?_, fun p hp => ?_⟩
  · rw [rpa_len r, hd.2]; exact Nat.le_of_lt (small1000 hl)
  · have g1 := Gr.newO (o := .lst vs) g.w hp
    have hB : B' p = none := Evl.fresh_back g.w.sub hp
    refine hd.1 p vs B' _ (g.trans ok.w g1) ?_ hB upd_same r
    cases e : H p with
    | none => rfl
    | some o =>
      by_cases z : c.isBag p
      · exact absurd hp (g.w.there z)
      · rw [g.h p o z e] at hp; cases hp
def fTup (f : SL) : SE := fun ρ Q => f ρ fun ds => Q (.tuple ds)
theorem v_tup {es : List Expr} {f : SL} {k : Nat} {pos : Pos} (h : PDd X c es f) (hl : es.length ≤ 1000 := by decide) : PV X c (.Tuple es k pos) (fTup f) := by
  refine ⟨fun ρ Q Q' k q => h.mono _ _ _ (fun ds hd => k _ hd) q, pe_weak (pe_tup h.pa) fun σ H Q ⟨B, ρ, ok, q⟩ => ⟨B, ρ, ok, h.mono _ _ _ (fun ds hd vs B' H' g r => ?_) (h.len _ _ q)⟩⟩
  refine ⟨?_, fun p hp => ?_⟩
  · rw [rpa_len r, hd.2]; exact Nat.le_of_lt (small1000 hl)
  · have g1 := Gr.new (o := .tup vs) g.w hp
    exact hd.1 _ _ _ (g.trans ok.w g1) (.tup upd_same (rpa_mono g1.b r))
/-! ### calls of what Python brings -/
abbrev GB := List D → (D → Prop) → Prop
def MonoB (g : GB) : Prop := ∀ ds (Q Q' : D → Prop), (∀ z, Q z → Q' z) → g ds Q → g ds Q'
structure CallD (X : Cx) (c : C) (f : Value) (g : GB) : Prop where
  mono : MonoB g
  call : CallR X f fun xs H Q => ∃ B ds, Wd c B H ∧ BwA c B H xs ds ∧ g ds fun z => ∀ v B' H', Gr c B H B' H' → Rp B' v z → Q v H'
theorem callr_weak {f : Value} {r r' : List V → Hp → VK → Prop} (h : CallR X f r) (w : ∀ xs H Q, r' xs H Q → r xs H Q) : CallR X f r' := fun pins s σ H xs us Q I rv q => h pins s σ H xs us Q I rv (w xs H Q q)
def fCB (g : GB) (fa : SL) : SE := fun ρ Q => fa ρ fun ds => g ds Q
theorem callB_go {g : GB} {fa : SL} (hg : MonoB g) (ha : MonoL fa) (σ : L2.St) (H : Hp) (Q : VK) (h : toV c (fCB g fa) σ H Q) :
    tCB (fun xs H Q => ∃ B ds, Wd c B H ∧ BwA c B H xs ds ∧ g ds fun z => ∀ v B' H', Gr c B H B' H' → Rp B' v z → Q v H') (toDB c fa) σ H Q := by
  obtain ⟨B, ρ, ok, h⟩ := h
  refine ⟨B, ρ, ok, ha _ _ _ (fun ds hd vs B1 H1 g1 r1 => ?_) h⟩
  exact ⟨B1, ds, g1.w, r1, hg _ _ _ (fun z hz v B2 H2 g2 r2 => hz v B2 H2 (g1.trans ok.w g2) r2) hd⟩
theorem v_callB {id : String} {g : GB} {fa : SL} {x : Str} {p pos : Pos} {e : Expr} {es : List Expr} (hc : CallD X c (.builtin id) g) (hm : X.mg x = none) (ha : PBd X c (e :: es) fa) (hg : Gl X x := by rfl) (hv : bootBuiltins x = some (.builtin id) := by decide +kernel)
    (hn : x ≠ "__name__" := by decide) (hdb : (x == ("__debug__" : Str)) = false := by decide)
    (he : starEach (e :: es) X.env = (false, eval e X.env) :: starEach es X.env := by rfl) (hpl : (backTo pos (starEach es X.env)).any (·.1) = false := by rfl) : PV X c (.Call (.Name x p) (e :: es) [] pos) (fCB g fa) :=
  ⟨fun ρ Q Q' k h => ha.mono _ _ _ (fun ds hd => hc.mono _ _ _ k hd) h, pe_weak (pe_callB hc.call hg hm hv ha.pa hn hdb he hpl) (callB_go hc.mono ha.mono)⟩
theorem v_callT {T : String} {g : GB} {fa : SL} {x : Str} {p pos : Pos} {e : Expr} {es : List Expr} (hc : CallD X c (.type T) g) (hm : X.mg x = none) (ha : PBd X c (e :: es) fa) (hg : Gl X x := by rfl) (hv : bootBuiltins x = some (.type T) := by decide +kernel)
    (hn : x ≠ "__name__" := by decide) (hdb : (x == ("__debug__" : Str)) = false := by decide)
    (he : starEach (e :: es) X.env = (false, eval e X.env) :: starEach es X.env := by rfl) (hpl : (backTo pos (starEach es X.env)).any (·.1) = false := by rfl) : PV X c (.Call (.Name x p) (e :: es) [] pos) (fCB g fa) :=
  ⟨fun ρ Q Q' k h => ha.mono _ _ _ (fun ds hd => hc.mono _ _ _ k hd) h, pe_weak (pe_callTy hc.call hg hm hv ha.pa hn hdb he hpl) (callB_go hc.mono ha.mono)⟩
def bInt : GB | [.int i], Q => Q (.int i) | [.bool b], Q => Q (.int (if b then 1 else 0)) | _, _ => False
def bAbs : GB | [.int i], Q => Q (.int (if i < 0 then -i else i)) | _, _ => False
def bLen : GB | [.list ds], Q => Q (.int ds.length) | [.tuple ds], Q => Q (.int ds.length) | [.str x], Q => x.length ≤ sizeLine ∧ Q (.int x.length) | _, _ => False
def bMax2 : GB | [.int i, .int j], Q => Q (.int (if j > i then j else i)) | _, _ => False
def bMin2 : GB | [.int i, .int j], Q => Q (.int (if j < i then j else i)) | _, _ => False
theorem m_Int : MonoB bInt := fun ds Q Q' k h => by
  unfold bInt at h ⊢
  split at h <;> first | exact k _ h | exact h.elim
theorem m_Abs : MonoB bAbs := fun ds Q Q' k h => by
  unfold bAbs at h ⊢
  split at h <;> first | exact k _ h | exact h.elim
theorem m_Len : MonoB bLen := fun ds Q Q' k h => by
  unfold bLen at h ⊢
  split at h <;> first | exact k _ h | exact ⟨h.1, k _ h.2⟩ | exact h.elim
theorem m_Max2 : MonoB bMax2 := fun ds Q Q' k h => by
  unfold bMax2 at h ⊢
  split at h <;> first | exact k _ h | exact h.elim
theorem m_Min2 : MonoB bMin2 := fun ds Q Q' k h => by
  unfold bMin2 at h ⊢
  split at h <;> first | exact k _ h | exact h.elim
theorem c_int : CallD X c (.type "int") bInt := ⟨m_Int, callr_weak call_int1 fun xs H Q ⟨B, ds, w, ra, q⟩ => by
  unfold bInt at q
  split at q <;> first | exact q.elim | skip
  · obtain ⟨v, e, r⟩ := ra.one
    subst e
    rw [r.int]
    exact .inl ⟨_, rfl, q _ B H (Gr.refl w) (.int _)⟩
  · obtain ⟨v, e, r⟩ := ra.one
    subst e
    rw [r.bl]
    exact .inr ⟨_, rfl, q _ B H (Gr.refl w) (.int _)⟩⟩
theorem c_abs : CallD X c (.builtin "abs") bAbs := ⟨m_Abs, callr_weak call_abs fun xs H Q ⟨B, ds, w, ra, q⟩ => by
  unfold bAbs at q
  split at q <;> first | exact q.elim | skip
  obtain ⟨v, e, r⟩ := ra.one
  subst e
  rw [r.int]
  exact ⟨_, rfl, q _ B H (Gr.refl w) (.int _)⟩⟩
theorem c_len : CallD X c (.builtin "len") bLen := ⟨m_Len, callr_weak call_len fun xs H Q ⟨B, ds, w, ra, q⟩ => by
  unfold bLen at q
  split at q <;> first | exact q.elim | skip
  · obtain ⟨v, e, r⟩ := ra.one
    subst e
    obtain ⟨a, xs, rfl, h1, h2⟩ := r.list w
    exact ⟨_, xs.length, rfl, .inl ⟨xs, SqL.of h1, rfl⟩, by rw [rpa_len h2]; exact q _ B H (Gr.refl w) (.int _)⟩
  · obtain ⟨v, e, r⟩ := ra.one
    subst e
    obtain ⟨a, xs, rfl, h1, h2⟩ := r.tup w
    exact ⟨_, xs.length, rfl, .inr ⟨xs, SqT.of h1, rfl⟩, by rw [rpa_len h2]; exact q _ B H (Gr.refl w) (.int _)⟩
  · obtain ⟨v, e, r⟩ := ra.one
    subst e
    rw [r.str]
    exact ⟨_, _, rfl, ⟨q.1, rfl⟩, q.2 _ B H (Gr.refl w) (.int _)⟩⟩
theorem c_max2 (hc : X.calm = true) : CallD X c (.builtin "max") bMax2 := ⟨m_Max2, callr_weak (call_max2 hc) fun xs H Q ⟨B, ds, w, ra, q⟩ => by
  unfold bMax2 at q
  split at q <;> first | exact q.elim | skip
  obtain ⟨v, u, e, r1, r2⟩ := ra.two
  subst e
  rw [r1.int, r2.int]
  exact ⟨_, _, rfl, q _ B H (Gr.refl w) (.int _)⟩⟩
theorem c_min2 (hc : X.calm = true) : CallD X c (.builtin "min") bMin2 := ⟨m_Min2, callr_weak (call_min2 hc) fun xs H Q ⟨B, ds, w, ra, q⟩ => by
  unfold bMin2 at q
  split at q <;> first | exact q.elim | skip
  obtain ⟨v, u, e, r1, r2⟩ := ra.two
  subst e
  rw [r1.int, r2.int]
  exact ⟨_, _, rfl, q _ B H (Gr.refl w) (.int _)⟩⟩
/-- tuple(x): of a list a new one, a tuple itself -/
def bTuple : GB | [.list ds], Q => Q (.tuple ds) | [.tuple ds], Q => Q (.tuple ds) | _, _ => False
theorem m_Tuple : MonoB bTuple := fun ds Q Q' k h => by
  unfold bTuple at h ⊢
  split at h <;> first | exact k _ h | exact h.elim
theorem c_tuple : CallD X c (.type "tuple") bTuple := ⟨m_Tuple, callr_weak call_tuple_of fun xs H Q ⟨B, ds, w, ra, q⟩ => by
  unfold bTuple at q
  split at q <;> first | exact q.elim | skip
  · obtain ⟨v, e, r⟩ := ra.one
    subst e
    obtain ⟨a, xs, rfl, h1, h2⟩ := r.list w
    refine ⟨a, xs, rfl, .inl ⟨SqL.of h1, fun l hl => ?_⟩⟩
    have g := Gr.new (o := .tup xs) w hl
    exact q _ _ _ g (.tup upd_same (rpa_mono g.b h2))
  · obtain ⟨v, e, r⟩ := ra.one
    subst e
    obtain ⟨a, xs, rfl, h1, h2⟩ := r.tup w
    refine ⟨a, xs, rfl, .inr ⟨SqT.of h1, ?_⟩⟩
    rcases r with r | ⟨_, _, _, _, e, _⟩
    · exact q _ B H (Gr.refl w) r
    · cases e⟩
/-- sums, bounds, all, any of lists -/
def asInts : List D → Option (List Int)
  | [] => some []
  | .int i :: r => (asInts r).map (i :: ·)
  | _ :: _ => none
def asBls : List D → Option (List Bool)
  | [] => some []
  | .bool i :: r => (asBls r).map (i :: ·)
  | _ :: _ => none
theorem asInts_eq : ∀ {ds : List D} {ns : List Int}, asInts ds = some ns → ds = ns.map PyData.int
  | [], ns, h => by
    simp only [asInts] at h
    cases h; rfl
  | d :: ds, ns, h => by
    cases d <;> simp only [asInts] at h <;> first | cases h | skip
    cases e : asInts ds with
    | none => rw [e] at h; cases h
    | some m =>
      rw [e] at h
      cases h
      rw [asInts_eq e]; rfl
theorem asInts_map : ∀ (ns : List Int), asInts (ns.map PyData.int) = some ns
  | [] => rfl
  | n :: ns => by simp only [List.map_cons, asInts, asInts_map ns, Option.map_some]
theorem asBls_eq : ∀ {ds : List D} {ns : List Bool}, asBls ds = some ns → ds = ns.map PyData.bool
  | [], ns, h => by
    simp only [asBls] at h
    cases h; rfl
  | d :: ds, ns, h => by
    cases d <;> simp only [asBls] at h <;> first | cases h | skip
    cases e : asBls ds with
    | none => rw [e] at h; cases h
    | some m =>
      rw [e] at h
      cases h
      rw [asBls_eq e]; rfl
theorem asBls_map : ∀ (ns : List Bool), asBls (ns.map PyData.bool) = some ns
  | [] => rfl
  | n :: ns => by simp only [List.map_cons, asBls, asBls_map ns, Option.map_some]
def intsOf : D → Option (List Int) | .list ds => asInts ds | _ => none
def blsOf : D → Option (List Bool) | .list ds => asBls ds | _ => none
def bSum : GB | [d], Q => (match intsOf d with | some ns => Q (.int ns.sum) | none => False) | _, _ => False
def bMaxL : GB | [d], Q => (match intsOf d with | some ns => 0 < ns.length ∧ ∀ m, m ∈ ns → (∀ y, y ∈ ns → y ≤ m) → Q (.int m) | none => False) | _, _ => False
def bMinL : GB | [d], Q => (match intsOf d with | some ns => 0 < ns.length ∧ ∀ m, m ∈ ns → (∀ y, y ∈ ns → m ≤ y) → Q (.int m) | none => False) | _, _ => False
def bAll : GB | [d], Q => (match blsOf d with | some ns => Q (.bool (ns.all id)) | none => False) | _, _ => False
def bAny : GB | [d], Q => (match blsOf d with | some ns => Q (.bool (ns.any id)) | none => False) | _, _ => False
theorem ints_rd {B H : Hp} {v : V} {d : D} {ns : List Int} (w : Wd c B H) (r : Bw c B H v d) (h : intsOf d = some ns) : ∃ a, v = .ref a ∧ SqL X.K H a (ns.map V.int) := by
  cases d <;> simp only [intsOf] at h <;> first | cases h | skip
  obtain ⟨a, xs, rfl, h1, h2⟩ := r.list w
  rw [asInts_eq h] at h2
  rw [rpa_ints h2] at h1
  exact ⟨a, rfl, SqL.of h1⟩
theorem bls_rd {B H : Hp} {v : V} {d : D} {ns : List Bool} (w : Wd c B H) (r : Bw c B H v d) (h : blsOf d = some ns) : ∃ a, v = .ref a ∧ SqL X.K H a (ns.map V.bl) := by
  cases d <;> simp only [blsOf] at h <;> first | cases h | skip
  obtain ⟨a, xs, rfl, h1, h2⟩ := r.list w
  rw [asBls_eq h] at h2
  rw [rpa_bls h2] at h1
  exact ⟨a, rfl, SqL.of h1⟩
theorem m_Sum : MonoB bSum := fun ds Q Q' k h => by
  unfold bSum at h ⊢
  split at h <;> first | exact h.elim | skip
  split at h <;> first | exact h.elim | exact k _ h
theorem c_sum (hc : X.calm = true) : CallD X c (.builtin "sum") bSum := ⟨m_Sum, callr_weak (cr_sum hc) fun xs H Q ⟨B, ds, w, ra, q⟩ => by
  unfold bSum at q
  split at q <;> first | exact q.elim | skip
  split at q <;> first | exact q.elim | skip
  rename_i e
  obtain ⟨v, e1, r⟩ := ra.one
  subst e1
  obtain ⟨a, rfl, h⟩ := ints_rd (X := X) w r e
  exact ⟨a, _, rfl, h, q _ B H (Gr.refl w) (.int _)⟩⟩
theorem m_MaxL : MonoB bMaxL := fun ds Q Q' k h => by
  unfold bMaxL at h ⊢
  split at h <;> first | exact h.elim | skip
  split at h <;> first | exact h.elim | exact ⟨h.1, fun m h1 h2 => k _ (h.2 m h1 h2)⟩
theorem c_maxL (hc : X.calm = true) : CallD X c (.builtin "max") bMaxL := ⟨m_MaxL, callr_weak (cr_max hc) fun xs H Q ⟨B, ds, w, ra, q⟩ => by
  unfold bMaxL at q
  split at q <;> first | exact q.elim | skip
  split at q <;> first | exact q.elim | skip
  rename_i e
  obtain ⟨v, e1, r⟩ := ra.one
  subst e1
  obtain ⟨a, rfl, h⟩ := ints_rd (X := X) w r e
  exact ⟨a, _, rfl, h, q.1, fun m h1 h2 => q.2 m h1 h2 _ B H (Gr.refl w) (.int _)⟩⟩
theorem m_MinL : MonoB bMinL := fun ds Q Q' k h => by
  unfold bMinL at h ⊢
  split at h <;> first | exact h.elim | skip
  split at h <;> first | exact h.elim | exact ⟨h.1, fun m h1 h2 => k _ (h.2 m h1 h2)⟩
theorem c_minL (hc : X.calm = true) : CallD X c (.builtin "min") bMinL := ⟨m_MinL, callr_weak (cr_min hc) fun xs H Q ⟨B, ds, w, ra, q⟩ => by
  unfold bMinL at q
  split at q <;> first | exact q.elim | skip
  split at q <;> first | exact q.elim | skip
  rename_i e
  obtain ⟨v, e1, r⟩ := ra.one
  subst e1
  obtain ⟨a, rfl, h⟩ := ints_rd (X := X) w r e
  exact ⟨a, _, rfl, h, q.1, fun m h1 h2 => q.2 m h1 h2 _ B H (Gr.refl w) (.int _)⟩⟩
theorem m_All : MonoB bAll := fun ds Q Q' k h => by
  unfold bAll at h ⊢
  split at h <;> first | exact h.elim | skip
  split at h <;> first | exact h.elim | exact k _ h
theorem c_all (hc : X.calm = true) : CallD X c (.builtin "all") bAll := ⟨m_All, callr_weak (cr_all hc) fun xs H Q ⟨B, ds, w, ra, q⟩ => by
  unfold bAll at q
  split at q <;> first | exact q.elim | skip
  split at q <;> first | exact q.elim | skip
  rename_i e
  obtain ⟨v, e1, r⟩ := ra.one
  subst e1
  obtain ⟨a, rfl, h⟩ := bls_rd (X := X) w r e
  exact ⟨a, _, rfl, h, q _ B H (Gr.refl w) (.bl _)⟩⟩
theorem m_Any : MonoB bAny := fun ds Q Q' k h => by
  unfold bAny at h ⊢
  split at h <;> first | exact h.elim | skip
  split at h <;> first | exact h.elim | exact k _ h
theorem c_any (hc : X.calm = true) : CallD X c (.builtin "any") bAny := ⟨m_Any, callr_weak (cr_any hc) fun xs H Q ⟨B, ds, w, ra, q⟩ => by
  unfold bAny at q
  split at q <;> first | exact q.elim | skip
  split at q <;> first | exact q.elim | skip
  rename_i e
  obtain ⟨v, e1, r⟩ := ra.one
  subst e1
  obtain ⟨a, rfl, h⟩ := bls_rd (X := X) w r e
  exact ⟨a, _, rfl, h, q _ B H (Gr.refl w) (.bl _)⟩⟩
/-- a new list out of a list, a tuple -/
def seqOf : D → Option (List D) | .list ds => some ds | .tuple ds => some ds | _ => none
theorem seq_rd {B H : Hp} {v : V} {d : D} {ds : List D} (w : Wd c B H) (r : Bw c B H v d) (h : seqOf d = some ds) : ∃ a xs, v = .ref a ∧ (SqL X.K H a xs ∨ SqT X.K H a xs) ∧ RpA B xs ds := by
  cases d <;> simp only [seqOf] at h <;> first | cases h | skip
  · obtain ⟨a, xs, rfl, h1, h2⟩ := r.list w
    exact ⟨a, xs, rfl, .inl (SqL.of h1), h2⟩
  · obtain ⟨a, xs, rfl, h1, h2⟩ := r.tup w
    exact ⟨a, xs, rfl, .inr (SqT.of h1), h2⟩
def fSeq (fa : SE) : SL := fun ρ Q => fa ρ fun d => match seqOf d with | some ds => Q ds | none => False
theorem mono_Seq {fa : SE} (ha : Mono fa) : MonoL (fSeq fa) := fun ρ Q Q' k h => ha _ _ _ (fun d hd => by
  split at hd <;> first | exact hd.elim | exact k _ hd) h
theorem Gr.back {B H B' H' : Hp} (g : Gr c B H B' H') {p : Addr} (hp : H' p = none) : H p = none := by
  cases e : H p with
  | none => rfl
  | some o =>
    by_cases z : c.isBag p
    · exact absurd hp (g.w.there z)
    · rw [g.h p o z e] at hp; cases hp
theorem n_list {e : Expr} {fa : SE} {x : Str} {p pos : Pos} (hm : X.mg x = none) (ha : PB X c e fa) (hg : Gl X x := by rfl) (hv : bootBuiltins x = some (.type "list") := by decide +kernel)
    (hn : x ≠ "__name__" := by decide) (hdb : (x == ("__debug__" : Str)) = false := by decide)
    (he : starEach [e] X.env = (false, eval e X.env) :: starEach [] X.env := by rfl) (hpl : (backTo pos (starEach [] X.env)).any (·.1) = false := by rfl) : PN X c (.Call (.Name x p) [e] [] pos) (fSeq fa) := by
  refine ⟨mono_Seq ha.mono, pe_weak (pe_callTy call_list_of hg hm hv (pa_cons ha.pe pa_nil he) hn hdb he hpl) fun σ H Q ⟨B, ρ, ok, h⟩ => ⟨B, ρ, ok, ha.mono _ _ _ (fun d hd v B1 H1 g1 r1 => ?_) h⟩⟩
  split at hd <;> first | exact hd.elim | skip
  rename_i ds e1
  obtain ⟨a, xs, rfl, h1, h2⟩ := seq_rd (X := X) g1.w r1 e1
  refine ⟨a, xs, rfl, h1, fun l hl => ?_⟩
  have g2 := Gr.newO (o := .lst xs) g1.w hl
  exact hd l xs B1 _ (g1.trans ok.w g2) (g1.back hl) (Evl.fresh_back g1.w.sub hl) upd_same h2
/-! ### items and parts -/
def ixD (ds : List D) (i : Int) : Option D := atI ds i
def gIx : G2
  | .list ds, .int i, Q => (match atI ds i with | some d => Q d | none => False)
  | .tuple ds, .int i, Q => (match atI ds i with | some d => Q d | none => False)
  | .str x, .int i, Q => x.length ≤ sizeLine ∧ (match atI x.cps.toList i with | some k => Q (.str ⟨#[k]⟩) | none => False)
  | _, _, _ => False
theorem m_Ix : MonoG gIx := fun d e Q Q' k h => by
  unfold gIx at h ⊢
  split at h <;> first | exact h.elim | skip
  · split at h <;> first | exact h.elim | exact k _ h
  · split at h <;> first | exact h.elim | exact k _ h
  · refine ⟨h.1, ?_⟩
    have h2 := h.2
    split at h2 <;> first | exact h2.elim | exact k _ h2
theorem atI_rpa {B : Hp} {xs : List V} {ds : List D} {i : Int} {d : D} (r : RpA B xs ds) (h : atI ds i = some d) : ∃ v, atI xs i = some v ∧ Rp B v d := by
  unfold atI at h ⊢
  rw [rpa_len r]
  cases e : ixN ds.length i with
  | none => rw [e] at h; cases h
  | some j =>
    rw [e] at h
    obtain ⟨v, h1, h2⟩ := rpa_get r (show ds[j]? = some d from h)
    exact ⟨v, h1, h2⟩
theorem v_ix {a b : Expr} {fa fb : SE} {pos : Pos} (ha : PB X c a fa) (hb : PB X c b fb) (hs : PlainIx b := by exact fun _ _ => rfl) : PV X c (.Subscript a b pos) (fBin gIx fa fb) := by
  refine ⟨mono_Bin m_Ix ha.mono hb.mono, pe_weak (pe_ix ix_seq ha.pe hb.pe hs) fun σ H Q h => ?_⟩
  obtain ⟨B, ρ, ok, h⟩ := h
  refine ⟨B, ρ, ok, ha.mono _ _ _ (fun d hd v B1 H1 g1 r1 => ?_) h⟩
  refine ⟨B1, ρ, ok.mono g1, hb.mono _ _ _ (fun e he u B2 H2 g2 r2 => ?_) hd⟩
  have r1' := r1.mono g2
  have g3 := g1.trans ok.w g2
  unfold gIx at he
  split at he <;> first | exact he.elim | skip
  · split at he <;> first | exact he.elim | skip
    rename_i e1
    obtain ⟨p, xs, rfl, h1, h2⟩ := r1'.list g2.w
    obtain ⟨y, h3, h4⟩ := atI_rpa h2 e1
    rw [r2.int]
    exact .inl ⟨p, xs, _, y, rfl, rfl, SqL.of h1, h3, he _ B2 H2 g3 h4⟩
  · split at he <;> first | exact he.elim | skip
    rename_i e1
    obtain ⟨p, xs, rfl, h1, h2⟩ := r1'.tup g2.w
    obtain ⟨y, h3, h4⟩ := atI_rpa h2 e1
    rw [r2.int]
    exact .inr (.inl ⟨p, xs, _, y, rfl, rfl, SqT.of h1, h3, he _ B2 H2 g3 h4⟩)
  · obtain ⟨hz, he⟩ := he
    split at he <;> first | exact he.elim | skip
    rename_i e1
    rw [r1'.str, r2.int]
    exact .inr (.inr ⟨_, _, _, rfl, rfl, hz, e1, he _ B2 H2 g3 (.str _)⟩)
/-- the ends of a part -/
abbrev SO := Env → (Option Int → Prop) → Prop
def toO (c : C) (f : SO) : TO := fun σ H Q => ∃ B ρ, EOk c B H σ ρ ∧ f ρ fun o => ∀ B' H', Gr c B H B' H' → Q o H'
structure POd (X : Cx) (c : C) (e : Option Expr) (f : SO) : Prop where
  mono : ∀ ρ (Q Q' : Option Int → Prop), (∀ d, Q d → Q' d) → f ρ Q → f ρ Q'
  po : PO X e (toO c f)
theorem po_weak {e : Option Expr} {t t' : TO} (h : PO X e t) (w : ∀ σ H Q, t' σ H Q → t σ H Q) : PO X e t' := ⟨fun pins s σ H Q I q => h.run pins s σ H Q I (w σ H Q q)⟩
def fON : SO := fun _ Q => Q none
def fOS (fa : SE) : SO := fun ρ Q => fa ρ fun d => match d with | .int i => Q (some i) | _ => False
theorem po_n : POd X c none fON := ⟨fun _ _ _ k h => k _ h, po_weak po_none fun σ H Q ⟨B, ρ, ok, h⟩ => h B H (Gr.refl ok.w)⟩
theorem po_s {e : Expr} {fa : SE} (ha : PB X c e fa) : POd X c (some e) (fOS fa) := by
  refine ⟨fun ρ Q Q' k h => ha.mono _ _ _ (fun d hd => ?_) h, po_weak (po_some ha.pe) fun σ H Q ⟨B, ρ, ok, h⟩ => ⟨B, ρ, ok, ha.mono _ _ _ (fun d hd v B1 H1 g1 r1 => ?_) h⟩⟩
  · cases d <;> first | exact hd.elim | exact k _ hd
  · cases d <;> first | exact hd.elim | skip
    exact ⟨_, r1.int, hd B1 H1 g1⟩
def cutD (ds : List D) (lo hi : Option Int) : List D := (ds.drop (HT.sIx ds.length 0 lo)).take (HT.sIx ds.length ds.length hi - HT.sIx ds.length 0 lo)
theorem cut_rpa {B : Hp} {xs : List V} {ds : List D} (r : RpA B xs ds) (lo hi : Option Int) : RpA B (cutV xs lo hi) (cutD ds lo hi) := by
  unfold cutV cutD
  rw [rpa_len r]
  exact rpa_take _ (rpa_drop _ r)
/-- t[a:b] of a tuple, a text -/
def fSlT (fa : SE) (fl fh : SO) : SE := fun ρ Q => fa ρ fun d => fl ρ fun lo => fh ρ fun hi => match d with | .tuple ds => Q (.tuple (cutD ds lo hi)) | _ => False
/-- l[a:b] of a list -/
def fSlL (fa : SE) (fl fh : SO) : SL := fun ρ Q => fa ρ fun d => fl ρ fun lo => fh ρ fun hi => match d with | .list ds => Q (cutD ds lo hi) | _ => False
theorem cutV_whole {xs : List V} {lo hi : Option Int} (h : HT.sIx xs.length 0 lo = 0 ∧ HT.sIx xs.length xs.length hi = xs.length) : cutV xs lo hi = xs := by
  unfold cutV
  rw [h.1, h.2]
  simp
theorem v_slT {a : Expr} {lo hi : Option Expr} {fa : SE} {fl fh : SO} {p2 pos : Pos} (ha : PB X c a fa) (hl : POd X c lo fl) (hh : POd X c hi fh) : PV X c (.Subscript a (.Slice lo hi none p2) pos) (fSlT fa fl fh) := by
  refine ⟨fun ρ Q Q' k h => ha.mono _ _ _ (fun d hd => hl.mono _ _ _ (fun o1 h1 => hh.mono _ _ _ (fun o2 h2 => ?_) h1) hd) h, pe_weak (pe_slice sl_tupA ha.pe hl.po hh.po) fun σ H Q ⟨B, ρ, ok, h⟩ => ⟨B, ρ, ok, ha.mono _ _ _ (fun d hd v B1 H1 g1 r1 => ?_) h⟩⟩
  · cases d <;> first | exact h2.elim | exact k _ h2
  · refine ⟨B1, ρ, ok.mono g1, hl.mono _ _ _ (fun o1 h1 B2 H2 g2 => ?_) hd⟩
    refine ⟨B2, ρ, (ok.mono g1).mono g2, hh.mono _ _ _ (fun o2 h2 B3 H3 g3 => ?_) h1⟩
    have g := (g1.trans ok.w g2).trans ok.w g3
    cases d <;> first | exact h2.elim | skip
    have r := (r1.mono g2).mono g3
    obtain ⟨q, xs, rfl, h3, h4⟩ := r.tup g3.w
    refine ⟨q, xs, rfl, SqT.of h3, fun hw => ?_, fun _ t ht => ?_⟩
    · have e := cut_rpa h4 o1 o2
      rw [cutV_whole hw] at e
      rcases r with r | ⟨_, _, _, _, e, _⟩
      · obtain ⟨q', xs', e1, e2, e3⟩ := rp_tup r
        cases e1
        have e4 := g3.w.sub _ _ e2
        rw [h3] at e4
        cases e4
        exact h2 _ B3 H3 g (.tup e2 e)
      · cases e
    · have g4 := Gr.new (o := .tup (cutV xs o1 o2)) g3.w ht
      exact h2 _ _ _ (g.trans ok.w g4) (.tup upd_same (rpa_mono g4.b (cut_rpa h4 o1 o2)))
theorem n_slL {a : Expr} {lo hi : Option Expr} {fa : SE} {fl fh : SO} {p2 pos : Pos} (ha : PB X c a fa) (hl : POd X c lo fl) (hh : POd X c hi fh) : PN X c (.Subscript a (.Slice lo hi none p2) pos) (fSlL fa fl fh) := by
  refine ⟨fun ρ Q Q' k h => ha.mono _ _ _ (fun d hd => hl.mono _ _ _ (fun o1 h1 => hh.mono _ _ _ (fun o2 h2 => ?_) h1) hd) h, pe_weak (pe_slice sl_list ha.pe hl.po hh.po) fun σ H Q ⟨B, ρ, ok, h⟩ => ⟨B, ρ, ok, ha.mono _ _ _ (fun d hd v B1 H1 g1 r1 => ?_) h⟩⟩
  · cases d <;> first | exact h2.elim | exact k _ h2
  · refine ⟨B1, ρ, ok.mono g1, hl.mono _ _ _ (fun o1 h1 B2 H2 g2 => ?_) hd⟩
    refine ⟨B2, ρ, (ok.mono g1).mono g2, hh.mono _ _ _ (fun o2 h2 B3 H3 g3 => ?_) h1⟩
    have g := (g1.trans ok.w g2).trans ok.w g3
    cases d <;> first | exact h2.elim | skip
    have r := (r1.mono g2).mono g3
    obtain ⟨q, xs, rfl, h3, h4⟩ := r.list g3.w
    refine ⟨q, xs, rfl, SqL.of h3, fun t ht => ?_⟩
    have g4 := Gr.newO (o := .lst (cutV xs o1 o2)) g3.w ht
    exact h2 t _ B3 _ (g.trans ok.w g4) (g.back ht) (Evl.fresh_back g3.w.sub ht) upd_same (cut_rpa h4 o1 o2)
end
end DL
namespace DL
open PySem L2 PyProof.Rows
abbrev St := L2.St
/-! ### slots stored -/
section
variable {c : C} {B H : Hp} {σ : St} {ρ : Env}
theorem SlOk.congr {σ' : St} {i : Nat} {s : Sl} (e : σ'[i]? = σ[i]?) (h : SlOk c B H σ i s) : SlOk c B H σ' i s := by
  cases s with
  | un => trivial
  | sh d => obtain ⟨v, h1, h2⟩ := h; exact ⟨v, by rw [e]; exact h1, h2⟩
  | ow ds => obtain ⟨p, vs, h1, h2⟩ := h; exact ⟨p, vs, by rw [e]; exact h1, h2⟩
  | bg => show σ'[i]? = _; rw [e]; exact h
  | ex x => exact ⟨by rw [e]; exact h.1, h.2⟩
/-- a slot takes a new word -/
theorem EOk.put (ok : EOk c B H σ ρ) {i : Nat} {v : V} {s : Sl} (hs : i < σ.length → SlOk c B H (σ.set i (some v)) i s)
    (ha : ∀ ds p, s = Sl.ow ds → v = V.ref p → ∀ (j : Nat) (es : List D), j ≠ i → ρ[j]? = some (Sl.ow es) → ¬ σ[j]? = some (some (V.ref p))) : EOk c B H (σ.set i (some v)) (ρ.set i s) := by
  have len := ok.len
  refine ⟨ok.w0, ok.w, ok.g, by rw [List.length_set, List.length_set]; exact len, fun j u hj => ?_, fun j k p ds es hjk h1 h2 h3 h4 => ?_⟩
  · by_cases e : i = j
    · subst e
      have hl : i < ρ.length := by
        have := (List.getElem?_eq_some_iff.mp hj).1
        rw [List.length_set] at this; exact this
      rw [List.getElem?_set_self hl] at hj
      cases hj
      exact hs (by rw [← len]; exact hl)
    · rw [List.getElem?_set_ne e] at hj
      exact (ok.sl j u hj).congr (List.getElem?_set_ne e)
  · by_cases ej : i = j
    · subst ej
      have hl : i < ρ.length := by
        have := (List.getElem?_eq_some_iff.mp h1).1
        rw [List.length_set] at this; exact this
      rw [List.getElem?_set_self hl] at h1
      rw [List.getElem?_set_self (by rw [← len]; exact hl)] at h3
      rw [List.getElem?_set_ne hjk] at h2 h4
      cases h1
      cases h3
      exact ha ds p rfl rfl k es (Ne.symm hjk) h2 h4
    · rw [List.getElem?_set_ne ej] at h1 h3
      by_cases ek : i = k
      · subst ek
        have hl : i < ρ.length := by
          have := (List.getElem?_eq_some_iff.mp h2).1
          rw [List.length_set] at this; exact this
        rw [List.getElem?_set_self hl] at h2
        rw [List.getElem?_set_self (by rw [← len]; exact hl)] at h4
        cases h2
        cases h4
        exact ha es p rfl rfl j ds hjk h1 h3
      · rw [List.getElem?_set_ne ek] at h2 h4
        exact ok.ap j k p ds es hjk h1 h2 h3 h4
theorem EOk.putSh (ok : EOk c B H σ ρ) {i : Nat} {v : V} {d : D} (r : Rp B v d) : EOk c B H (σ.set i (some v)) (ρ.set i (.sh d)) :=
  ok.put (fun hi => ⟨v, List.getElem?_set_self hi, r⟩) fun _ _ e => nomatch e
/-- .. by a new list of one's own -/
theorem EOk.putOw (ok : EOk c B H σ ρ) {B' H' : Hp} {i : Nat} {p : Addr} {vs : List V} {ds : List D} (g : Gr c B H B' H') (h0 : H p = none) (h1 : B' p = none) (h2 : H' p = some (.lst vs)) (r : RpA B' vs ds) :
    EOk c B' H' (σ.set i (some (.ref p))) (ρ.set i (.ow ds)) := by
  have nb : ¬ c.isBag p := fun z => ok.w.there z h0
  have hH0 : c.H0 p = none := by
    cases e : c.H0 p with
    | none => rfl
    | some o => rw [ok.g.h p o nb e] at h0; cases h0
  refine (ok.mono g).put (fun hi => ⟨p, vs, List.getElem?_set_self hi, hH0, nb, h1, h2, r⟩) fun es q e1 e2 j fs hj h3 h4 => ?_
  cases e2
  obtain ⟨p', vs', k1, k2, k3, k4, k5, _⟩ := ok.sl j _ h3
  rw [k1] at h4
  cases h4
  rw [h0] at k5
  cases k5
end
/-! ### targets -/
abbrev GT := D → Env → (Env → Prop) → Prop
abbrev GTs := List D → Env → (Env → Prop) → Prop
/-- slots outside ks stay -/
def Off (ks : List Nat) (σ σ' : St) : Prop := σ'.length = σ.length ∧ ∀ j, j ∉ ks → σ'[j]? = σ[j]?
theorem Off.refl (ks : List Nat) (σ : St) : Off ks σ σ := ⟨rfl, fun _ _ => rfl⟩
def toG (c : C) (g : GT) (ks : List Nat) : TG := fun v σ H Q => ∃ B ρ d, EOk c B H σ ρ ∧ Rp B v d ∧ g d ρ fun ρ' => ∀ σ', EOk c B H σ' ρ' → Off ks σ σ' → Q σ' H
def toGs (c : C) (g : GTs) (ks : List Nat) : TGs := fun v σ H Q => ∃ B ρ d, EOk c B H σ ρ ∧ RpA B v d ∧ g d ρ fun ρ' => ∀ σ', EOk c B H σ' ρ' → Off ks σ σ' → Q σ' H
structure PGd (X : Cx) (c : C) (tg : Expr) (g : GT) (ks : List Nat) : Prop where
  mono : ∀ d ρ (Q Q' : Env → Prop), (∀ ρ, Q ρ → Q' ρ) → g d ρ Q → g d ρ Q'
  pg : PG X tg (toG c g ks)
structure PGsd (X : Cx) (c : C) (tg : List Expr) (g : GTs) (ks : List Nat) : Prop where
  mono : ∀ d ρ (Q Q' : Env → Prop), (∀ ρ, Q ρ → Q' ρ) → g d ρ Q → g d ρ Q'
  pg : PGs X tg (toGs c g ks)
def gNm (i : Nat) : GT := fun d ρ Q => Q (ρ.set i (.sh d))
def gsNil : GTs := fun ds ρ Q => ds = [] ∧ Q ρ
def gsCons (g : GT) (gs : GTs) : GTs := fun ds ρ Q => match ds with | d :: r => g d ρ fun ρ' => gs r ρ' Q | [] => False
def gTpl (n : Nat) (gs : GTs) : GT := fun d ρ Q => match d with | .tuple ds => ds.length = n ∧ gs ds ρ Q | _ => False
section
variable {X : Cx} {c : C}
theorem pg_weak {tg : Expr} {t t' : TG} (h : PG X tg t) (w : ∀ v σ H Q, t' v σ H Q → t v σ H Q) : PG X tg t' := ⟨fun pins s σ H v u Q I r q => h.run pins s σ H v u Q I r (w v σ H Q q)⟩
theorem pgs_weak {tg : List Expr} {t t' : TGs} (h : PGs X tg t) (w : ∀ v σ H Q, t' v σ H Q → t v σ H Q) : PGs X tg t' := ⟨fun pins s σ H v u Q I r q => h.run pins s σ H v u Q I r (w v σ H Q q)⟩
theorem g_nm (i : Nat) {x : Str} {pos : Pos} (hN : X.N.Nodup) (hi : X.N[i]? = some x := by rfl) (hx : Loc X.env.scope x := by first | exact Or.inl rfl | exact Or.inr rfl)
    (hf : X.fn x = true ∨ X.env.scope.names.lookup x = some .local := by first | exact .inl rfl | exact .inr rfl | assumption) : PGd X c (.Name x pos) (gNm i) [i] := by
  refine ⟨fun d ρ Q Q' k h => k _ h, pg_weak (pg_name hN hi hx hf) fun v σ H Q ⟨B, ρ, d, ok, r, h⟩ => h _ (ok.putSh r) ⟨by rw [List.length_set], fun j hj => List.getElem?_set_ne (fun e => hj (by simp [e]))⟩⟩
theorem gs_nil : PGsd X c [] gsNil [] := ⟨fun d ρ Q Q' k h => ⟨h.1, k _ h.2⟩, pgs_weak pgs_nil fun vs σ H Q ⟨B, ρ, ds, ok, r, h⟩ => by
  obtain ⟨e, h⟩ := h
  subst e
  cases r
  exact ⟨rfl, h σ ok (Off.refl _ _)⟩⟩
theorem gs_cons {e : Expr} {es : List Expr} {g : GT} {gs : GTs} {ks js : List Nat} (h1 : PGd X c e g ks) (h2 : PGsd X c es gs js)
    (hs : (assignEach (e :: es) X.env).map (·.2) = assign e X.env :: (assignEach es X.env).map (·.2) := by rfl) : PGsd X c (e :: es) (gsCons g gs) (ks ++ js) := by
  refine ⟨fun d ρ Q Q' k h => ?_, pgs_weak (pgs_cons h1.pg h2.pg hs) fun vs σ H Q ⟨B, ρ, ds, ok, r, h⟩ => ?_⟩
  · cases d with
    | nil => exact h
    | cons d r => exact h1.mono _ _ _ _ (fun ρ' h' => h2.mono _ _ _ _ k h') h
  · cases ds with
    | nil => exact h.elim
    | cons d ds =>
      cases r with
      | cons r rr =>
        refine ⟨_, _, rfl, B, ρ, d, ok, r, h1.mono _ _ _ _ (fun ρ1 h' σ1 ok1 o1 => ⟨B, ρ1, ds, ok1, rr, h2.mono _ _ _ _ (fun ρ2 h'' σ2 ok2 o2 => h'' σ2 ok2 ⟨o2.1.trans o1.1, fun j hj => ?_⟩) h'⟩) h⟩
        rw [o2.2 j (fun z => hj (List.mem_append_right _ z)), o1.2 j (fun z => hj (List.mem_append_left _ z))]
theorem g_tup {es : List Expr} {k : Nat} {gs : GTs} {ks : List Nat} {pos : Pos} (hc : X.calm = true) (h : PGsd X c es gs ks) {n : Nat} (hn : (assignEach es X.env).length = n := by rfl) (hst : (assignEach es X.env).findIdx? (·.1) = none := by rfl) :
    PGd X c (.Tuple es k pos) (gTpl n gs) ks := by
  refine ⟨fun d ρ Q Q' k h' => ?_, pg_weak (pg_tup hc h.pg hn hst) fun v σ H Q ⟨B, ρ, d, ok, r, h'⟩ => ?_⟩
  · cases d <;> first | exact h'.elim | exact ⟨h'.1, h.mono _ _ _ _ k h'.2⟩
  · cases d <;> first | exact h'.elim | skip
    obtain ⟨a, xs, rfl, h1, h2⟩ := rp_tup r
    exact ⟨a, xs, rfl, SqT.of (ok.w.sub _ _ h1), by rw [rpa_len h2]; exact h'.1, B, ρ, _, ok, h2, h'.2⟩
end
/-! ### statements -/
structure En where
  nx : Env → Prop
  rt : D → Prop
  bk : Env → Prop
  ct : Env → Prop
  ro : List D → Prop
abbrev SS := En → Env → Prop
structure En.le (D D' : En) : Prop where
  nx : ∀ ρ, D.nx ρ → D'.nx ρ
  rt : ∀ d, D.rt d → D'.rt d
  bk : ∀ ρ, D.bk ρ → D'.bk ρ
  ct : ∀ ρ, D.ct ρ → D'.ct ρ
  ro : ∀ ds, D.ro ds → D'.ro ds
theorem En.le.refl (D : En) : En.le D D := ⟨fun _ h => h, fun _ h => h, fun _ h => h, fun _ h => h, fun _ h => h⟩
def MonoS (f : SS) : Prop := ∀ D D' ρ, En.le D D' → f D ρ → f D' ρ
def liftE (c : C) (B : Hp) (D : Ends) : En where
  nx := fun ρ => ∀ σ' B' H', EOk c B' H' σ' ρ → Ex B B' → D.nx σ' H'
  rt := fun d => ∀ v B' H', Gr c c.B0 c.H0 B' H' → Rp B' v d → D.rt v H'
  bk := fun ρ => ∀ σ' B' H', EOk c B' H' σ' ρ → Ex B B' → D.bk σ' H'
  ct := fun ρ => ∀ σ' B' H', EOk c B' H' σ' ρ → Ex B B' → D.ct σ' H'
  ro := fun ds => ∀ p vs B' H', Gr c c.B0 c.H0 B' H' → c.H0 p = none → B' p = none → H' p = some (.lst vs) → RpA B' vs ds → D.rt (.ref p) H'
theorem liftE_le {c : C} {B B1 : Hp} (e : Ex B B1) (D : Ends) : En.le (liftE c B D) (liftE c B1 D) :=
  ⟨fun _ h σ' B' H' ok x => h σ' B' H' ok (e.trans x), fun _ h => h, fun _ h σ' B' H' ok x => h σ' B' H' ok (e.trans x), fun _ h σ' B' H' ok x => h σ' B' H' ok (e.trans x), fun _ h => h⟩
def toS (c : C) (f : SS) : TS := fun D σ H => ∃ B ρ, EOk c B H σ ρ ∧ f (liftE c B D) ρ
structure PSd (X : Cx) (c : C) (st : Stmt) (f : SS) : Prop where
  mono : MonoS f
  ps : PS X st (toS c f)
structure PSsd (X : Cx) (c : C) (st : List Stmt) (f : SS) : Prop where
  mono : MonoS f
  ps : PSs X st (toS c f)
def fNext : SS := fun D ρ => D.nx ρ
def fSeqS (f g : SS) : SS := fun D ρ => f { D with nx := g D } ρ
theorem mono_SeqS {f g : SS} (hf : MonoS f) (hg : MonoS g) : MonoS (fSeqS f g) := fun D D' ρ l h => hf { D with nx := g D } { D' with nx := g D' } ρ ⟨fun ρ h => hg _ _ _ l h, l.rt, l.bk, l.ct, l.ro⟩ h
section
variable {X : Cx} {c : C}
theorem ss_nil : PSsd X c [] fNext := ⟨fun _ _ _ l h => l.nx _ h, pss_weak pss_nil fun D σ H ⟨B, ρ, ok, h⟩ => h σ B H ok (Evl.Ex.refl B)⟩
theorem ss_cons {st : Stmt} {rest : List Stmt} {f g : SS} (h1 : PSd X c st f) (h2 : PSsd X c rest g) : PSsd X c (st :: rest) (fSeqS f g) := by
  refine ⟨mono_SeqS h1.mono h2.mono, pss_weak (pss_cons h1.ps h2.ps) fun D σ H ⟨B, ρ, ok, h⟩ => ?_⟩
  exact ⟨B, ρ, ok, h1.mono { liftE c B D with nx := g (liftE c B D) } _ _ ⟨fun ρ' q σ' B' H' ok' e => ⟨B', ρ', ok', h2.mono _ _ _ (liftE_le e D) q⟩, fun _ q => q, fun _ q => q, fun _ q => q, fun _ q => q⟩ h⟩
theorem ss_one {st : Stmt} {f : SS} (h1 : PSd X c st f) : PSsd X c [st] f := ⟨h1.mono, pss_one h1.ps⟩
def fBreak : SS := fun D ρ => D.bk ρ
def fCont : SS := fun D ρ => D.ct ρ
def fNever : SS := fun _ _ => False
theorem s_break {pos : Pos} : PSd X c (.Break pos) fBreak := ⟨fun _ _ _ l h => l.bk _ h, ps_weak ps_break fun D σ H ⟨B, ρ, ok, h⟩ => h σ B H ok (Evl.Ex.refl B)⟩
theorem s_continue {pos : Pos} : PSd X c (.Continue pos) fCont := ⟨fun _ _ _ l h => l.ct _ h, ps_weak ps_continue fun D σ H ⟨B, ρ, ok, h⟩ => h σ B H ok (Evl.Ex.refl B)⟩
theorem s_pass {pos : Pos} : PSd X c (.Pass pos) fNext := ⟨fun _ _ _ l h => l.nx _ h, ps_weak ps_pass fun D σ H ⟨B, ρ, ok, h⟩ => h σ B H ok (Evl.Ex.refl B)⟩
theorem s_never {st : Stmt} : PSd X c st fNever := ⟨fun _ _ _ _ h => h, ps_weak ps_never fun D σ H ⟨B, ρ, ok, h⟩ => h⟩
def fRet (fa : SE) : SS := fun D ρ => fa ρ D.rt
theorem s_ret {e : Expr} {fa : SE} {pos : Pos} (ha : PV X c e fa) : PSd X c (.Return (some e) pos) (fRet fa) :=
  ⟨fun D D' ρ l h => ha.mono _ _ _ l.rt h, ps_weak (ps_ret ha.pe) fun D σ H ⟨B, ρ, ok, h⟩ => ⟨B, ρ, ok, ha.mono _ _ _ (fun d hd v B' H' g r => hd v B' H' (ok.g.trans ok.w0 g) r) h⟩⟩
/-- a list of one's own is handed back -/
def fRetO (i : Nat) : SS := fun D ρ => match lk ρ i with | .ow ds => D.ro ds | _ => False
def fRetN (f : SL) : SS := fun D ρ => f ρ D.ro
theorem s_retO (i : Nat) {x : Str} {p pos : Pos} (hN : X.N[i]? = some x := by rfl) (hv : Vis X.env.scope x := by first | exact Or.inl rfl | exact Or.inr (Or.inl rfl) | exact Or.inr (Or.inr rfl))
    (hd : (x == ("__debug__" : Str)) = false := by decide) (hcd : (x == ("__classdict__" : Str)) = false := by decide) : PSd X c (.Return (some (.Name x p)) pos) (fRetO i) := by
  refine ⟨fun D D' ρ l h => ?_, ps_weak (ps_ret (pe_var hN hv hd hcd)) fun D σ H ⟨B, ρ, ok, h⟩ => ?_⟩
  · unfold fRetO at h ⊢
    cases e : lk ρ i with
    | ow ds => rw [e] at h; exact l.ro _ h
    | _ => rw [e] at h; exact h.elim
  · unfold fRetO at h
    cases e : lk ρ i with
    | ow ds =>
      rw [e] at h
      obtain ⟨q, vs, h1, h2, h3, h4, h5, h6⟩ := ok.sl i _ (lk_get e (fun z => nomatch z))
      exact ⟨_, h1, h q vs B H ok.g h2 h4 h5 h6⟩
    | _ => rw [e] at h; exact h.elim
theorem s_retN {e : Expr} {fa : SL} {pos : Pos} (ha : PN X c e fa) : PSd X c (.Return (some e) pos) (fRetN fa) :=
  ⟨fun D D' ρ l h => ha.mono _ _ _ l.ro h, ps_weak (ps_ret ha.pe) fun D σ H ⟨B, ρ, ok, h⟩ => ⟨B, ρ, ok, ha.mono _ _ _ (fun ds hd p vs B' H' g h0 h1 h2 r => hd p vs B' H' (ok.g.trans ok.w0 g) (ok.g.back h0) h1 h2 r) h⟩⟩
def fIfS (t : ST) (f g : SS) : SS := fun D ρ => t ρ fun b => if b = true then f D ρ else g D ρ
theorem s_if {cc : Expr} {a b : List Stmt} {t : ST} {f g : SS} {pos : Pos} (ht : PTd X c cc t) (ha : PSsd X c a f) (hb : PSsd X c b g) : PSd X c (.If cc a b pos) (fIfS t f g) := by
  refine ⟨fun D D' ρ l h => ht.mono _ _ _ (fun b hb' => ?_) h, ps_weak (ps_if ht.pt ha.ps hb.ps) fun D σ H ⟨B, ρ, ok, h⟩ => ⟨B, ρ, ok, ht.mono _ _ _ (fun b hb' B' H' g' => ?_) h⟩⟩
  · cases b with
    | true => exact ha.mono _ _ _ l hb'
    | false => exact hb.mono _ _ _ l hb'
  · cases b with
    | true => exact ⟨B', ρ, ok.mono g', ha.mono _ _ _ (liftE_le g'.b D) hb'⟩
    | false => exact ⟨B', ρ, ok.mono g', hb.mono _ _ _ (liftE_le g'.b D) hb'⟩
def fSet (i : Nat) (fa : SE) : SS := fun D ρ => fa ρ fun d => D.nx (ρ.set i (.sh d))
theorem mono_Set {i : Nat} {fa : SE} (h : Mono fa) : MonoS (fSet i fa) := fun D D' ρ l q => h _ _ _ (fun d hd => l.nx _ hd) q
theorem set_go {i : Nat} {fa : SE} (h : Mono fa) (D : Ends) (σ : St) (H : Hp) (q : toS c (fSet i fa) D σ H) : tAsg (toV c fa) (gName i) D σ H := by
  obtain ⟨B, ρ, ok, q⟩ := q
  exact ⟨B, ρ, ok, h _ _ _ (fun d hd v B' H' g r => hd _ _ _ ((ok.mono g).putSh r) g.b) q⟩
theorem s_set (i : Nat) {x : Str} {e : Expr} {fa : SE} {pos pos' : Pos} (hN : X.N.Nodup) (he : PV X c e fa) (hi : X.N[i]? = some x := by rfl) (hx : Loc X.env.scope x := by first | exact Or.inl rfl | exact Or.inr rfl)
    (hs : swapsWith e (some (.Name x pos')) pos.line X.env = pure false := by rfl) (hf : X.fn x = true ∨ X.env.scope.names.lookup x = some .local := by first | exact .inl rfl | exact .inr rfl | assumption) :
    PSd X c (.Assign [.Name x pos'] e pos) (fSet i fa) := ⟨mono_Set he.mono, ps_weak (ps_set hN hi hx he.pe hs hf) (set_go he.mono)⟩
/-- a name that shall be changed: a new list of one's own -/
def fSetN (i : Nat) (fa : SL) : SS := fun D ρ => fa ρ fun ds => D.nx (ρ.set i (.ow ds))
theorem mono_SetN {i : Nat} {fa : SL} (h : MonoL fa) : MonoS (fSetN i fa) := fun D D' ρ l q => h _ _ _ (fun d hd => l.nx _ hd) q
theorem setN_go {i : Nat} {fa : SL} (h : MonoL fa) (D : Ends) (σ : St) (H : Hp) (q : toS c (fSetN i fa) D σ H) : tAsg (toN c fa) (gName i) D σ H := by
  obtain ⟨B, ρ, ok, q⟩ := q
  exact ⟨B, ρ, ok, h _ _ _ (fun ds hd p vs B' H' g h0 h1 h2 r => hd _ _ _ (ok.putOw g h0 h1 h2 r) g.b) q⟩
theorem s_setN (i : Nat) {x : Str} {e : Expr} {fa : SL} {pos pos' : Pos} (hN : X.N.Nodup) (he : PN X c e fa) (hi : X.N[i]? = some x := by rfl) (hx : Loc X.env.scope x := by first | exact Or.inl rfl | exact Or.inr rfl)
    (hs : swapsWith e (some (.Name x pos')) pos.line X.env = pure false := by rfl) (hf : X.fn x = true ∨ X.env.scope.names.lookup x = some .local := by first | exact .inl rfl | exact .inr rfl | assumption) :
    PSd X c (.Assign [.Name x pos'] e pos) (fSetN i fa) := ⟨mono_SetN he.mono, ps_weak (ps_set hN hi hx he.pe hs hf) (setN_go he.mono)⟩
/-- any target -/
def fAsg (fa : SE) (g : GT) : SS := fun D ρ => fa ρ fun d => g d ρ D.nx
theorem s_asg {tg e : Expr} {fa : SE} {g : GT} {ks : List Nat} {pos : Pos} (he : PV X c e fa) (hg : PGd X c tg g ks) (hs : swapsWithSole [tg] e pos.line X.env = pure false := by rfl) (hw : swappedStores [tg] e X.env = pure none := by rfl)
    (h1 : (assignEach [tg] X.env).map (·.2) = [assign tg X.env] := by rfl) : PSd X c (.Assign [tg] e pos) (fAsg fa g) :=
  ⟨fun D D' ρ l h => he.mono _ _ _ (fun d hd => hg.mono _ _ _ _ l.nx hd) h, ps_weak (ps_asg he.pe hg.pg hs hw h1) fun D σ H ⟨B, ρ, ok, h⟩ => ⟨B, ρ, ok, he.mono _ _ _ (fun d hd v B' H' g' r =>
    ⟨B', ρ, d, ok.mono g', r, hg.mono _ _ _ _ (fun ρ' h' σ' ok' _ => h' σ' B' H' ok' g'.b) hd⟩) h⟩⟩
/-! ### a, b = x, y: data and new lists -/
abbrev SM := Env → (List Sl → Prop) → Prop
def MOk (c : C) (H B' H' : Hp) : List V → List Sl → Prop
  | [], [] => True
  | v :: vs, .sh d :: ss => Rp B' v d ∧ MOk c H B' H' vs ss
  | v :: vs, .ow ds :: ss => (∃ p ws, v = .ref p ∧ H p = none ∧ B' p = none ∧ H' p = some (.lst ws) ∧ RpA B' ws ds ∧ v ∉ vs) ∧ MOk c H B' H' vs ss
  | _, _ => False
def toM (c : C) (f : SM) : TA := fun σ H Q => ∃ B ρ, EOk c B H σ ρ ∧ f ρ fun ss => ∀ vs B' H', Gr c B H B' H' → MOk c H B' H' vs ss → Q vs H'
structure PMd (X : Cx) (c : C) (es : List Expr) (f : SM) : Prop where
  mono : MonoA f
  pa : PA X es (toM c f)
def fMV (fa : SE) (fr : SM) : SM := fun ρ Q => fa ρ fun d => fr ρ fun ss => Q (.sh d :: ss)
def fMN (fa : SL) (fr : SM) : SM := fun ρ Q => fa ρ fun ds => fr ρ fun ss => Q (.ow ds :: ss)
theorem MOk.back {B H B1 H1 B' H' : Hp} (g : Gr c B H B1 H1) (g2 : Gr c B1 H1 B' H') : ∀ {vs : List V} {ss : List Sl}, MOk c H1 B' H' vs ss → MOk c H B' H' vs ss
  | [], [], _ => trivial
  | _ :: _, .sh _ :: _, h => ⟨h.1, MOk.back g g2 h.2⟩
  | _ :: _, .ow _ :: _, h => by
    obtain ⟨⟨p, ws, e, h0, r⟩, h2⟩ := h
    exact ⟨⟨p, ws, e, g.back h0, r⟩, MOk.back g g2 h2⟩
  | _ :: _, .un :: _, h => h
  | _ :: _, .bg :: _, h => h
  | _ :: _, .ex _ :: _, h => h
  | [], _ :: _, h => h
  | _ :: _, [], h => h
/-- an address that stands at H1 and is not shared is none of the later values -/
theorem MOk.notin {H1 B' H' : Hp} {p : Addr} {o : HO} (h1 : H1 p = some o) (h2 : B' p = none) : ∀ {vs : List V} {ss : List Sl}, MOk c H1 B' H' vs ss → V.ref p ∉ vs
  | [], [], _ => by simp
  | v :: vs, .sh d :: ss, h => by
    intro z
    rcases List.mem_cons.mp z with z | z
    · subst z
      obtain ⟨r, _⟩ := h
      cases r with
      | lst e _ => rw [h2] at e; cases e
      | tup e _ => rw [h2] at e; cases e
      | dct e _ => rw [h2] at e; cases e
    · exact MOk.notin h1 h2 h.2 z
  | v :: vs, .ow ds :: ss, h => by
    intro z
    obtain ⟨⟨q, ws, e, h0, _⟩, h3⟩ := h
    rcases List.mem_cons.mp z with z | z
    · rw [e] at z
      cases z
      rw [h1] at h0; cases h0
    · exact MOk.notin h1 h2 h3 z
  | _ :: _, .un :: _, h => h.elim
  | _ :: _, .bg :: _, h => h.elim
  | _ :: _, .ex _ :: _, h => h.elim
  | [], _ :: _, h => h.elim
  | _ :: _, [], h => h.elim
theorem m_nil : PMd X c [] fAN := ⟨fun _ _ _ k h => k _ h, pa_weak pa_nil fun σ H Q ⟨B, ρ, ok, h⟩ => h [] B H (Gr.refl ok.w) trivial⟩
theorem m_v {e : Expr} {es : List Expr} {fa : SE} {fr : SM} (ha : PV X c e fa) (hr : PMd X c es fr) (hs : starEach (e :: es) X.env = (false, eval e X.env) :: starEach es X.env := by rfl) : PMd X c (e :: es) (fMV fa fr) := by
  refine ⟨fun ρ Q Q' k h => ha.mono _ _ _ (fun d hd => hr.mono _ _ _ (fun ds he => k _ he) hd) h, pa_weak (pa_cons ha.pe hr.pa hs) fun σ H Q ⟨B, ρ, ok, h⟩ => ?_⟩
  refine ⟨B, ρ, ok, ha.mono _ _ _ (fun d hd v B1 H1 g1 r1 => ?_) h⟩
  exact ⟨B1, ρ, ok.mono g1, hr.mono _ _ _ (fun ds he vs B2 H2 g2 r2 => he _ B2 H2 (g1.trans ok.w g2) ⟨rp_mono g2.b r1, MOk.back g1 g2 r2⟩) hd⟩
theorem m_n {e : Expr} {es : List Expr} {fa : SL} {fr : SM} (ha : PN X c e fa) (hr : PMd X c es fr) (hs : starEach (e :: es) X.env = (false, eval e X.env) :: starEach es X.env := by rfl) : PMd X c (e :: es) (fMN fa fr) := by
  refine ⟨fun ρ Q Q' k h => ha.mono _ _ _ (fun d hd => hr.mono _ _ _ (fun ds he => k _ he) hd) h, pa_weak (pa_cons ha.pe hr.pa hs) fun σ H Q ⟨B, ρ, ok, h⟩ => ?_⟩
  refine ⟨B, ρ, ok, ha.mono _ _ _ (fun ds hd p ws B1 H1 g1 h0 h1 h2 r1 => ?_) h⟩
  refine ⟨B1, ρ, ok.mono g1, hr.mono _ _ _ (fun ss he vs B2 H2 g2 r2 => he _ B2 H2 (g1.trans ok.w g2) ⟨⟨p, ws, rfl, h0, ?_, ?_, rpa_mono g2.b r1, ?_⟩, MOk.back g1 g2 r2⟩) hd⟩
  · rw [g2.n p (by rw [h2]; exact fun q => nomatch q)]; exact h1
  · exact g2.h p _ (fun z => ok.w.there z h0) h2
  · exact MOk.notin h2 (by rw [g2.n p (by rw [h2]; exact fun q => nomatch q)]; exact h1) r2
/-- the slots at js take the words ss -/
def setAll : Env → List Nat → List Sl → Env
  | ρ, j :: js, s :: ss => setAll (ρ.set j s) js ss
  | ρ, _, _ => ρ
def setV : St → List Nat → List V → St
  | σ, j :: js, v :: vs => setV (σ.set j (some v)) js vs
  | σ, _, _ => σ
/-- σ0, H: the state ahead of the right side; the slots at done have taken values -/
theorem putAll {B H B' H' : Hp} (w : Wd c B H) (g : Gr c B H B' H') : ∀ {js : List Nat} {vs : List V} {ss : List Sl} {σ : St} {ρ : Env}, EOk c B' H' σ ρ → js.length = ss.length → MOk c H B' H' vs ss →
    (∀ (j : Nat) (es : List D) (p : Addr), V.ref p ∈ vs → H p = none → ρ[j]? = some (Sl.ow es) → ¬ σ[j]? = some (some (V.ref p))) → (c.H0 = c.H0) → (∀ a o, ¬ c.isBag a → c.H0 a = some o → H a = some o) → EOk c B' H' (setV σ js vs) (setAll ρ js ss)
  | [], [], [], _, _, ok, _, _, _, _, _ => ok
  | j :: js, v :: vs, .sh d :: ss, σ, ρ, ok, hl, h, hn, _, h0 => by
    show EOk c B' H' (setV (σ.set j (some v)) js vs) (setAll (ρ.set j (.sh d)) js ss)
    refine putAll w g (ok.putSh h.1) (by simpa using hl) h.2 (fun k es p hp hH h1 h2 => ?_) rfl h0
    by_cases e : j = k
    · subst e
      have hlen : j < ρ.length := by
        have := (List.getElem?_eq_some_iff.mp h1).1
        rw [List.length_set] at this; exact this
      rw [List.getElem?_set_self hlen] at h1
      cases h1
    · rw [List.getElem?_set_ne e] at h1 h2
      exact hn k es p (List.mem_cons_of_mem _ hp) hH h1 h2
  | j :: js, v :: vs, .ow ds :: ss, σ, ρ, ok, hl, h, hn, _, h0 => by
    obtain ⟨⟨p, ws, e, k0, k1, k2, k3, k4⟩, h2⟩ := h
    subst e
    have nb : ¬ c.isBag p := fun z => w.there z k0
    have hH0 : c.H0 p = none := by
      cases e : c.H0 p with
      | none => rfl
      | some o => rw [h0 p o nb e] at k0; cases k0
    show EOk c B' H' (setV (σ.set j (some (.ref p))) js vs) (setAll (ρ.set j (.ow ds)) js ss)
    refine putAll w g (ok.put (fun hi => ⟨p, ws, List.getElem?_set_self hi, hH0, nb, k1, k2, k3⟩) fun es q e1 e2 i fs hi h3 h4 => ?_) (by simpa using hl) h2 (fun k es q hq hH h1 h3 => ?_) rfl h0
    · cases e2
      exact hn i fs p List.mem_cons_self k0 h3 h4
    · by_cases e : j = k
      · subst e
        have hlen : j < ρ.length := by
          have := (List.getElem?_eq_some_iff.mp h1).1
          rw [List.length_set] at this; exact this
        rw [List.getElem?_set_self (by rw [← ok.len]; exact hlen)] at h3
        have e3 : V.ref p = V.ref q := Option.some.inj (Option.some.inj h3)
        rw [← e3] at hq
        exact k4 hq
      · rw [List.getElem?_set_ne e] at h1 h3
        exact hn k es q (List.mem_cons_of_mem _ hq) hH h1 h3
  | [], [], _ :: _, _, _, _, hl, _, _, _, _ => by simp at hl
  | [], _ :: _, [], _, _, _, _, h, _, _, _ => h.elim
  | _ :: _, _, [], _, _, _, hl, _, _, _, _ => by simp at hl
  | [], _ :: _, _ :: _, _, _, _, hl, _, _, _, _ => by simp at hl
  | _ :: _, [], _ :: _, _, _, _, _, h, _, _, _ => h.elim
  | _ :: _, _ :: _, .un :: _, _, _, _, _, h, _, _, _ => h.elim
  | _ :: _, _ :: _, .ex _ :: _, _, _, _, _, h, _, _, _ => h.elim
  | _ :: _, _ :: _, .bg :: _, _, _, _, _, h, _, _, _ => h.elim
theorem putAll' {B H B' H' : Hp} {js : List Nat} {vs : List V} {ss : List Sl} {σ : St} {ρ : Env} (ok : EOk c B H σ ρ) (g : Gr c B H B' H') (hl : js.length = ss.length) (h : MOk c H B' H' vs ss) : EOk c B' H' (setV σ js vs) (setAll ρ js ss) :=
  putAll ok.w g (ok.mono g) hl h (fun j es p _ hp h1 h2 => by
    obtain ⟨q, ws, k1, _, _, _, k5, _⟩ := ok.sl j _ h1
    rw [k1] at h2
    cases h2
    rw [hp] at k5
    cases k5) rfl ok.g.h
theorem MOk.len {H B' H' : Hp} : ∀ {vs : List V} {ss : List Sl}, MOk c H B' H' vs ss → vs.length = ss.length
  | [], [], _ => rfl
  | _ :: _, .sh _ :: _, h => by rw [List.length_cons, List.length_cons, MOk.len h.2]
  | _ :: _, .ow _ :: _, h => by rw [List.length_cons, List.length_cons, MOk.len h.2]
  | _ :: _, .un :: _, h => h.elim
  | _ :: _, .ex _ :: _, h => h.elim
  | _ :: _, .bg :: _, h => h.elim
  | [], _ :: _, h => h.elim
  | _ :: _, [], h => h.elim
def fPar (js : List Nat) (f : SM) : SS := fun D ρ => f ρ fun ss => js.length = ss.length ∧ D.nx (setAll ρ js ss)
theorem mono_Par {js : List Nat} {f : SM} (h : MonoA f) : MonoS (fPar js f) := fun D D' ρ l q => h _ _ _ (fun ss hs => ⟨hs.1, l.nx _ hs.2⟩) q
theorem s_par (i j : Nat) {x y : Str} {a b : Expr} {f : SM} {px py pt pos : Pos} {kt k2 : Nat} {pt2 : Pos} (hc : X.calm = true) (hN : X.N.Nodup) (ha : PMd X c [a, b] f) (hi : X.N[i]? = some x := by rfl) (hj : X.N[j]? = some y := by rfl) (hij : i ≠ j := by decide)
    (hx : X.env.scope.names.lookup x = some .local := by rfl) (hy : X.env.scope.names.lookup y = some .local := by rfl)
    (hw : swappedStores [.Tuple [.Name x px, .Name y py] kt pt] (.Tuple [a, b] k2 pt2) X.env = pure (some [x, y]) := by rfl)
    (hs : swapsWithSole [.Tuple [.Name x px, .Name y py] kt pt] (.Tuple [a, b] k2 pt2) pos.line X.env = pure false := by rfl) :
    PSd X c (.Assign [.Tuple [.Name x px, .Name y py] kt pt] (.Tuple [a, b] k2 pt2) pos) (fPar [i, j] f) := by
  refine ⟨mono_Par ha.mono, ps_weak (ps_par hc hN hi hj hij hx hy ha.pa hw hs) fun D σ H ⟨B, ρ, ok, h⟩ => ⟨B, ρ, ok, ha.mono _ _ _ (fun ss hd vs B' H' g r => ?_) h⟩⟩
  have hv := r.len
  have hq := hd.2 _ B' H' (putAll' ok g hd.1 r) g.b
  rw [← hd.1] at hv
  match vs, hv with
  | [v, w], _ => exact ⟨v, w, rfl, hq⟩
theorem s_par3 (i j l : Nat) {x y z : Str} {a b d : Expr} {f : SM} {px py pz pt pos : Pos} {kt k2 : Nat} {pt2 : Pos} (hc : X.calm = true) (hN : X.N.Nodup) (ha : PMd X c [a, b, d] f) (hi : X.N[i]? = some x := by rfl) (hj : X.N[j]? = some y := by rfl) (hl : X.N[l]? = some z := by rfl)
    (hij : i ≠ j := by decide) (hil : i ≠ l := by decide) (hjl : j ≠ l := by decide) (hx : X.env.scope.names.lookup x = some .local := by rfl) (hy : X.env.scope.names.lookup y = some .local := by rfl) (hz : X.env.scope.names.lookup z = some .local := by rfl)
    (hw : swappedStores [.Tuple [.Name x px, .Name y py, .Name z pz] kt pt] (.Tuple [a, b, d] k2 pt2) X.env = pure (some [x, y, z]) := by rfl)
    (hs : swapsWithSole [.Tuple [.Name x px, .Name y py, .Name z pz] kt pt] (.Tuple [a, b, d] k2 pt2) pos.line X.env = pure false := by rfl) :
    PSd X c (.Assign [.Tuple [.Name x px, .Name y py, .Name z pz] kt pt] (.Tuple [a, b, d] k2 pt2) pos) (fPar [i, j, l] f) := by
  refine ⟨mono_Par ha.mono, ps_weak (ps_par3 hc hN hi hj hl hij hil hjl hx hy hz ha.pa hw hs) fun D σ H ⟨B, ρ, ok, h⟩ => ⟨B, ρ, ok, ha.mono _ _ _ (fun ss hd vs B' H' g r => ?_) h⟩⟩
  have hv := r.len
  have hq := hd.2 _ B' H' (putAll' ok g hd.1 r) g.b
  rw [← hd.1] at hv
  match vs, hv with
  | [u, v, w], _ => exact ⟨u, v, w, rfl, hq⟩
end
end DL
namespace DL
open PySem L2 PyProof.Rows
/-! ### a list of one's own is changed -/
section
variable {c : C} {B H : Hp} {σ : St} {ρ : Env}
theorem EOk.chg (ok : EOk c B H σ ρ) {i : Nat} {p : Addr} {ds ds' : List D} {vs' : List V} (hl : lk ρ i = .ow ds) (hp : σ[i]? = some (some (.ref p))) (r : RpA B vs' ds') : EOk c B (upd H p (.lst vs')) σ (ρ.set i (.ow ds')) := by
  have hi := lk_get hl (fun z => nomatch z)
  obtain ⟨p', vs, k1, k2, k3, k4, k5, k6⟩ := ok.sl i _ hi
  rw [hp] at k1
  cases k1
  have w' : Wd c B (upd H p (.lst vs')) := by
    refine ⟨fun a o e => ?_, ok.w.bag.keep fun a ha => ⟨rfl, upd_ne fun z => k3 (z ▸ ha)⟩⟩
    rw [upd_ne (ne_of_none e k4)]; exact ok.w.sub a o e
  have hil : i < ρ.length := (List.getElem?_eq_some_iff.mp hi).1
  refine ⟨ok.w0, w', ⟨ok.g.b, fun a o nb e => ?_, ok.g.n, w'⟩, by rw [List.length_set]; exact ok.len, fun j s hj => ?_, fun j k q es fs hjk h1 h2 h3 h4 => ?_⟩
  · rw [upd_ne (ne_of_none e k2)]; exact ok.g.h a o nb e
  · by_cases e : i = j
    · subst e
      rw [List.getElem?_set_self hil] at hj
      cases hj
      exact ⟨p, vs', hp, k2, k3, k4, upd_same, r⟩
    · rw [List.getElem?_set_ne e] at hj
      have o := ok.sl j s hj
      cases s with
      | un => trivial
      | sh d => exact o
      | ex x => exact ⟨o.1, o.2.1, fun y dv e1 => by
        obtain ⟨dd, v, m1, m2, m3, m4⟩ := o.2.2 y dv e1
        exact ⟨dd, v, m1, m2, by rw [upd_ne (fun z => by rw [z, k5] at m3; cases m3)]; exact m3, m4⟩⟩
      | bg => exact o
      | ow es =>
        obtain ⟨q, ws, m1, m2, m3, m4, m5, m6⟩ := o
        have ne : q ≠ p := fun z => by
          subst z
          exact ok.ap i j q _ _ e hi hj hp m1
        exact ⟨q, ws, m1, m2, m3, m4, by rw [upd_ne ne]; exact m5, m6⟩
  · have old : ∀ {x : Nat} {fs : List D}, (ρ.set i (Sl.ow ds'))[x]? = some (Sl.ow fs) → ∃ gs, ρ[x]? = some (Sl.ow gs) := fun {x fs} hx => by
      by_cases e : i = x
      · subst e; exact ⟨_, hi⟩
      · rw [List.getElem?_set_ne e] at hx; exact ⟨_, hx⟩
    obtain ⟨g1, e1⟩ := old h1
    obtain ⟨g2, e2⟩ := old h2
    exact ok.ap j k q g1 g2 hjk e1 e2 h3 h4
theorem EOk.own (ok : EOk c B H σ ρ) {i : Nat} {ds : List D} (hl : lk ρ i = .ow ds) : ∃ p vs, σ[i]? = some (some (.ref p)) ∧ H p = some (.lst vs) ∧ RpA B vs ds := by
  obtain ⟨p, vs, k1, k2, k3, k4, k5, k6⟩ := ok.sl i _ (lk_get hl (fun z => nomatch z))
  exact ⟨p, vs, k1, k5, k6⟩
/-- a list of one's own is shared from here on -/
theorem EOk.freeze (ok : EOk c B H σ ρ) {i : Nat} {ds : List D} (hl : lk ρ i = .ow ds) : ∃ p vs, EOk c (upd B p (.lst vs)) H σ (ρ.set i (.sh (.list ds))) ∧ B p = none := by
  have hi := lk_get hl (fun z => nomatch z)
  obtain ⟨p, vs, k1, k2, k3, k4, k5, k6⟩ := ok.sl i _ hi
  have x : Ex B (upd B p (.lst vs)) := Evl.Ex.new k4
  have w' : Wd c (upd B p (.lst vs)) H := by
    refine ⟨fun a o e => ?_, ok.w.bag.keep fun a ha => ⟨upd_ne fun z => k3 (z ▸ ha), rfl⟩⟩
    by_cases z : a = p
    · subst z
      rw [upd_same] at e
      rw [k5]; exact e
    · rw [upd_ne z] at e; exact ok.w.sub a o e
  have hil : i < ρ.length := (List.getElem?_eq_some_iff.mp hi).1
  refine ⟨p, vs, ⟨ok.w0, w', ⟨ok.g.b.trans x, ok.g.h, fun a ha => ?_, w'⟩, by rw [List.length_set]; exact ok.len, fun j s hj => ?_, fun j k q es fs hjk h1 h2 h3 h4 => ?_⟩, k4⟩
  · rw [upd_ne (fun z => ha (by rw [z]; exact k2))]; exact ok.g.n a ha
  · by_cases e : i = j
    · subst e
      rw [List.getElem?_set_self hil] at hj
      cases hj
      exact ⟨_, k1, .lst upd_same (rpa_mono x k6)⟩
    · rw [List.getElem?_set_ne e] at hj
      have o := ok.sl j s hj
      cases s with
      | un => trivial
      | sh d =>
        obtain ⟨v, m1, m2⟩ := o
        exact ⟨v, m1, rp_mono x m2⟩
      | ex z => exact ⟨o.1, o.2.1, fun y dv e1 => by
        obtain ⟨dd, v, m1, m2, m3, m4⟩ := o.2.2 y dv e1
        exact ⟨dd, v, m1, m2, m3, rp_mono x m4⟩⟩
      | bg => exact o
      | ow es =>
        obtain ⟨q, ws, m1, m2, m3, m4, m5, m6⟩ := o
        have ne : q ≠ p := fun z => by
          subst z
          exact ok.ap i j q _ _ e hi hj k1 m1
        exact ⟨q, ws, m1, m2, m3, by rw [upd_ne ne]; exact m4, m5, rpa_mono x m6⟩
  · have old : ∀ {y : Nat} {fs : List D}, (ρ.set i (Sl.sh (.list ds)))[y]? = some (Sl.ow fs) → ρ[y]? = some (Sl.ow fs) := fun {y fs} hx => by
      by_cases e : i = y
      · subst e; rw [List.getElem?_set_self hil] at hx; cases hx
      · rw [List.getElem?_set_ne e] at hx; exact hx
    exact ok.ap j k q _ _ hjk (old h1) (old h2) h3 h4
end
/-- the most items -/
def most : Nat := 4000000
theorem most_lt {n : Nat} (h : n < most) : n < sizeLine := by rw [sizeLine_eq]; unfold most at h; omega
theorem most_le {n : Nat} (h : n ≤ most) : n ≤ sizeLine := by rw [sizeLine_eq]; unfold most at h; omega
def fApp (i : Nat) (fa : SE) : SS := fun D ρ => match lk ρ i with | .ow ds => fa ρ fun d => ds.length < most ∧ D.nx (ρ.set i (.ow (ds ++ [d]))) | _ => False
def fExt (i : Nat) (fa : SE) : SS := fun D ρ => match lk ρ i with | .ow ds => fa ρ fun d => (match d with | .list es => ds.length + es.length ≤ most ∧ D.nx (ρ.set i (.ow (ds ++ es))) | _ => False) | _ => False
def fPop (i : Nat) (g : GT) : SS := fun D ρ => match lk ρ i with | .ow ds => (match ds.getLast? with | some d => g d (ρ.set i (.ow ds.dropLast)) D.nx | none => False) | _ => False
def fSetIx (i : Nat) (fa fk : SE) : SS := fun D ρ => match lk ρ i with
  | .ow ds => fa ρ fun d => fk ρ fun k => (match k with | .int k => (match ixN ds.length k with | some j => D.nx (ρ.set i (.ow (ds.set j d))) | none => False) | _ => False)
  | _ => False
def fFreeze (i : Nat) (f : SS) : SS := fun D ρ => match lk ρ i with | .ow ds => f D (ρ.set i (.sh (.list ds))) | _ => False
section
variable {X : Cx} {c : C}
theorem s_freeze (i : Nat) {st : Stmt} {f : SS} (h : PSd X c st f) : PSd X c st (fFreeze i f) := by
  refine ⟨fun D D' ρ l q => ?_, ps_weak h.ps fun D σ H ⟨B, ρ, ok, q⟩ => ?_⟩
  · unfold fFreeze at q ⊢
    split at q <;> first | exact q.elim | exact h.mono _ _ _ l q
  · unfold fFreeze at q
    split at q <;> first | exact q.elim | skip
    rename_i e
    obtain ⟨p, vs, ok', hb⟩ := ok.freeze e
    exact ⟨_, _, ok', h.mono _ _ _ (liftE_le (Evl.Ex.new hb) D) q⟩
theorem s_app (i : Nat) {x : Str} {e : Expr} {fa : SE} {p1 p2 pos pos' : Pos} (ha : PV X c e fa) (hN : X.N[i]? = some x := by rfl) (hv : Vis X.env.scope x := by first | exact Or.inl rfl | exact Or.inr (Or.inl rfl) | exact Or.inr (Or.inr rfl))
    (hd : (x == ("__debug__" : Str)) = false := by decide) (hcd : (x == ("__classdict__" : Str)) = false := by decide)
    (hbase : attributeBase (.Name x p1) "append" X.env (eval (.Name x p1) X.env) = eval (.Name x p1) X.env := by rfl)
    (hfew : ((backTo pos (starEach [e] X.env)).all (fun x => !x.1) && (backToKw pos (keywordEach [] X.env)).all (fun x => x.1.isSome) && decide ([e].length + ([] : List Keyword).length + (if ([] : List Keyword).isEmpty then 0 else 1) < 30)) = true := by rfl)
    (hline : (p2.endLine == pos.line) = true := by rfl) (hst : starEach [e] X.env = (false, eval e X.env) :: starEach [] X.env := by rfl) (hplain : (backTo pos (starEach [] X.env)).any (·.1) = false := by rfl)
    (hs : swapsWith (.Call (.Attribute (.Name x p1) "append" p2) [e] [] pos) none pos'.line X.env = pure false := by rfl) :
    PSd X c (.Expr (.Call (.Attribute (.Name x p1) "append" p2) [e] [] pos) pos') (fApp i fa) := by
  have hpe : PE X (.Call (.Attribute (.Name x p1) "append" p2) [e] [] pos) (tBM X.K "list" rAppend (tVar i) (tCons (toV c fa) tNil)) := pe_bm PySem.F.plainAttrs_list PySem.F.slot_list_append PySem.F.type_list_append mt_append (pe_var hN hv hd hcd) (pa_cons ha.pe pa_nil hst) hbase hfew hline hst hplain
  refine ⟨fun D D' ρ l q => ?_, ps_weak (ps_expr hpe hs) fun D σ H ⟨B, ρ, ok, q⟩ => ?_⟩
  · unfold fApp at q ⊢
    split at q <;> first | exact q.elim | exact ha.mono _ _ _ (fun d hd => ⟨hd.1, l.nx _ hd.2⟩) q
  · unfold fApp at q
    split at q <;> first | exact q.elim | skip
    rename_i ds e1
    obtain ⟨p, vs, k1, k2, k3⟩ := ok.own e1
    refine ⟨_, k1, .inl ⟨rfl, vs, SqL.of k2⟩, B, ρ, ok, ha.mono _ _ _ (fun d hd v B1 H1 g1 r1 => ?_) q⟩
    obtain ⟨p', vs1, m1, m2, m3⟩ := (ok.mono g1).own e1
    rw [k1] at m1
    cases m1
    refine ⟨p, vs1, v, rfl, rfl, m2, ?_, ?_⟩
    · rw [rpa_len m3]; exact most_lt hd.1
    · exact hd.2 σ B1 _ ((ok.mono g1).chg e1 k1 (rpa_app m3 (.cons r1 .nil))) g1.b
theorem s_ext (i : Nat) {x : Str} {e : Expr} {fa : SE} {p1 p2 pos pos' : Pos} (ha : PB X c e fa) (hN : X.N[i]? = some x := by rfl) (hv : Vis X.env.scope x := by first | exact Or.inl rfl | exact Or.inr (Or.inl rfl) | exact Or.inr (Or.inr rfl))
    (hd : (x == ("__debug__" : Str)) = false := by decide) (hcd : (x == ("__classdict__" : Str)) = false := by decide)
    (hbase : attributeBase (.Name x p1) "extend" X.env (eval (.Name x p1) X.env) = eval (.Name x p1) X.env := by rfl)
    (hfew : ((backTo pos (starEach [e] X.env)).all (fun x => !x.1) && (backToKw pos (keywordEach [] X.env)).all (fun x => x.1.isSome) && decide ([e].length + ([] : List Keyword).length + (if ([] : List Keyword).isEmpty then 0 else 1) < 30)) = true := by rfl)
    (hline : (p2.endLine == pos.line) = true := by rfl) (hst : starEach [e] X.env = (false, eval e X.env) :: starEach [] X.env := by rfl) (hplain : (backTo pos (starEach [] X.env)).any (·.1) = false := by rfl)
    (hs : swapsWith (.Call (.Attribute (.Name x p1) "extend" p2) [e] [] pos) none pos'.line X.env = pure false := by rfl) :
    PSd X c (.Expr (.Call (.Attribute (.Name x p1) "extend" p2) [e] [] pos) pos') (fExt i fa) := by
  have hpe : PE X (.Call (.Attribute (.Name x p1) "extend" p2) [e] [] pos) (tBM X.K "list" rExtend (tVar i) (tCons (toB c fa) tNil)) := pe_bm PySem.F.plainAttrs_list PySem.F.slot_list_extend PySem.F.type_list_extend mt_extend (pe_var hN hv hd hcd) (pa_cons ha.pe pa_nil hst) hbase hfew hline hst hplain
  refine ⟨fun D D' ρ l q => ?_, ps_weak (ps_expr hpe hs) fun D σ H ⟨B, ρ, ok, q⟩ => ?_⟩
  · unfold fExt at q ⊢
    split at q <;> first | exact q.elim | skip
    refine ha.mono _ _ _ (fun d hd => ?_) q
    cases d <;> first | exact hd.elim | exact ⟨hd.1, l.nx _ hd.2⟩
  · unfold fExt at q
    split at q <;> first | exact q.elim | skip
    rename_i ds e1
    obtain ⟨p, vs, k1, k2, k3⟩ := ok.own e1
    refine ⟨_, k1, .inl ⟨rfl, vs, SqL.of k2⟩, B, ρ, ok, ha.mono _ _ _ (fun d hd v B1 H1 g1 r1 => ?_) q⟩
    cases d <;> first | exact hd.elim | skip
    obtain ⟨p', vs1, m1, m2, m3⟩ := (ok.mono g1).own e1
    rw [k1] at m1
    cases m1
    obtain ⟨b, zs, rfl, h1, h2⟩ := r1.list g1.w
    refine ⟨p, b, vs1, zs, rfl, rfl, m2, h1, ?_, ?_⟩
    · rw [rpa_len m3, rpa_len h2]; exact most_le hd.1
    · exact hd.2 σ B1 _ ((ok.mono g1).chg e1 k1 (rpa_app m3 h2)) g1.b
theorem rpa_dropLast {B : Hp} {vs : List V} {ds : List D} (h : RpA B vs ds) : RpA B vs.dropLast ds.dropLast := by
  rw [List.dropLast_eq_take, List.dropLast_eq_take, rpa_len h]
  exact rpa_take _ h
theorem s_pop (i : Nat) {x : Str} {tg : Expr} {g : GT} {ks : List Nat} {p1 p2 pos pos' : Pos} (hg : PGd X c tg g ks) (hN : X.N[i]? = some x := by rfl) (hv : Vis X.env.scope x := by first | exact Or.inl rfl | exact Or.inr (Or.inl rfl) | exact Or.inr (Or.inr rfl))
    (hd : (x == ("__debug__" : Str)) = false := by decide) (hcd : (x == ("__classdict__" : Str)) = false := by decide)
    (hbase : attributeBase (.Name x p1) "pop" X.env (eval (.Name x p1) X.env) = eval (.Name x p1) X.env := by rfl) (hline : (p2.endLine == pos.line) = true := by rfl)
    (hs : swapsWithSole [tg] (.Call (.Attribute (.Name x p1) "pop" p2) [] [] pos) pos'.line X.env = pure false := by rfl) (hw : swappedStores [tg] (.Call (.Attribute (.Name x p1) "pop" p2) [] [] pos) X.env = pure none := by rfl)
    (h1 : (assignEach [tg] X.env).map (·.2) = [assign tg X.env] := by rfl) :
    PSd X c (.Assign [tg] (.Call (.Attribute (.Name x p1) "pop" p2) [] [] pos) pos') (fPop i g) := by
  have hpe : PE X (.Call (.Attribute (.Name x p1) "pop" p2) [] [] pos) (tBM0 X.K "list" rPop (tVar i)) := pe_bm0 PySem.F.plainAttrs_list PySem.F.slot_list_pop PySem.F.type_list_pop mt_pop (pe_var hN hv hd hcd) hbase hline
  refine ⟨fun D D' ρ l q => ?_, ps_weak (ps_asg hpe hg.pg hs hw h1) fun D σ H ⟨B, ρ, ok, q⟩ => ?_⟩
  · unfold fPop at q ⊢
    split at q <;> first | exact q.elim | skip
    split at q <;> first | exact q.elim | exact hg.mono _ _ _ _ l.nx q
  · unfold fPop at q
    split at q <;> first | exact q.elim | skip
    split at q <;> first | exact q.elim | skip
    rename_i ds e1 _ d e2
    obtain ⟨p, vs, k1, k2, k3⟩ := ok.own e1
    rw [List.getLast?_eq_getElem?] at e2
    obtain ⟨y, h3, h4⟩ := rpa_get k3 e2
    refine ⟨_, k1, .inl ⟨rfl, vs, SqL.of k2⟩, p, vs, y, rfl, rfl, k2, by rw [rpa_len k3]; exact h3, ?_⟩
    exact ⟨B, _, d, ok.chg e1 k1 (rpa_dropLast k3), h4, hg.mono _ _ _ _ (fun ρ' h' σ' ok' _ => h' σ' B _ ok' (Evl.Ex.refl B)) q⟩
theorem s_setIx (i : Nat) {x : Str} {e idx : Expr} {fa fk : SE} {p1 p2 pos : Pos} (he : PV X c e fa) (hk : PB X c idx fk) (hN : X.N[i]? = some x := by rfl) (hv : Vis X.env.scope x := by first | exact Or.inl rfl | exact Or.inr (Or.inl rfl) | exact Or.inr (Or.inr rfl))
    (hd : (x == ("__debug__" : Str)) = false := by decide) (hcd : (x == ("__classdict__" : Str)) = false := by decide)
    (ha : ∀ v, assign (.Subscript (.Name x p1) idx p2) X.env v = (do
      let ov ← holding [v] (eval (.Name x p1) X.env)
      let iv ← holding [v, ov] (eval idx X.env)
      standAt p2
      holding [v, ov, iv] (setItem ov iv v)
      release [v, ov, iv] []) := by intro _; rfl)
    (hs : swapsWithSole [.Subscript (.Name x p1) idx p2] e pos.line X.env = pure false := by rfl) (hw : swappedStores [.Subscript (.Name x p1) idx p2] e X.env = pure none := by rfl)
    (h1 : (assignEach [.Subscript (.Name x p1) idx p2] X.env).map (·.2) = [assign (.Subscript (.Name x p1) idx p2) X.env] := by rfl) :
    PSd X c (.Assign [.Subscript (.Name x p1) idx p2] e pos) (fSetIx i fa fk) := by
  refine ⟨fun D D' ρ l q => ?_, ps_weak (ps_asg he.pe (pg_sub (pe_var hN hv hd hcd) hk.pe set_list ha) hs hw h1) fun D σ H ⟨B, ρ, ok, q⟩ => ?_⟩
  · unfold fSetIx at q ⊢
    split at q <;> first | exact q.elim | skip
    refine he.mono _ _ _ (fun d hd => hk.mono _ _ _ (fun k hk' => ?_) hd) q
    cases k <;> first | exact hk'.elim | skip
    dsimp only at hk' ⊢
    split at hk' <;> first | exact hk'.elim | exact l.nx _ hk'
  · unfold fSetIx at q
    split at q <;> first | exact q.elim | skip
    rename_i ds e1
    refine ⟨B, ρ, ok, he.mono _ _ _ (fun d hd v B1 H1 g1 r1 => ?_) q⟩
    obtain ⟨p, vs, k1, k2, k3⟩ := (ok.mono g1).own e1
    refine ⟨_, k1, B1, ρ, ok.mono g1, hk.mono _ _ _ (fun k hk' u B2 H2 g2 r2 => ?_) hd⟩
    cases k <;> first | exact hk'.elim | skip
    rename_i k
    dsimp only at hk'
    split at hk' <;> first | exact hk'.elim | skip
    rename_i j e3
    have ok2 := (ok.mono g1).mono g2
    obtain ⟨p', vs1, m1, m2, m3⟩ := ok2.own e1
    rw [k1] at m1
    cases m1
    exact ⟨p, vs1, k, j, rfl, r2.int, m2, by rw [rpa_len m3]; exact e3, hk' σ B2 _ (ok2.chg e1 k1 (rpa_set (rp_mono g2.b r1) j m3)) (g1.b.trans g2.b)⟩
end
/-! ### what is walked -/
abbrev SI := Env → (List D → Prop) → Prop
/-- J yields ds, whatever more may come to stand -/
def ItOk (c : C) (J : It) (B : Hp) (ds : List D) : Prop := ∀ (i : Nat) (B1 H1 : Hp), Ex B B1 → Wd c B1 H1 →
  (ds.length ≤ i → J.stop i H1) ∧ ∀ d, ds[i]? = some d → J.go i H1 ∧ ∀ x H2, J.yld i H1 x H2 → ∃ B2, Gr c B1 H1 B2 H2 ∧ Rp B2 x d
def toI (c : C) (f : SI) : TI := fun σ H R => ∃ B ρ, EOk c B H σ ρ ∧ f ρ fun ds => ∀ J B' H', Gr c B H B' H' → ItOk c J B' ds → R J H'
structure PItd (X : Cx) (c : C) (tg iter : Expr) (f : SI) : Prop where
  mono : MonoL f
  pi : PI X tg iter (toI c f)
theorem pi_weak {X : Cx} {tg iter : Expr} {t t' : TI} (h : PI X tg iter t) (w : ∀ σ H R, t' σ H R → t σ H R) : PI X tg iter t' := ⟨fun pins s σ H R I q => h.run pins s σ H R I (w σ H R q)⟩
section
variable {X : Cx} {c : C} {tg : Expr}
theorem itok_list {B : Hp} {a : Addr} {xs : List V} {ds : List D} (h : B a = some (.lst xs)) (r : RpA B xs ds) : ItOk c (Itl X.K a) B ds := fun i B1 H1 e w => by
  have h1 : H1 a = some (.lst xs) := w.sub _ _ (e _ _ h)
  refine ⟨fun hi => ⟨xs, SqL.of h1, by rw [rpa_len r]; exact hi⟩, fun d hd => ?_⟩
  obtain ⟨v, h2, h3⟩ := rpa_get r hd
  refine ⟨⟨xs, v, SqL.of h1, h2⟩, fun x H2 ⟨e1, y⟩ => ?_⟩
  subst e1
  have := y xs (SqL.of h1)
  rw [h2] at this
  cases this
  exact ⟨B1, Gr.refl w, rp_mono e h3⟩
theorem itok_tup {B : Hp} {a : Addr} {xs : List V} {ds : List D} (h : B a = some (.tup xs)) (r : RpA B xs ds) : ItOk c (Itt X.K a) B ds := fun i B1 H1 e w => by
  have h1 : H1 a = some (.tup xs) := w.sub _ _ (e _ _ h)
  refine ⟨fun hi => ⟨xs, SqT.of h1, by rw [rpa_len r]; exact hi⟩, fun d hd => ?_⟩
  obtain ⟨v, h2, h3⟩ := rpa_get r hd
  refine ⟨⟨xs, v, SqT.of h1, h2⟩, fun x H2 ⟨e1, y⟩ => ?_⟩
  subst e1
  have := y xs (SqT.of h1)
  rw [h2] at this
  cases this
  exact ⟨B1, Gr.refl w, rp_mono e h3⟩
/-- a list or a tuple -/
def iSeqD (K : PySem.W.Frag) (tl : TE) : TI := fun σ H R => tl σ H fun x H1 => ∃ a xs, x = .ref a ∧ ((SqL K H1 a xs ∧ R (Itl K a) H1) ∨ (SqT K H1 a xs ∧ R (Itt K a) H1))
theorem pi_seqD {l : Expr} {tl : TE} (hl : PE X l tl) : PI X tg l (iSeqD X.K tl) := by
  refine ⟨fun pins s σ H R I h => thn (hl.run pins s σ H _ I h) fun v s1 hv => ?_⟩
  obtain ⟨x, H1, I1, r1, a, xs, ex, hq⟩ := hv
  subst ex
  cases r1
  have fr : FpOk X pins H1 s1.heap.objs.size := I1.fpOk (Nat.le_refl _) (I1.hok.fresh (Nat.le_refl _))
  have all : ∀ b ∈ [s1.heap.objs.size], FpOk X pins H1 b := fun b hb => by
    rw [List.mem_singleton] at hb
    rw [hb]; exact fr
  rcases hq with ⟨hq, q⟩ | ⟨hq, q⟩
  · obtain ⟨its, _, p, _⟩ := I1.list hq
    exact wpAny_pyIter_list p.isList ⟨_, _, _, _, H1, rfl, I1.kept (t' := s1.toks) fun _ _ e => Heap.get?_push_of_some _ e, turn_list a _, ⟨_, Heap.get?_push_size _ rfl, rfl, rfl⟩, all, q⟩
  · obtain ⟨its, _, p, _⟩ := I1.tuple hq
    exact wpAny_pyIter_tuple (show s1.heap.IsTuple a its.toArray from p) ⟨_, _, _, _, H1, rfl, I1.kept (t' := s1.toks) fun _ _ e => Heap.get?_push_of_some _ e, turn_tuple a _, ⟨_, Heap.get?_push_size _ rfl, rfl, rfl⟩, all, q⟩
theorem i_seq {e : Expr} {fa : SE} (ha : PV X c e fa) : PItd X c tg e (fSeq fa) := by
  refine ⟨mono_Seq ha.mono, pi_weak (pi_seqD ha.pe) fun σ H R ⟨B, ρ, ok, h⟩ => ⟨B, ρ, ok, ha.mono _ _ _ (fun d hd v B' H' g r => ?_) h⟩⟩
  cases d <;> simp only [seqOf] at hd <;> first | exact hd.elim | skip
  · obtain ⟨a, xs, rfl, h1, h2⟩ := rp_lst r
    exact ⟨a, xs, rfl, .inl ⟨SqL.of (g.w.sub _ _ h1), hd _ B' H' g (itok_list h1 h2)⟩⟩
  · obtain ⟨a, xs, rfl, h1, h2⟩ := rp_tup r
    exact ⟨a, xs, rfl, .inr ⟨SqT.of (g.w.sub _ _ h1), hd _ B' H' g (itok_tup h1 h2)⟩⟩
/-- lo, lo + 1, .. -/
def rng (lo : Int) (n : Nat) : List D := (List.range n).map fun i => .int (lo + (i : Nat))
theorem rng_len (lo : Int) (n : Nat) : (rng lo n).length = n := by unfold rng; rw [List.length_map, List.length_range]
theorem rng_get {lo : Int} {n i : Nat} {d : D} (h : (rng lo n)[i]? = some d) : i < n ∧ d = .int (lo + (i : Nat)) := by
  have hi : i < n := by
    have := (List.getElem?_eq_some_iff.mp h).1
    rw [rng_len] at this; exact this
  refine ⟨hi, ?_⟩
  unfold rng at h
  rw [List.getElem?_map, List.getElem?_range hi] at h
  cases h; rfl
theorem itok_rng {B : Hp} {lo : Int} {n : Nat} : ItOk c (Itr lo n) B (rng lo n) := fun i B1 H1 e w => by
  refine ⟨fun hi => by rw [rng_len] at hi; exact hi, fun d hd => ?_⟩
  obtain ⟨h1, h2⟩ := rng_get hd
  refine ⟨h1, fun x H2 ⟨e1, y⟩ => ?_⟩
  subst e1 y h2
  exact ⟨B1, Gr.refl w, .int _⟩
def fRng1 (fa : SE) : SI := fun ρ Q => fa ρ fun d => match d with | .int j => -(2 ^ 62) ≤ j ∧ j < 2 ^ 62 ∧ Q (rng 0 j.toNat) | _ => False
def fRng2 (fa fb : SE) : SI := fun ρ Q => fa ρ fun d => fb ρ fun e => match d, e with | .int i, .int j => (-(2 ^ 62) ≤ i ∧ i < 2 ^ 62 ∧ -(2 ^ 62) ≤ j ∧ j < 2 ^ 62) ∧ Q (rng i (j - i).toNat) | _, _ => False
theorem i_rng1 {a : Expr} {fa : SE} {p pos : Pos} (hm : X.mg "range" = none) (ha : PB X c a fa) (hg : Gl X "range" := by rfl) (hs : starEach [a] X.env = [(false, eval a X.env)] := by rfl) : PItd X c tg (.Call (.Name "range" p) [a] [] pos) (fRng1 fa) := by
  refine ⟨fun ρ Q Q' k h => ha.mono _ _ _ (fun d hd => ?_) h, pi_weak (pi_range1 hg hm (pa_cons ha.pe pa_nil (by rw [hs]; rfl)) hs) fun σ H R ⟨B, ρ, ok, h⟩ => ⟨B, ρ, ok, ha.mono _ _ _ (fun d hd v B' H' g r => ?_) h⟩⟩
  · cases d <;> first | exact hd.elim | exact ⟨hd.1, hd.2.1, k _ hd.2.2⟩
  · cases d <;> first | exact hd.elim | skip
    rw [r.int]
    exact ⟨_, rfl, hd.1, hd.2.1, hd.2.2 _ B' H' g itok_rng⟩
theorem i_rng2 {a b : Expr} {fa fb : SE} {p pos : Pos} (hm : X.mg "range" = none) (ha : PB X c a fa) (hb : PB X c b fb) (hg : Gl X "range" := by rfl) (hs : starEach [a, b] X.env = [(false, eval a X.env), (false, eval b X.env)] := by rfl) (hs2 : starEach [b] X.env = [(false, eval b X.env)] := by rfl) :
    PItd X c tg (.Call (.Name "range" p) [a, b] [] pos) (fRng2 fa fb) := by
  refine ⟨fun ρ Q Q' k h => ha.mono _ _ _ (fun d hd => hb.mono _ _ _ (fun e he => ?_) hd) h, pi_weak (pi_range2 hg hm (pa_cons ha.pe (pa_cons hb.pe pa_nil (by rw [hs2]; rfl)) (by rw [hs, hs2])) hs hs2) fun σ H R ⟨B, ρ, ok, h⟩ =>
    ⟨B, ρ, ok, ha.mono _ _ _ (fun d hd v B' H' g r => ⟨B', ρ, ok.mono g, hb.mono _ _ _ (fun e he u B2 H2 g2 r2 => ?_) hd⟩) h⟩⟩
  · cases d <;> cases e <;> first | exact he.elim | exact ⟨he.1, k _ he.2⟩
  · cases d <;> cases e <;> first | exact he.elim | skip
    rw [r.int, r2.int]
    exact ⟨_, _, rfl, he.1, he.2 _ B2 H2 (g.trans ok.w g2) itok_rng⟩
/-! ### for, while -/
/-- what a turn is to reach: k, the next turn -/
def loopE (k : Env → Prop) (D : En) : En := { nx := k, rt := D.rt, bk := D.nx, ct := k, ro := D.ro }
theorem loopE_le {k k' : Env → Prop} {D D' : En} (h : ∀ ρ, k ρ → k' ρ) (l : En.le D D') : En.le (loopE k D) (loopE k' D') := ⟨h, l.rt, l.nx, h, l.ro⟩
def fFor (g : GT) (body : SS) : List D → SS
  | [] => fun D ρ => D.nx ρ
  | d :: ds => fun D ρ => g d ρ fun ρ' => body (loopE (fFor g body ds D) D) ρ'
theorem mono_For {g : GT} {body : SS} (hg : ∀ d ρ (Q Q' : Env → Prop), (∀ ρ, Q ρ → Q' ρ) → g d ρ Q → g d ρ Q') (hb : MonoS body) : ∀ ds, MonoS (fFor g body ds)
  | [] => fun _ _ _ l h => l.nx _ h
  | _ :: ds => fun D D' ρ l h => hg _ _ _ _ (fun ρ' h' => hb _ _ _ (loopE_le (fun ρ q => mono_For hg hb ds _ _ _ l q) l) h') h
theorem s_for {iter : Expr} {body : List Stmt} {fi : SI} {g : GT} {ks : List Nat} {f : SS} {pos : Pos} (hp : PassesOwn (model X.prog X.w) X.A X.env X.xe) (hc : X.calm = true) (hi : PItd X c tg iter fi) (hg : PGd X c tg g ks) (hb : PSsd X c body f)
    (hs : ∀ x, foldedSetIterable iter X.env x = pure x := by intro _; rfl) : PSd X c (.For tg iter body [] pos) (fun D ρ => fi ρ fun ds => fFor g f ds D ρ) := by
  refine ⟨fun D D' ρ l h => hi.mono _ _ _ (fun ds q => mono_For hg.mono hb.mono ds _ _ _ l q) h, ps_weak (ps_for hp hc hi.pi hg.pg hb.ps hs) fun D σ H ⟨B, ρ, ok, h⟩ => ?_⟩
  refine ⟨B, ρ, ok, hi.mono _ _ _ (fun ds hd J B' H' g' it => ?_) h⟩
  refine ⟨fun i m σ1 H1 => m = ds.length - i ∧ i ≤ ds.length ∧ ∃ B1 ρ1, EOk c B1 H1 σ1 ρ1 ∧ Ex B' B1 ∧ fFor g f (ds.drop i) (liftE c B1 D) ρ1, ⟨ds.length, by simp, Nat.zero_le _, B', ρ, ok.mono g', Evl.Ex.refl _, ?_⟩, ?_⟩
  · rw [List.drop_zero]
    exact mono_For hg.mono hb.mono ds _ _ _ (liftE_le g'.b D) hd
  · rintro i m σ1 H1 ⟨rfl, hi', B1, ρ1, ok1, e1, q⟩
    obtain ⟨i1, i2⟩ := it i B1 H1 e1 ok1.w
    by_cases hlt : i < ds.length
    · refine .inr ?_
      obtain ⟨d, hd⟩ : ∃ d, ds[i]? = some d := ⟨ds[i], by simp [hlt]⟩
      obtain ⟨go, yl⟩ := i2 d hd
      refine ⟨go, fun σ' H' => ∃ B2 ρ2, EOk c B2 H' σ' ρ2 ∧ Ex B' B2 ∧ fFor g f (ds.drop (i + 1)) (liftE c B2 D) ρ2, fun σ' H' ⟨B2, ρ2, k1, k2, k3⟩ => ⟨ds.length - (i + 1), by omega, rfl, hlt, B2, ρ2, k1, k2, k3⟩, fun x H2 hy => ?_⟩
      obtain ⟨B2, g2, r2⟩ := yl x H2 hy
      have ed : ds.drop i = d :: ds.drop (i + 1) := by
        rw [List.drop_eq_getElem_cons hlt]
        congr 1
        have := List.getElem?_eq_getElem hlt
        rw [this] at hd
        exact Option.some.inj hd
      rw [ed] at q
      refine ⟨B2, ρ1, d, ok1.mono g2, r2, hg.mono _ _ _ _ (fun ρ' h' σ' ok' _ => ?_) q⟩
      refine ⟨B2, ρ', ok', hb.mono (loopE (fFor g f (ds.drop (i + 1)) (liftE c B1 D)) (liftE c B1 D)) _ _ ⟨fun ρ3 h3 σ3 B3 H3 ok3 e3 => ?_, fun _ h3 => h3, fun ρ3 h3 σ3 B3 H3 ok3 e3 => ?_, fun ρ3 h3 σ3 B3 H3 ok3 e3 => ?_, fun _ h3 => h3⟩ h'⟩
      · exact ⟨B3, ρ3, ok3, (e1.trans g2.b).trans e3, mono_For hg.mono hb.mono _ _ _ _ (liftE_le (g2.b.trans e3) D) h3⟩
      · exact h3 σ3 B3 H3 ok3 (g2.b.trans e3)
      · exact ⟨B3, ρ3, ok3, (e1.trans g2.b).trans e3, mono_For hg.mono hb.mono _ _ _ _ (liftE_le (g2.b.trans e3) D) h3⟩
    · refine .inl ⟨i1 (by omega), ?_⟩
      rw [List.drop_eq_nil_of_le (by omega)] at q
      exact q σ1 B1 H1 ok1 (Evl.Ex.refl _)
def fWhN (t : ST) (body : SS) : Nat → SS
  | 0 => fun _ _ => False
  | n + 1 => fun D ρ => t ρ fun b => if b = true then body (loopE (fWhN t body n D) D) ρ else D.nx ρ
theorem mono_WhN {t : ST} {body : SS} (ht : MonoT t) (hb : MonoS body) : ∀ n, MonoS (fWhN t body n)
  | 0 => fun _ _ _ _ h => h
  | n + 1 => fun D D' ρ l h => ht _ _ _ (fun b hb' => by
    cases b with
    | true => exact hb _ _ _ (loopE_le (fun ρ q => mono_WhN ht hb n _ _ _ l q) l) hb'
    | false => exact l.nx _ hb') h
def fWhile (t : ST) (body : SS) : SS := fun D ρ => ∃ n, fWhN t body n D ρ
theorem s_while {cc : Expr} {body : List Stmt} {t : ST} {f : SS} {pos : Pos} (hp : PassesOwn (model X.prog X.w) X.A X.env X.xe) (ht : PTd X c cc t) (hb : PSsd X c body f) : PSd X c (.While cc body [] pos) (fWhile t f) := by
  refine ⟨fun D D' ρ l ⟨n, h⟩ => ⟨n, mono_WhN ht.mono hb.mono n _ _ _ l h⟩, ps_weak (ps_while hp ht.pt hb.ps) fun D σ H ⟨B, ρ, ok, n, h⟩ => ?_⟩
  refine ⟨fun m σ1 H1 => ∃ B1 ρ1, EOk c B1 H1 σ1 ρ1 ∧ fWhN t f m (liftE c B1 D) ρ1, ⟨n, B, ρ, ok, h⟩, ?_⟩
  rintro m σ1 H1 ⟨B1, ρ1, ok1, q⟩
  cases m with
  | zero => exact q.elim
  | succ m =>
    refine ⟨B1, ρ1, ok1, ht.mono _ _ _ (fun b hb' B2 H2 g2 => ?_) q⟩
    cases b with
    | false => exact hb' σ1 B2 H2 (ok1.mono g2) g2.b
    | true =>
      rw [if_pos rfl] at hb' ⊢
      refine ⟨fun σ' H' => ∃ B3 ρ3, EOk c B3 H' σ' ρ3 ∧ fWhN t f m (liftE c B3 D) ρ3, fun σ' H' k => ⟨m, Nat.lt_succ_self _, k⟩, ?_⟩
      refine ⟨B2, ρ1, ok1.mono g2, hb.mono (loopE (fWhN t f m (liftE c B1 D)) (liftE c B1 D)) _ _ ⟨fun ρ3 h3 σ3 B3 H3 ok3 e3 => ?_, fun _ h3 => h3, fun ρ3 h3 σ3 B3 H3 ok3 e3 => ?_, fun ρ3 h3 σ3 B3 H3 ok3 e3 => ?_, fun _ h3 => h3⟩ hb'⟩
      · exact ⟨B3, ρ3, ok3, mono_WhN ht.mono hb.mono _ _ _ _ (liftE_le (g2.b.trans e3) D) h3⟩
      · exact h3 σ3 B3 H3 ok3 (g2.b.trans e3)
      · exact ⟨B3, ρ3, ok3, mono_WhN ht.mono hb.mono _ _ _ _ (liftE_le (g2.b.trans e3) D) h3⟩
end
/-! ### list comprehensions -/
def wipeE (ρ : Env) : List Nat → Env
  | [] => ρ
  | v :: vs => (wipeE ρ vs).set v .un
theorem EOk.wiped {c : C} {B H : Hp} {σ : St} {ρ : Env} (ok : EOk c B H σ ρ) : ∀ vs : List Nat, EOk c B H (wipe σ vs) (wipeE ρ vs)
  | [] => ok
  | v :: vs => by
    have h := EOk.wiped ok vs
    show EOk c B H ((wipe σ vs).set v none) ((wipeE ρ vs).set v .un)
    have len := h.len
    refine ⟨h.w0, h.w, h.g, by rw [List.length_set, List.length_set]; exact len, fun j s hj => ?_, fun j k p ds es hjk h1 h2 h3 h4 => ?_⟩
    · by_cases e : v = j
      · subst e
        have hl : v < (wipeE ρ vs).length := by
          have := (List.getElem?_eq_some_iff.mp hj).1
          rw [List.length_set] at this; exact this
        rw [List.getElem?_set_self hl] at hj
        cases hj
        trivial
      · rw [List.getElem?_set_ne e] at hj
        exact (h.sl j s hj).congr (List.getElem?_set_ne e)
    · have old : ∀ {y : Nat} {fs : List D}, ((wipeE ρ vs).set v Sl.un)[y]? = some (Sl.ow fs) → v ≠ y ∧ (wipeE ρ vs)[y]? = some (Sl.ow fs) := fun {y fs} hx => by
        by_cases e : v = y
        · subst e
          have hl : v < (wipeE ρ vs).length := by
            have := (List.getElem?_eq_some_iff.mp hx).1
            rw [List.length_set] at this; exact this
          rw [List.getElem?_set_self hl] at hx; cases hx
        · rw [List.getElem?_set_ne e] at hx; exact ⟨e, hx⟩
      obtain ⟨n1, o1⟩ := old h1
      obtain ⟨n2, o2⟩ := old h2
      rw [List.getElem?_set_ne n1] at h3
      rw [List.getElem?_set_ne n2] at h4
      exact h.ap j k p ds es hjk o1 o2 h3 h4
theorem wipe_get {σ : St} : ∀ {vs : List Nat} {j : Nat}, (wipe σ vs)[j]? = if j ∈ vs then (if j < σ.length then some none else none) else σ[j]?
  | [], j => by simp [wipe]
  | v :: vs, j => by
    show ((wipe σ vs).set v none)[j]? = _
    by_cases e : v = j
    · subst e
      by_cases h : v < σ.length
      · rw [List.getElem?_set_self (by rw [wipe_length]; exact h)]
        simp [h]
      · rw [List.getElem?_eq_none (by rw [List.length_set, wipe_length]; omega)]
        simp [h]
    · rw [List.getElem?_set_ne e, wipe_get]
      by_cases h : j ∈ vs
      · simp [h]
      · have : j ∉ v :: vs := by simp only [List.mem_cons, not_or]; exact ⟨fun z => e z.symm, h⟩
        rw [if_neg h, if_neg this]
theorem wipe_off {σ σ' : St} {ks vs : List Nat} (hk : ∀ k ∈ ks, k ∈ vs) (h : Off ks (wipe σ vs) σ') : wipe σ' vs = wipe σ vs := by
  apply List.ext_getElem?
  intro j
  have hl : σ'.length = σ.length := by rw [h.1, wipe_length]
  rw [wipe_get, wipe_get, hl]
  by_cases hj : j ∈ vs
  · rw [if_pos hj, if_pos hj]
  · rw [if_neg hj, if_neg hj, h.2 j (fun z => hj (hk j z)), wipe_get, if_neg hj]
structure PTsd (X : Cx) (c : C) (ifs : List Expr) (t : ST) : Prop where
  mono : MonoT t
  pts : PTs X ifs (toT c t)
def fYes : ST := fun _ Q => Q true
theorem ts_nil {X : Cx} {c : C} : PTsd X c [] fYes := ⟨fun _ _ _ k h => k _ h, ⟨fun pins s σ H Q I h => pts_nil.run pins s σ H Q I (by
  obtain ⟨B, ρ, ok, h⟩ := h
  exact h B H (Gr.refl ok.w))⟩⟩
theorem ts_one {X : Cx} {c : C} {e : Expr} {t : ST} (h : PTd X c e t) : PTsd X c [e] t := ⟨h.mono, pts_one h.pt⟩
def lcRun (g : GT) (t : ST) (e : SE) (ρ : Env) : List D → (List D → Prop) → Prop
  | [], Q => Q []
  | d :: ds, Q => g d ρ fun ρ1 => t ρ1 fun b => if b = true then e ρ1 fun y => lcRun g t e ρ ds fun ys => Q (y :: ys) else lcRun g t e ρ ds Q
theorem mono_lcRun {g : GT} {t : ST} {e : SE} {ρ : Env} (hg : ∀ d ρ (Q Q' : Env → Prop), (∀ ρ, Q ρ → Q' ρ) → g d ρ Q → g d ρ Q') (ht : MonoT t) (he : Mono e) : ∀ (ds : List D) (Q Q' : List D → Prop), (∀ ys, Q ys → Q' ys) → lcRun g t e ρ ds Q → lcRun g t e ρ ds Q'
  | [], _, _, k, h => k _ h
  | _ :: ds, Q, Q', k, h => hg _ _ _ _ (fun ρ1 h1 => ht _ _ _ (fun b hb => by
    cases b with
    | true => exact he _ _ _ (fun y hy => mono_lcRun hg ht he ds _ _ (fun ys h => k _ h) hy) hb
    | false => exact mono_lcRun hg ht he ds _ _ k hb) h1) h
def fLc (vs : List Nat) (fi : SI) (g : GT) (t : ST) (e : SE) : SL := fun ρ Q => fi ρ fun ds => ds.length ≤ most ∧ lcRun g t e (wipeE ρ vs) ds Q
theorem Gr.upN {c : C} {B H B' H' : Hp} (w : Wd c B H) (g : Gr c B H B' H') {p : Addr} {o : HO} (h0 : H p = none) (h1 : B' p = none) : Gr c B H B' (upd H' p o) := by
  have nb : ¬ c.isBag p := fun z => w.there z h0
  refine ⟨g.b, fun a u na e => ?_, g.n, fun a u e => ?_, g.w.bag.keep fun a ha => ⟨rfl, upd_ne fun z => nb (z ▸ ha)⟩⟩
  · rw [upd_ne (ne_of_none e h0)]; exact g.h a u na e
  · rw [upd_ne (ne_of_none e h1)]; exact g.w.sub a u e
section
variable {X : Cx} {c : C}
theorem lc_go {vs ks : List Nat} {fi : SI} {g : GT} {t : ST} {e : SE} (hk : ∀ k ∈ ks, k ∈ vs) (hi : MonoL fi) (hg : ∀ d ρ (Q Q' : Env → Prop), (∀ ρ, Q ρ → Q' ρ) → g d ρ Q → g d ρ Q') (ht : MonoT t) (he : Mono e)
    (σ : St) (H : Hp) (Q : VK) (h : toN c (fLc vs fi g t e) σ H Q) : tLc (toI c fi) (toG c g ks) (toT c t) (toV c e) vs σ H Q := by
  obtain ⟨B, ρ, ok, h⟩ := h
  refine ⟨B, ρ, ok, hi _ _ _ (fun ds hd J B1 H1 g1 it Dl hD => ?_) h⟩
  obtain ⟨hm, hd⟩ := hd
  have ok1 := ok.mono g1
  refine ⟨fun i m H2 => m = ds.length - i ∧ i ≤ ds.length ∧ ∃ B2 acc ad, Gr c B1 H1 B2 H2 ∧ B2 Dl = none ∧ H2 Dl = some (.lst acc) ∧ RpA B2 acc ad ∧ ad.length ≤ i ∧
    lcRun g t e (wipeE ρ vs) (ds.drop i) fun ys => ∀ p ws B' H', Gr c B H B' H' → H p = none → B' p = none → H' p = some (.lst ws) → RpA B' ws (ad ++ ys) → Q (.ref p) H', ⟨ds.length, by simp, Nat.zero_le _, B1, [], [], ?_, ?_, upd_same, .nil, Nat.le_refl _, ?_⟩, ?_⟩
  · exact Gr.newO g1.w hD
  · exact Evl.fresh_back g1.w.sub hD
  · rw [List.drop_zero]; exact hd
  · rintro i m H2 ⟨rfl, hi', B2, acc, ad, g2, k1, k2, k3, k4, q⟩
    obtain ⟨i1, i2⟩ := it i B2 H2 g2.b g2.w
    by_cases hlt : i < ds.length
    · refine .inr ?_
      obtain ⟨d, hd'⟩ : ∃ d, ds[i]? = some d := ⟨ds[i], by simp [hlt]⟩
      obtain ⟨go, yl⟩ := i2 d hd'
      refine ⟨go, fun H' => ∃ B2 acc ad, Gr c B1 H1 B2 H' ∧ B2 Dl = none ∧ H' Dl = some (.lst acc) ∧ RpA B2 acc ad ∧ ad.length ≤ i + 1 ∧
        lcRun g t e (wipeE ρ vs) (ds.drop (i + 1)) fun ys => ∀ p ws B' H', Gr c B H B' H' → H p = none → B' p = none → H' p = some (.lst ws) → RpA B' ws (ad ++ ys) → Q (.ref p) H', fun H' hn => ⟨ds.length - (i + 1), by omega, rfl, hlt, hn⟩, fun x H3 hy => ?_⟩
      obtain ⟨B3, g3, r3⟩ := yl x H3 hy
      have ed : ds.drop i = d :: ds.drop (i + 1) := by
        rw [List.drop_eq_getElem_cons hlt]
        congr 1
        have := List.getElem?_eq_getElem hlt
        rw [this] at hd'
        exact Option.some.inj hd'
      rw [ed] at q
      have stay : ∀ {B4 H4 : Hp}, Gr c B2 H2 B4 H4 → B4 Dl = none ∧ H4 Dl = some (.lst acc) := fun {B4 H4} g4 => by
        have hne : H2 Dl ≠ none := by rw [k2]; exact fun z => nomatch z
        refine ⟨by rw [g4.n Dl hne]; exact k1, g4.h Dl _ (fun z => g1.w.there z hD) k2⟩
      have okw := ((ok1.mono g2).mono g3).wiped vs
      refine ⟨B3, wipeE ρ vs, d, okw, r3, hg _ _ _ _ (fun ρ1 h1 σ1 okg off => ?_) q⟩
      refine ⟨wipe_off hk off, B3, ρ1, okg, ht _ _ _ (fun b hb B4 H4 g4 => ?_) h1⟩
      have g34 := g3.trans g2.w g4
      cases b with
      | true =>
        refine ⟨B4, ρ1, okg.mono g4, he _ _ _ (fun y hy v B5 H5 g5 r5 => ?_) hb⟩
        have g35 := g34.trans g2.w g5
        obtain ⟨s1, s2⟩ := stay g35
        refine ⟨acc, s2, ?_, B5, acc ++ [v], ad ++ [y], Gr.upN g1.w (g2.trans g1.w g35) hD s1, s1, upd_same, rpa_app (rpa_mono g35.b k3) (.cons r5 .nil), ?_, ?_⟩
        · rw [rpa_len k3]; exact most_lt (by omega)
        · rw [List.length_append, List.length_singleton]; omega
        · refine mono_lcRun hg ht he _ _ _ (fun ys hq p ws B' H' a1 a2 a3 a4 a5 => hq p ws B' H' a1 a2 a3 a4 ?_) hy
          rw [List.append_assoc] at a5
          exact a5
      | false =>
        obtain ⟨s1, s2⟩ := stay g34
        exact ⟨B4, acc, ad, g2.trans g1.w g34, s1, s2, rpa_mono g34.b k3, by omega, hb⟩
    · refine .inl ⟨i1 (by omega), ?_⟩
      rw [List.drop_eq_nil_of_le (by omega)] at q
      have hH : H Dl = none := g1.back hD
      refine q Dl acc B2 H2 (g1.trans ok.w g2) hH k1 k2 ?_
      rw [List.append_nil]; exact k3
theorem mono_Lc {vs : List Nat} {fi : SI} {g : GT} {t : ST} {e : SE} (hi : MonoL fi) (hg : ∀ d ρ (Q Q' : Env → Prop), (∀ ρ, Q ρ → Q' ρ) → g d ρ Q → g d ρ Q') (ht : MonoT t) (he : Mono e) : MonoL (fLc vs fi g t e) := fun ρ Q Q' k h => hi _ _ _ (fun ds q => ⟨q.1, mono_lcRun hg ht he _ _ _ k q.2⟩) h
/-- the block's derivations: for each entry -/
abbrev Blk (X : Cx) (scope : Scope) (P : Cx → Prop) : Prop := ∀ (s : Shared) (H : Hp) (Ca : Addr) (cl : List (Str × Addr)) (fp : List Addr), P (X.blk s H scope (compEnvC scope cl Ca X.env) fp)
theorem n_lc {elt tg iter : Expr} {ifs : List Expr} {scope : Scope} {own : List (Str × Nat)} {pos : Pos} {fi : SI} {g : GT} {ks : List Nat} {t : ST} {fe : SE} (hc : X.calm = true) (hN : X.N.Nodup) (ok : blkC X.N X.env.scope scope own = true) (hi : PItd X c tg iter fi)
    (hg : Blk X scope fun Y => PGd Y c tg g ks) (ht : Blk X scope fun Y => PTsd Y c ifs t) (he : Blk X scope fun Y => PV Y c elt fe) (hk : ∀ k ∈ ks, k ∈ own.map (·.2) := by decide) (hs : ∀ x, foldedSetIterable iter X.env x = pure x := by intro _; rfl) :
    PN X c (.ListComp elt [⟨tg, iter, ifs, 0⟩] scope pos) (fLc (own.map (·.2)) fi g t fe) := by
  have m1 := (hg ({} : Shared) (fun _ => none) 0 [] []).mono
  have m2 := (ht ({} : Shared) (fun _ => none) 0 [] []).mono
  have m3 := (he ({} : Shared) (fun _ => none) 0 [] []).mono
  exact ⟨mono_Lc hi.mono m1 m2 m3, pe_weak (pe_lc hc hN hi.pi (blkOk_by ok) (fun s H C cl fp => (hg s H C cl fp).pg) (fun s H C cl fp => (ht s H C cl fp).pts) (fun s H C cl fp => (he s H C cl fp).pe) hs) (lc_go hk hi.mono m1 m2 m3)⟩
/-- name = [..] on one line, the name a local -/
theorem s_lc (i : Nat) {y : Str} {py : Pos} {elt tg iter : Expr} {ifs : List Expr} {scope : Scope} {own : List (Str × Nat)} {pos spos : Pos} {fi : SI} {g : GT} {ks : List Nat} {t : ST} {fe : SE} (hc : X.calm = true) (hN : X.N.Nodup) (ok : blkC X.N X.env.scope scope own = true) (hi : PItd X c tg iter fi)
    (hg : Blk X scope fun Y => PGd Y c tg g ks) (ht : Blk X scope fun Y => PTsd Y c ifs t) (he : Blk X scope fun Y => PV Y c elt fe) (hk : ∀ k ∈ ks, k ∈ own.map (·.2) := by decide) (hy : X.N[i]? = some y := by rfl) (hyl : X.env.scope.names.lookup y = some .local := by rfl)
    (hsw : swapsWith (.ListComp elt [⟨tg, iter, ifs, 0⟩] scope pos) (some (.Name y py)) spos.line X.env = pure true := by exact sw_true rfl rfl rfl (by decide +kernel)) (hs : ∀ x, foldedSetIterable iter X.env x = pure x := by intro _; rfl) :
    PSd X c (.Assign [.Name y py] (.ListComp elt [⟨tg, iter, ifs, 0⟩] scope pos) spos) (fSetN i (fLc (own.map (·.2)) fi g t fe)) := by
  have m1 := (hg ({} : Shared) (fun _ => none) 0 [] []).mono
  have m2 := (ht ({} : Shared) (fun _ => none) 0 [] []).mono
  have m3 := (he ({} : Shared) (fun _ => none) 0 [] []).mono
  have m := mono_Lc (vs := own.map (·.2)) hi.mono m1 m2 m3
  refine ⟨mono_SetN m, ps_weak (ps_setLc hc hN hy hyl hsw hi.pi (blkOk_by ok) (fun s H C cl fp => (hg s H C cl fp).pg) (fun s H C cl fp => (ht s H C cl fp).pts) (fun s H C cl fp => (he s H C cl fp).pe) hs) fun D σ H q => ?_⟩
  exact lc_go hk hi.mono m1 m2 m3 σ H _ (setN_go m D σ H q)
end
end DL
namespace DL
open PySem L2 PyProof.Rows
/-! ### defs, with what guards stand around told -/
abbrev Spec := List Sl → (D → Prop) → Prop
def toSp (G : C → Prop) (S : Spec) : Sp := fun vs H Q _ => ∃ c : C, G c ∧ c.H0 = H ∧ Wd c c.B0 H ∧ ∃ ss, ArgsOk c c.B0 H vs ss ∧ S ss fun d => ∀ v B' H', Gr c c.B0 H B' H' → Rp B' v d → Q v H'
theorem ArgsOk.len {c : C} {B H : Hp} : ∀ {vs : List V} {ss : List Sl}, ArgsOk c B H vs ss → vs.length = ss.length
  | [], [], _ => rfl
  | _ :: _, _ :: _, h => by rw [List.length_cons, List.length_cons, ArgsOk.len h.2]
  | [], _ :: _, h => h.elim
  | _ :: _, [], h => h.elim
theorem ArgsOk.get {c : C} {B H : Hp} : ∀ {vs : List V} {ss : List Sl} {i : Nat} {s : Sl}, ArgsOk c B H vs ss → ss[i]? = some s → ∃ v, vs[i]? = some v ∧ ArgOk c B H v s
  | _ :: _, _ :: _, 0, _, h, e => by
    simp at e
    subst e
    exact ⟨_, rfl, h.1⟩
  | _ :: _, _ :: _, i + 1, s, h, e => by
    obtain ⟨v, h1, h2⟩ := ArgsOk.get (i := i) h.2 (by simpa using e)
    exact ⟨v, by simpa using h1, h2⟩
  | [], [], _, _, _, e => by simp at e
  | [], _ :: _, _, _, h, _ => h.elim
  | _ :: _, [], _, _, h, _ => h.elim
structure FnG (G : C → Prop) (P : Program) (w : World) (K : PySem.W.Frag) (mg : Str → Option Value) (base : Heap) (k : Nat) (f : Addr) (fd : FuncData) (ps : List Str) (S : Spec) : Prop where
  mono : ∀ ss (Q Q' : D → Prop), (∀ d, Q d → Q' d) → S ss Q → S ss Q'
  len : ∀ ss Q, S ss Q → ss.length = ps.length
  run : ∀ (A : Around) (outer : List PySem.Env) (s : Shared) (H : Hp) (args : Args) (us : List Value) (vs : List V) (Q : VK), A.guards = some [] → Room k A → Env0 P w K mg base A outer s H →
    BindsTo s fd args (ps.zip us) → Vals vs us → toSp G S vs H Q E0 → codeAny (model P w) A (.call (.ref f) args) (CR CX0 outer P w H s Q E0) s
theorem FnG.up {G : C → Prop} {P : Program} {w : World} {K : PySem.W.Frag} {mg : Str → Option Value} {base : Heap} {j k : Nat} {f : Addr} {fd : FuncData} {ps : List Str} {S : Spec} (F : FnG G P w K mg base j f fd ps S) (h : j ≤ k) : FnG G P w K mg base k f fd ps S :=
  ⟨F.mono, F.len, fun A outer s H args us vs Q hg hr => F.run A outer s H args us vs Q hg (hr.mono h)⟩
/-- the slots at the entry -/
def initE (N : List Str) (ss : List Sl) : Env := ss ++ List.replicate (N.length - ss.length) .un
theorem EOk.init {c : C} {N : List Str} {vs : List V} {ss : List Sl} (w : Wd c c.B0 c.H0) (h : ArgsOk c c.B0 c.H0 vs ss) : EOk c c.B0 c.H0 (L2.start N vs) (initE N ss) := by
  have hl := h.len
  have key : ∀ {i : Nat} {s : Sl}, (initE N ss)[i]? = some s → s ≠ .un → ∃ v, (L2.start N vs)[i]? = some (some v) ∧ ArgOk c c.B0 c.H0 v s := fun {i s} e n => by
    unfold initE at e
    unfold L2.start
    by_cases hi : i < ss.length
    · rw [List.getElem?_append_left hi] at e
      obtain ⟨v, h1, h2⟩ := h.get e
      refine ⟨v, ?_, h2⟩
      rw [List.getElem?_append_left (by rw [List.length_map]; omega), List.getElem?_map, h1]
      rfl
    · rw [List.getElem?_append_right (by omega), List.getElem?_replicate] at e
      split at e
      · cases e; exact absurd rfl n
      · cases e
  refine ⟨w, w, Gr.refl w, ?_, fun i s e => ?_, fun i j p ds es _ h1 _ _ _ => ?_⟩
  · unfold initE L2.start
    rw [List.length_append, List.length_append, List.length_replicate, List.length_replicate, List.length_map, hl]
  · cases s with
    | un => trivial
    | sh d => exact key e (fun z => nomatch z)
    | ex x =>
      obtain ⟨v, _, h2⟩ := key e (fun z => nomatch z)
      exact h2.elim
    | bg =>
      obtain ⟨v, h1, h2⟩ := key e (fun z => nomatch z)
      have h3 : v = .ref c.pb := h2
      rw [h3] at h1
      exact h1
    | ow ds =>
      obtain ⟨v, _, h2⟩ := key e (fun z => nomatch z)
      exact h2.elim
  · obtain ⟨v, _, h2⟩ := key h1 (fun z => nomatch z)
    exact h2.elim
/-- a def's end -/
def endsOf (Q : D → Prop) : En := ⟨fun _ => Q .none, Q, fun _ => False, fun _ => False, fun _ => False⟩
section
variable {G : C → Prop} {P : Program} {w : World} {K : PySem.W.Frag} {mg : Str → Option Value} {base : Heap}
/-- THE RULE for a def -/
theorem fng_of {x qual : Str} {st : Stmt} {f : Addr} {fd : FuncData} {N ps : List Str} {k : Nat} {S : Spec} (F : Fun K x qual st f fd) (sc : FnScope N ps (defScope st)) (mono : ∀ ss (Q Q' : D → Prop), (∀ d, Q d → Q' d) → S ss Q → S ss Q') (len : ∀ ss Q, S ss Q → ss.length = ps.length)
    (body : ∀ (cdv : Value) (A : Around) (outer : List PySem.Env) (s : Shared) (c : C), G c → A.guards = some [] → Room k (A.deeper (envOfC qual (defScope st) s.heap.objs.size f cdv)) →
      ∃ g, PSsd (cxOf CX0 P w K mg base N qual (defScope st) f cdv A outer s c.H0 E0).nox c (defBody st) g ∧ ∀ ss Q, S ss Q → g (endsOf Q) (initE N ss)) : FnG G P w K mg base (k + 1) f fd ps S := by
  obtain ⟨oc, od, kV, doc, pm, an, cdv, ct, osl, rfl, lk', hcd⟩ := F.ex
  refine ⟨mono, len, ?_⟩
  intro A outer s H args us vs Q hg hr e0 hb r hsp
  obtain ⟨c, hG, hH, wd, ss, ha, hS⟩ := hsp
  subst hH
  have hvl : vs.length = ps.length := by rw [ha.len]; exact len _ _ hS
  have stands : ∀ b o, base.get? b = some o → s.heap.get? b = some o := fun b o z => (e0.bs b o z).1
  have KX : K.In s.heap := e0.mod.kin.keeps stands
  refine codeAny_call_function hr.depth (KX _ _ lk') rfl sc.co sc.gen rfl (PySem.W.codeRec_of KX hcd) (hb _ _ _ _ (wpAny_newFunctionEnv_cells sc.kind ?_ ?_))
  · rintro ⟨n, v⟩ hy
    rcases sc.par n (List.of_mem_zip hy).1 with q | q
    · exact Or.inl q
    · exact Or.inr ⟨q, PySem.W.cellsFrom_some _ _ _ (Or.inl q)⟩
  · intro env he s1 x
    subst he
    refine ⟨(e0.mod.nolimit.keeps stands).keeps x.toInCall.keep, codeAny_func ?_⟩
    obtain ⟨g, hg1, hg2⟩ := body cdv A outer s c hG hg (hr.deeper _)
    have I := inv_start (CX := CX0) (E := E0) (qual := qual) sc hr.hd e0 hvl r x
    have ok := EOk.init (N := N) wd ha
    have goal := hg1.ps.nox.run [] s1 (L2.start N vs) c.H0 { nx := fun _ H' => Q .non H', rt := Q } I ⟨c.B0, initE N ss, ok, hg1.mono (endsOf fun d => ∀ v B' H', Gr c c.B0 c.H0 B' H' → Rp B' v d → Q v H') _ _ ⟨fun ρ h σ' B' H' ok' _ => h .non B' H' ok'.g .non, fun _ h => h, fun _ h => h.elim, fun _ h => h.elim, fun _ h => h.elim⟩ (hg2 ss _ hS)⟩
    refine wpAny_mono goal (fun fl s' hs => ?_) fun _ _ z => z
    cases fl with
    | ret u =>
      obtain ⟨v, σ', H', J, rv, q⟩ := hs
      exact ⟨v, H', J.os, J.bare, J.base, J.hok, rv, q⟩
    | next =>
      obtain ⟨σ', H', J, q⟩ := hs
      exact ⟨.non, H', J.os, J.bare, J.base, J.hok, rfl, q⟩
    | brk => exact hs.elim fun _ z => z.elim fun _ y => y.2.elim
    | cont => exact hs.elim fun _ z => z.elim fun _ y => y.2.elim
end
/-! ### calls of defs -/
def fCall (S : Spec) (fa : SA) : SE := fun ρ Q => fa ρ fun ss => S ss Q
section
variable {G : C → Prop} {X : Cx} {c : C} {k : Nat} {f : Addr} {fd : FuncData} {ps : List Str} {S : Spec}
theorem run_fng {pins : List (Addr × Obj)} {σ : St} {H : Hp} {s : Shared} {Q : VK} {args : Args} {us : List Value} {vs : List V} (F : FnG G X.prog X.w X.K X.mg X.base k f fd ps S) (hgd : X.A.guards = some []) (hr : Room k X.A) (I : Inv X pins σ H s)
    (hb : BindsTo s fd args (ps.zip us)) (r : Vals vs us) (h : toSp G S vs H Q E0) : codeAny (model X.prog X.w) X.A (.call (.ref f) args) (wants (EP X pins σ Q) X.xe) s := by
  refine codeAny_mono (F.run X.A X.stack s H args us vs Q hgd hr I.env0 hb r h) fun z s' hq => ?_
  cases z with
  | error e => exact False.elim hq
  | ok fl => cases fl <;> first | exact I.after hq | exact False.elim hq
theorem BagOk.again {c : C} {B0 H0 B H : Hp} (b : BagOk c B H) : BagOk { c with B0 := B0, H0 := H0 } B H := ⟨b.out, b.here, b.ok⟩
theorem toSp_of {B H B1 H1 : Hp} {Q : VK} {vs : List V} {ss : List Sl} (hG : ∀ B1 H1, G { c with B0 := B1, H0 := H1 }) (w0 : Wd c B H) (g : Gr c B H B1 H1) (F : FnG G X.prog X.w X.K X.mg X.base k f fd ps S) (r : ArgsOk c B1 H1 vs ss) (h : S ss fun d => ∀ v B' H', Gr c B H B' H' → Rp B' v d → Q v H') : toSp G S vs H1 Q E0 :=
  ⟨{ c with B0 := B1, H0 := H1 }, hG _ _, rfl, ⟨g.w.sub, g.w.bag.again⟩, ss, by
    have conv : ∀ {vs : List V} {ss : List Sl}, ArgsOk c B1 H1 vs ss → ArgsOk { c with B0 := B1, H0 := H1 } B1 H1 vs ss := by
      intro vs
      induction vs with
      | nil => intro ss h; cases ss with
        | nil => trivial
        | cons _ _ => exact h
      | cons v vs ih => intro ss h; cases ss with
        | nil => exact h
        | cons s ss => exact ⟨by cases s <;> exact h.1, ih h.2⟩
    exact conv r, F.mono _ _ _ (fun d hd v B' H' g2 r2 => hd v B' H' (g.trans w0 ⟨g2.b, g2.h, g2.n, ⟨g2.w.sub, ⟨g2.w.bag.out, g2.w.bag.here, g2.w.bag.ok⟩⟩⟩) r2) h⟩
theorem v_call {x : Str} {p pos : Pos} {e : Expr} {es : List Expr} {fa : SA} (F : FnG G X.prog X.w X.K X.mg X.base k f fd ps S) (hG : ∀ B1 H1, G { c with B0 := B1, H0 := H1 }) (hgd : X.A.guards = some []) (hr : Room k X.A) (hm : X.mg x = some (.ref f)) (hk : PySem.W.keepIn X.K (.ref f) = true) (hb : Binds X.K fd ps []) (ha : PAd X c (e :: es) fa)
    (hg : Gl X x := by rfl) (hdb : (x == ("__debug__" : Str)) = false := by decide) (he : starEach (e :: es) X.env = (false, eval e X.env) :: starEach es X.env := by rfl) (hpl : (backTo pos (starEach es X.env)).any (·.1) = false := by rfl) :
    PV X c (.Call (.Name x p) (e :: es) [] pos) (fCall S fa) := by
  refine ⟨fun ρ Q Q' k h => ha.mono _ _ _ (fun ss hs => F.mono _ _ _ k hs) h, ⟨fun pins s σ H Q I ⟨B, ρ, ok, h⟩ => wpAny_Call_Name_kw (ld_glob I hg hm (PySem.W.callWith_K (h₀ := X.base) I.ok.mod.kin hk (wpAny_mono (ha.pa.run pos pins s σ H
    (fun vs H1 => ∃ B1 ss, Gr c B H B1 H1 ∧ ArgsOk c B1 H1 vs ss ∧ S ss fun d => ∀ v B' H', Gr c B H B' H' → Rp B' v d → Q v H') I ⟨B, ρ, ok, ha.mono _ _ _ (fun ss hs vs B1 H1 g r => ⟨B1, ss, g, r, hs⟩) h⟩) (fun us s1 hv => ?_) fun _ _ z => z) he hpl) hdb)⟩⟩
  obtain ⟨vs, H1, I1, rv, B1, ss, g, ra, hS⟩ := hv
  have hl : us.length = ps.length := by rw [← rv.length, ra.len]; exact F.len _ _ hS
  refine ⟨I1.kIn, wpAny_call (run_fng F hgd hr I1 ?_ rv (toSp_of hG ok.w g F ra hS))⟩
  have := hb s1 us I1.kIn (by rw [List.append_nil]; exact hl)
  rw [List.append_nil] at this
  exact this
/-- keywords -/
structure PKd (X : Cx) (c : C) (kws : List Keyword) (f : SA) : Prop where
  mono : MonoA f
  pk : PK X kws (toA c f)
  len : ∀ ρ Q, f ρ Q → f ρ fun ss => Q ss ∧ ss.length = kws.length
theorem pk_weak {kws : List Keyword} {t t' : TA} (h : PK X kws t) (w : ∀ σ H Q, t' σ H Q → t σ H Q) : PK X kws t' := ⟨fun pos pins s σ H Q I q => h.run pos pins s σ H Q I (w σ H Q q)⟩
theorem k_nil : PKd X c [] fAN := ⟨fun _ _ _ k h => k _ h, pk_weak pk_nil fun σ H Q ⟨B, ρ, ok, h⟩ => h [] B H (Gr.refl ok.w) trivial, fun _ _ h => ⟨h, rfl⟩⟩
theorem k_cons {nm : Option Str} {kpos : Pos} {e : Expr} {kws : List Keyword} {fa : SE} {fr : SA} (ha : PV X c e fa) (hr : PKd X c kws fr) : PKd X c (⟨nm, e, kpos⟩ :: kws) (fAC fa fr) := by
  refine ⟨fun ρ Q Q' k h => ha.mono _ _ _ (fun d hd => hr.mono _ _ _ (fun ds he => k _ he) hd) h, pk_weak (pk_cons ha.pe hr.pk) fun σ H Q ⟨B, ρ, ok, h⟩ => ?_, fun ρ Q h => ha.mono _ _ _ (fun d hd => hr.mono _ _ _ (fun ss q => ⟨q.1, by rw [List.length_cons, List.length_cons, q.2]⟩) (hr.len _ _ hd)) h⟩
  refine ⟨B, ρ, ok, ha.mono _ _ _ (fun d hd v B1 H1 g1 r1 => ?_) h⟩
  exact ⟨B1, ρ, ok.mono g1, hr.mono _ _ _ (fun ds he vs B2 H2 g2 r2 => he _ B2 H2 (g1.trans ok.w g2) ⟨rp_mono g2.b r1, r2⟩) hd⟩
/-- how n keywords' values come to the parameters: is tells which of them each parameter takes -/
def perm {α : Type} (is : List Nat) (ws : List α) : List α := is.filterMap fun i => ws[i]?
structure KwB (K : PySem.W.Frag) (fd : FuncData) (ps ks : List Str) (is : List Nat) : Prop where
  to : ∀ (s : Shared) (ws : List Value), K.In s.heap → ws.length = ks.length → BindsTo s fd ⟨[], ks.zip ws⟩ (ps.zip (perm is ws))
theorem perm_vals {vs : List V} {us : List Value} (r : Vals vs us) : ∀ is : List Nat, Vals (perm is vs) (perm is us)
  | [] => .nil
  | i :: is => by
    unfold perm
    rw [List.filterMap_cons, List.filterMap_cons]
    cases e : vs[i]? with
    | none =>
      rw [r.none_of e]
      exact perm_vals r is
    | some v =>
      obtain ⟨u, h1, h2⟩ := r.get e
      rw [h1]
      exact .cons h2 (perm_vals r is)
theorem perm_args {B H : Hp} {vs : List V} {ss : List Sl} (r : ArgsOk c B H vs ss) : ∀ is : List Nat, ArgsOk c B H (perm is vs) (perm is ss)
  | [] => trivial
  | i :: is => by
    unfold perm
    rw [List.filterMap_cons, List.filterMap_cons]
    cases e : ss[i]? with
    | none =>
      have : vs[i]? = none := List.getElem?_eq_none_iff.mpr (by rw [r.len]; exact List.getElem?_eq_none_iff.mp e)
      rw [this]
      exact perm_args r is
    | some s =>
      obtain ⟨v, h1, h2⟩ := r.get e
      rw [h1]
      exact ⟨h2, perm_args r is⟩
def fCallK (S : Spec) (is : List Nat) (fa : SA) : SE := fun ρ Q => fa ρ fun ss => S (perm is ss) Q
theorem v_callK {x : Str} {p pos : Pos} {kws : List Keyword} {ks : List Str} {is : List Nat} {fa : SA} (F : FnG G X.prog X.w X.K X.mg X.base k f fd ps S) (hG : ∀ B1 H1, G { c with B0 := B1, H0 := H1 }) (hgd : X.A.guards = some []) (hr : Room k X.A) (hm : X.mg x = some (.ref f)) (hk : PySem.W.keepIn X.K (.ref f) = true) (hb : KwB X.K fd ps ks is) (ha : PKd X c kws fa)
    (hn : kws.length = ks.length := by rfl) (hg : Gl X x := by rfl) (hdb : (x == ("__debug__" : Str)) = false := by decide) (hall : (backToKw pos (keywordEach kws X.env)).all (·.1.isSome) = true := by rfl) (hks : (backToKw pos (keywordEach kws X.env)).filterMap (·.1) = ks := by rfl)
    (hpl : ((backTo pos (starEach [] X.env)).any (·.1) || (backToKw pos (keywordEach kws X.env)).any (·.1.isNone)) = false := by rfl) :
    PV X c (.Call (.Name x p) [] kws pos) (fCallK S is fa) := by
  refine ⟨fun ρ Q Q' k h => ha.mono _ _ _ (fun ss hs => F.mono _ _ _ k hs) h, ⟨fun pins s σ H Q I ⟨B, ρ, ok, h⟩ => wpAny_Call_Name_kw (ld_glob I hg hm (PySem.W.callWith_KW0 (h₀ := X.base) I.ok.mod.kin hk hall (wpAny_mono (ha.pk.run pos pins s σ H
    (fun vs H1 => ∃ B1 ss, Gr c B H B1 H1 ∧ ArgsOk c B1 H1 vs ss ∧ ss.length = kws.length ∧ S (perm is ss) fun d => ∀ v B' H', Gr c B H B' H' → Rp B' v d → Q v H') I ⟨B, ρ, ok, ha.mono _ _ _ (fun ss hs vs B1 H1 g r => ⟨B1, ss, g, r, hs.2, hs.1⟩) (ha.len _ _ h)⟩) (fun us s1 hv => ?_) fun _ _ z => z) hpl) hdb)⟩⟩
  obtain ⟨vs, H1, I1, rv, B1, ss, g, ra, hsl, hS⟩ := hv
  rw [hks]
  exact ⟨I1.kIn, wpAny_call (run_fng F hgd hr I1 (hb.to s1 us I1.kIn (by rw [← rv.length, ra.len, hsl, hn])) (perm_vals rv is) (toSp_of hG ok.w g F (perm_args ra is) hS))⟩
/-! ### repr -/
def bRepr : GB := fun ds Q => match ds with | [d] => PyData.showable d = true ∧ PyData.hasDict d = false ∧ (PyData.shown d).length ≤ sizeLine ∧ PyData.depth d ≤ 60 ∧ Q (.str (PyData.shown d)) | _ => False
theorem m_Repr : MonoB bRepr := fun ds Q Q' k h => by
  unfold bRepr at h ⊢
  split at h <;> first | exact h.elim | exact ⟨h.1, h.2.1, h.2.2.1, h.2.2.2.1, k _ h.2.2.2.2⟩
mutual
theorem rp_reads {pins : List (Addr × Obj)} {σ : St} {H : Hp} {s : Shared} (I : Inv X pins σ H s) : ∀ (d : D) (v : V) (u : Value), d.hasDict = false → Rp H v d → RelV v u → ∃ as, Reads s.heap u d as
  | .none, _, _, _, .non, r => by
    cases r
    exact ⟨_, Reads.none⟩
  | .bool b, _, _, _, .bl _, r => by
    cases r
    exact ⟨_, Reads.bool b⟩
  | .int i, _, _, _, .int _, r => by
    obtain ⟨t, rfl⟩ := r
    exact ⟨_, Reads.int i t⟩
  | .str x, _, _, _, .str _, r => by
    obtain ⟨t, rfl⟩ := r
    exact ⟨_, Reads.str x t⟩
  | .list ds, _, _, hd, .lst h1 h2, r => by
    cases r
    obtain ⟨its, rv, ⟨o, n, ho, hc, _, hdt⟩, _⟩ := I.list (SqL.of h1)
    obtain ⟨as, hr⟩ := rpa_reads I ds _ its (by simpa [PyData.hasDict] using hd) h2 rv
    exact ⟨_, Reads.list ho hc hdt hr⟩
  | .tuple ds, _, _, hd, .tup h1 h2, r => by
    cases r
    obtain ⟨its, rv, ⟨o, ho, hc, n, hdt⟩, _⟩ := I.tuple (SqT.of h1)
    obtain ⟨as, hr⟩ := rpa_reads I ds _ its (by simpa [PyData.hasDict] using hd) h2 rv
    exact ⟨_, Reads.tuple ho hc hdt hr⟩
  | .dict _, _, _, hd, _, _ => by simp [PyData.hasDict] at hd
theorem rpa_reads {pins : List (Addr × Obj)} {σ : St} {H : Hp} {s : Shared} (I : Inv X pins σ H s) : ∀ (ds : List D) (vs : List V) (us : List Value), PyData.hasDictAll ds = false → RpA H vs ds → Vals vs us → ∃ as, ReadsAll s.heap us ds as
  | [], _, _, _, .nil, r => by
    cases r
    exact ⟨_, ReadsAll.nil⟩
  | d :: ds, _, _, hd, .cons h1 h2, r => by
    have hd' := hd
    simp only [PyData.hasDictAll, Bool.or_eq_false_iff] at hd'
    cases r with
    | cons r1 r2 =>
      obtain ⟨as, q1⟩ := rp_reads I d _ _ hd'.1 h1 r1
      obtain ⟨bs, q2⟩ := rpa_reads I ds _ _ hd'.2 h2 r2
      exact ⟨_, ReadsAll.cons q1 q2⟩
end
theorem c_repr (hgd : X.A.guards = some []) (hu : X.A.units + 64 < cLine) : CallD X c (.builtin "repr") bRepr := by
  refine ⟨m_Repr, fun pins s σ H xs us Q I rv ⟨B, ds, w, ra, q⟩ => ?_⟩
  cases ds with
  | nil => exact q.elim
  | cons d r0 =>
  cases r0 with
  | cons _ _ => exact q.elim
  | nil =>
  obtain ⟨q1, q2, q3, q4, q⟩ : PyData.showable d = true ∧ PyData.hasDict d = false ∧ (PyData.shown d).length ≤ sizeLine ∧ PyData.depth d ≤ 60 ∧ ∀ v B' H', Gr c B H B' H' → Rp B' v (.str (PyData.shown d)) → Q v H' := q
  obtain ⟨v, e, r⟩ := ra.one
  subst e
  obtain ⟨u, rfl, ru⟩ := vals1 rv
  have fin : ∀ {h' : Heap} {tk : Tok} {t : Nat}, (∀ b o, s.heap.get? b = some o → h'.get? b = some o) → EP X pins σ Q (.str (PyData.shown d) tk) { s with heap := h', toks := t } := fun {h' tk t} hk => ⟨.str (PyData.shown d), H, I.kept hk, ⟨tk, rfl⟩, q _ B H (Gr.refl w) (.str _)⟩
  have here : ∀ {tk : Tok} {t : Nat}, EP X pins σ Q (.str (PyData.shown d) tk) { s with toks := t } := fun {tk t} => ⟨.str (PyData.shown d), H, I.tok _, ⟨tk, rfl⟩, q _ B H (Gr.refl w) (.str _)⟩
  cases d with
  | dict kvs => simp [PyData.hasDict] at q2
  | list ds =>
    obtain ⟨as, rd⟩ := rp_reads I _ v u q2 (r.rp w) ru
    obtain ⟨a, ys, rfl, _, _⟩ := r.list w
    cases ru
    exact repr_of_reads' rd q1 (PyData.noDict_hsm q2) hgd (by omega) (fun _ _ z => z) (fun h' tk t hk => fin hk) q3
  | tuple ds =>
    obtain ⟨as, rd⟩ := rp_reads I _ v u q2 (r.rp w) ru
    obtain ⟨a, ys, rfl, _, _⟩ := r.tup w
    cases ru
    exact repr_of_reads' rd q1 (PyData.noDict_hsm q2) hgd (by omega) (fun _ _ z => z) (fun h' tk t hk => fin hk) q3
  | int i =>
    have e := r.int
    subst e
    obtain ⟨t, rfl⟩ := ru
    simp only [PyData.shown] at here
    exact PySem.P.repr_of_int (by simpa [PyData.showable] using q1) here
  | none =>
    have e := r.non
    subst e
    cases ru
    simp only [PyData.shown] at here
    exact PySem.P.repr_of_none here
  | bool b =>
    have e := r.bl
    subst e
    cases ru
    simp only [PyData.shown] at here
    exact PySem.P.repr_of_bool here
  | str x =>
    have e := r.str
    subst e
    obtain ⟨t, rfl⟩ := ru
    simp only [PyData.shown] at here q3
    exact PySem.P.repr_of_str here q3
end
end DL
namespace DL
open PySem L2 PyProof.Rows
/-! ### list(reversed(a list)) -/
section
variable {prog : Program} {w : World} {A : Around} {E : Value → Shared → Prop} {s : Shared}
theorem list_rev_call {it l : Addr} {items : Array Value} {Q : Value → Shared → Prop} (hh : A.handled = none) (hit : s.heap.IsRevIter it l ((items.size : Int) - 1)) (hl : s.heap.IsList l items) (hne : l ≠ it) (hn : items.size ≤ sizeLine)
    (hQ : ∀ (h' : Heap) (tk : Nat) (acc : Array Value) (c' : Nat), (∀ b o, b ≠ it → s.heap.get? b = some o → h'.get? b = some o) → h'.get? s.heap.objs.size = some { cls := .type "list", data := .seq acc c' } →
      ItemsOf (fun i v => items[items.size - 1 - i]? = some v) acc items.size → Q (.ref s.heap.objs.size) { s with heap := h', toks := tk }) : wpAny (model prog w) A (call (.type "list") [.ref it]) Q E s := by
  have hil : it < s.heap.objs.size := by
    obtain ⟨oi, hoi, _⟩ := id hit
    exact Heap.lt_size hoi
  have hll : l < s.heap.objs.size := by
    obtain ⟨ol, hol, _⟩ := id hl
    exact Heap.lt_size hol
  have n1 : s.heap.objs.size ≠ it := Nat.ne_of_gt hil
  have n2 : s.heap.objs.size ≠ l := Nat.ne_of_gt hll
  refine callType_codes (Q₁ := fun obj s₁ => obj = .ref s.heap.objs.size ∧ s₁ = { s with heap := s.heap.push { cls := .type "list", data := .seq #[] } }) PySem.F.called_list (PySem.F.typeCall_list_1 _) PySem.F.entry_list_init
    (code_list_new _ ⟨rfl, rfl⟩) ?_
  rintro obj s₁ ⟨rfl, rfl⟩
  have new : (s.heap.push { cls := .type "list", data := .seq #[] }).get? s.heap.objs.size = some { cls := .type "list", data := .seq #[] } := Heap.get?_push_size _ rfl
  refine ⟨⟨_, new, rfl⟩, PySem.F.args_list_init_2 _ _, ?_⟩
  show wpAny _ _ (do let old ← Builtin.List.listItems (.ref s.heap.objs.size); Builtin.List.listUpdate (.ref s.heap.objs.size) (fun _ => #[]); letGo old.toList.reverse; Builtin.List.listExtendWith (.ref s.heap.objs.size) (.ref it) .none) _ _ _
  unfold Builtin.List.listItems
  refine wpAny_bind (wpAny_bind (wpAny_seqItems new rfl (wpAny_pure (wpAny_bind ?_))))
  show wpAny _ _ (updateSeq s.heap.objs.size (fun _ => #[])) _ _ _
  refine wpAny_updateSeq new rfl (wpAny_bind (wpAny_letGo ?_))
  generalize hgen : (s.heap.push { cls := .type "list", data := .seq #[] }).update s.heap.objs.size (Obj.mapSeq fun _ => (#[] : Array Value)) = h1
  have fresh : h1.get? s.heap.objs.size = some (Obj.mapSeq (fun _ => (#[] : Array Value)) { cls := .type "list", data := .seq #[] }) := by
    rw [← hgen]
    exact Heap.get?_update_self (Obj.mapSeq fun _ => (#[] : Array Value)) new rfl
  have stay : ∀ b o, b ≠ s.heap.objs.size → s.heap.get? b = some o → h1.get? b = some o := fun b o hb e => by
    rw [← hgen]
    exact (Heap.get?_update_other _ _ (Ne.symm hb)).trans (Heap.get?_push_of_some _ e)
  have hit1 : h1.IsRevIter it l ((items.size : Int) - 1) := hit.at fun o e => stay _ _ (Ne.symm n1) e
  have hl1 : h1.IsList l items := by
    obtain ⟨o, e, r⟩ := hl
    exact ⟨o, stay _ _ (Ne.symm n2) e, r⟩
  have ty : ({ s with heap := h1 } : Shared).TypeIs (.ref it) "list_reverseiterator" := Heap.IsRevIter.typeIs (s := { s with heap := h1 }) hit1
  have same : Builtin.List.listSameRef (.ref s.heap.objs.size) (.ref it) = false := by simp [Builtin.List.listSameRef, n1]
  unfold Builtin.List.listExtendWith
  refine wpAny_bind (wpAny_typeOf ty ?_)
  rw [if_neg (by rw [same]; decide)]
  refine wpAny_bind (wpAny_pyIter_revIter (s := { s with heap := h1 }) hit1 (wpAny_bind (wpAny_holding ?_)))
  unfold Builtin.List.listLengthHint
  refine wpAny_bind (wpAny_specialOf ty RT.nolen_lri ?_)
  show wpAny _ _ (specialOf (Value.ref it) (Str.ofString "__length_hint__") >>= _) _ _ _
  refine wpAny_bind (wpAny_specialOf ty RT.hint_lri ?_)
  generalize hid : ("list_reverseiterator.__length_hint__" : String) = id0
  wp_delta
  have sp : splitId id0 = some ("list_reverseiterator", "__length_hint__") := by
    subst hid
    decide +kernel
  rw [sp]
  subst hid
  refine wpAny_bind (wpAny_isInstance (b := true) ty (by rw [isSubtype_type]; kernel_rfl) (wpAny_pure ?_))
  rw [if_neg (by decide)]
  have W := (Walks.listRev (prog := prog) (w := w) (A := A.in1.in1) hh it l hne items).toS
  have out : s.heap.objs.size ∉ [it, l] := by
    intro z
    rcases List.mem_cons.mp z with z | z
    · exact n1 z
    · exact n2 (List.mem_singleton.mp z)
  refine wpAny_pure ⟨plainId_quiet F.plain_extend_loop _, codeAny_extend_loopS W hn _ out _ items.size 0 _ _ _ rfl (Nat.zero_le _) ⟨Nat.zero_le _, ?_, hl1⟩ fresh (ItemsOf.nil _) fun s' acc' c' hm hS' hacc => ?_⟩
  · have e0 : ((items.size : Nat) : Int) - 1 - ((0 : Nat) : Int) = (items.size : Int) - 1 := by omega
    rw [e0]
    exact hit1
  · rw [Moved.eq_with hm]
    refine ⟨rfl, hQ s'.heap s'.toks acc' c' (fun b o hb e => ?_) hS' hacc⟩
    have nb : b ≠ s.heap.objs.size := Nat.ne_of_lt (Heap.lt_size e)
    refine hm.heap b o (fun hmem => ?_) (stay b o nb e)
    rcases List.mem_cons.mp hmem with z | z
    · exact nb z
    · exact hb (List.mem_singleton.mp z)
end
end DL
namespace DL
open PySem L2 PyProof.Rows
section
variable {X : Cx} {c : C}
/-- list(reversed(x)), x a list -/
def tListRev (K : PySem.W.Frag) (te : TE) : TE := fun σ H Q => te σ H fun v H1 => ∃ (a : Addr) (xs : List V), v = .ref a ∧ SqL K H1 a xs ∧ ∀ q, H1 q = none → Q (.ref q) (upd H1 q (.lst xs.reverse))
theorem pe_listRev {e : Expr} {te : TE} {p p2 pos pos2 : Pos} (hc : X.calm = true) (hm : X.mg "list" = none) (hm2 : X.mg "reversed" = none) (he : PE X e te) (hg : Gl X "list") (hg2 : Gl X "reversed")
    (hs : starEach [e] X.env = (false, eval e X.env) :: starEach [] X.env) (hs2 : starEach [.Call (.Name "reversed" p2) [e] [] pos2] X.env = (false, eval (.Call (.Name "reversed" p2) [e] [] pos2) X.env) :: starEach [] X.env) :
    PE X (.Call (.Name "list" p) [.Call (.Name "reversed" p2) [e] [] pos2] [] pos) (tListRev X.K te) := by
  refine ⟨fun pins s σ H Q I h => ?_⟩
  have inner : ∀ {R : Value → Shared → Prop}, wpAny (model X.prog X.w) X.A (eval e X.env) (fun u s1 => wpAny (model X.prog X.w) X.A (call (.type "reversed") [u]) R X.xe s1) X.xe s → wpAny (model X.prog X.w) X.A (eval (.Call (.Name "reversed" p2) [e] [] pos2) X.env) R X.xe s := fun hh =>
    Call_ (ld_blt I hg2 hm2 PyProof.Rows.boot_reversed (PyProof.Rows.callWith_type1 (args_cons (thn hh fun u s1 q => args_nil q) hs) hs rfl))
  refine Call_ (ld_blt I hg hm boot_list (PyProof.Rows.callWith_type1 (args_cons (inner (thn (he.run pins s σ H _ I h) fun u s1 hv => ?_)) hs2) hs2 rfl))
  obtain ⟨v, H1, I1, r1, a, xs, ev, hq, q⟩ := hv
  subst ev
  obtain rfl : u = Value.ref a := r1
  obtain ⟨its, rv, p', hz⟩ := I1.list hq
  have hl := p'.isList
  refine call_reversed_list hl (args_nil ?_)
  have I2 : Inv X pins σ H1 { s1 with heap := s1.heap.push (revObj a ((its.toArray.size : Int) - 1)) } := I1.kept (t' := s1.toks) fun _ _ z => Heap.get?_push_of_some _ z
  obtain ⟨f0, f1, f2, f3, f4, f5⟩ := I1.fpOk (H' := H1) (b := s1.heap.objs.size) (Nat.le_refl _) (I1.hok.fresh (Nat.le_refl _))
  have hal : a ≠ s1.heap.objs.size := by
    obtain ⟨ol, hol, _⟩ := id hl
    exact Nat.ne_of_lt (Heap.lt_size hol)
  refine list_rev_call (s := { s1 with heap := s1.heap.push (revObj a ((its.toArray.size : Int) - 1)) }) (I1.ok.hd hc) ⟨_, Heap.get?_push_size _ rfl, rfl, rfl⟩ (hl.push _) hal (by rw [List.size_toArray, ← rv.length]; exact hz) fun h' tk acc c' hk hn hi => ?_
  have I3 : Inv X pins σ H1 { s1 with heap := h', toks := tk } := I2.turned (t' := tk) (fun b o hb z => hk b o hb z) f0 f1 f3 f4 f5
  have fr : H1 (s1.heap.push (revObj a ((its.toArray.size : Int) - 1))).objs.size = none := I2.hok.fresh (Nat.le_refl _)
  have obj : ObjOk X.prog X.w (upd H1 (s1.heap.push (revObj a ((its.toArray.size : Int) - 1))).objs.size (.lst xs.reverse)) h' (s1.heap.push (revObj a ((its.toArray.size : Int) - 1))).objs.size (.lst xs.reverse) :=
    ⟨by rw [List.length_reverse]; exact hz, acc.toList, c', RT.vals_rev rv hi, by rw [Array.toArray_toList]; exact hn⟩
  have I4 : Inv X pins σ (upd H1 (s1.heap.push (revObj a ((its.toArray.size : Int) - 1))).objs.size (.lst xs.reverse)) { s1 with heap := h', toks := tk } := by
    refine I2.turnedNew (ch := [s1.heap.objs.size]) (fun b ob hb z => hk b ob (fun y => hb (by simp [y])) z) (fun b hb => ?_) (Nat.le_refl _) obj
    rw [List.mem_singleton.mp hb]
    exact ⟨f0, f1, f2, f3, f4, f5⟩
  exact ⟨.ref (s1.heap.push (revObj a ((its.toArray.size : Int) - 1))).objs.size, _, I4, rfl, q _ fr⟩
def fLRev (fa : SE) : SL := fun ρ Q => fa ρ fun d => match d with | .list ds => Q ds.reverse | _ => False
def fTRev (fa : SE) : SE := fun ρ Q => fa ρ fun d => match d with | .list ds => Q (.tuple ds.reverse) | _ => False
theorem n_listRev {e : Expr} {fa : SE} {p p2 pos pos2 : Pos} (hc : X.calm = true) (hm : X.mg "list" = none) (hm2 : X.mg "reversed" = none) (ha : PB X c e fa) (hg : Gl X "list" := by rfl) (hg2 : Gl X "reversed" := by rfl)
    (hs : starEach [e] X.env = (false, eval e X.env) :: starEach [] X.env := by rfl) (hs2 : starEach [.Call (.Name "reversed" p2) [e] [] pos2] X.env = (false, eval (.Call (.Name "reversed" p2) [e] [] pos2) X.env) :: starEach [] X.env := by rfl) :
    PN X c (.Call (.Name "list" p) [.Call (.Name "reversed" p2) [e] [] pos2] [] pos) (fLRev fa) := by
  refine ⟨fun ρ Q Q' k h => ha.mono _ _ _ (fun d hd => ?_) h, pe_weak (pe_listRev hc hm hm2 ha.pe hg hg2 hs hs2) fun σ H Q ⟨B, ρ, ok, h⟩ => ⟨B, ρ, ok, ha.mono _ _ _ (fun d hd v B1 H1 g1 r1 => ?_) h⟩⟩
  · cases d <;> first | exact hd.elim | exact k _ hd
  · cases d <;> first | exact hd.elim | skip
    obtain ⟨a, xs, rfl, h1, h2⟩ := r1.list g1.w
    refine ⟨a, xs, rfl, SqL.of h1, fun l hl => ?_⟩
    have g2 := Gr.newO (o := .lst xs.reverse) g1.w hl
    exact hd l _ B1 _ (g1.trans ok.w g2) (g1.back hl) (Evl.fresh_back g1.w.sub hl) upd_same (rpa_rev h2)
theorem v_tupRev {e : Expr} {fa : SE} {p p2 pos pos2 : Pos} (hc : X.calm = true) (hm : X.mg "tuple" = none) (hm2 : X.mg "reversed" = none) (ha : PB X c e fa) (hg : Gl X "tuple" := by rfl) (hg2 : Gl X "reversed" := by rfl)
    (hs : starEach [e] X.env = (false, eval e X.env) :: starEach [] X.env := by rfl) (hs2 : starEach [.Call (.Name "reversed" p2) [e] [] pos2] X.env = (false, eval (.Call (.Name "reversed" p2) [e] [] pos2) X.env) :: starEach [] X.env := by rfl) :
    PV X c (.Call (.Name "tuple" p) [.Call (.Name "reversed" p2) [e] [] pos2] [] pos) (fTRev fa) := by
  refine ⟨fun ρ Q Q' k h => ha.mono _ _ _ (fun d hd => ?_) h, pe_weak (RT.pe_tupRev hc hg hm hg2 hm2 ha.pe hs hs2) fun σ H Q ⟨B, ρ, ok, h⟩ => ⟨B, ρ, ok, ha.mono _ _ _ (fun d hd v B1 H1 g1 r1 => ?_) h⟩⟩
  · cases d <;> first | exact hd.elim | exact k _ hd
  · cases d <;> first | exact hd.elim | skip
    obtain ⟨a, xs, rfl, h1, h2⟩ := r1.list g1.w
    refine ⟨a, xs, rfl, SqL.of h1, fun l hl => ?_⟩
    have g2 := Gr.new (o := .tup xs.reverse) g1.w hl
    exact hd _ _ _ (g1.trans ok.w g2) (.tup upd_same (rpa_mono g2.b (rpa_rev h2)))
/-- list(range(..)) -/
theorem rng_rgV {B : Hp} (a b : Int) : RpA B (rgV a b) (rng a (b - a).toNat) := by
  unfold rgV rng
  generalize List.range (b - a).toNat = l
  induction l with
  | nil => exact .nil
  | cons i l ih => exact .cons (.int _) ih
def fLRng1 (fa : SE) : SL := fun ρ Q => fa ρ fun d => match d with | .int j => RgOk 0 j ∧ Q (rng 0 (j - 0).toNat) | _ => False
def fLRng2 (fa fb : SE) : SL := fun ρ Q => fa ρ fun d => fb ρ fun e => match d, e with | .int i, .int j => RgOk i j ∧ Q (rng i (j - i).toNat) | _, _ => False
theorem n_lrng1 {a : Expr} {fa : SE} {p p2 pos pos2 : Pos} (hc : X.calm = true) (hm : X.mg "list" = none) (hm2 : X.mg "range" = none) (ha : PB X c a fa) (hg : Gl X "list" := by rfl) (hg2 : Gl X "range" := by rfl)
    (na : starEach [a] X.env = (false, eval a X.env) :: starEach [] X.env := by rfl) (na2 : starEach [.Call (.Name "range" p2) [a] [] pos2] X.env = (false, eval (.Call (.Name "range" p2) [a] [] pos2) X.env) :: starEach [] X.env := by rfl) :
    PN X c (.Call (.Name "list" p) [.Call (.Name "range" p2) [a] [] pos2] [] pos) (fLRng1 fa) := by
  refine ⟨fun ρ Q Q' k h => ha.mono _ _ _ (fun d hd => ?_) h, pe_weak (pe_listRg hc hg hm (prg_1 hg2 hm2 ha.pe na) na2) fun σ H Q ⟨B, ρ, ok, h⟩ => ⟨B, ρ, ok, ha.mono _ _ _ (fun d hd v B1 H1 g1 r1 => ?_) h⟩⟩
  · cases d <;> first | exact hd.elim | exact ⟨hd.1, k _ hd.2⟩
  · cases d <;> first | exact hd.elim | skip
    rename_i j
    rw [r1.int]
    refine ⟨j, rfl, hd.1, fun l hl => ?_⟩
    have g2 := Gr.newO (o := .lst (rgV 0 j)) g1.w hl
    exact hd.2 l _ B1 _ (g1.trans ok.w g2) (g1.back hl) (Evl.fresh_back g1.w.sub hl) upd_same (rng_rgV _ _)
theorem n_lrng2 {a b : Expr} {fa fb : SE} {p p2 pos pos2 : Pos} (hc : X.calm = true) (hm : X.mg "list" = none) (hm2 : X.mg "range" = none) (ha : PB X c a fa) (hb : PB X c b fb) (hg : Gl X "list" := by rfl) (hg2 : Gl X "range" := by rfl)
    (na : starEach [a, b] X.env = (false, eval a X.env) :: starEach [b] X.env := by rfl) (nb : starEach [b] X.env = (false, eval b X.env) :: starEach [] X.env := by rfl)
    (hp : (backTo pos2 (starEach [b] X.env)).any (·.1) = false := by rfl) (na2 : starEach [.Call (.Name "range" p2) [a, b] [] pos2] X.env = (false, eval (.Call (.Name "range" p2) [a, b] [] pos2) X.env) :: starEach [] X.env := by rfl) :
    PN X c (.Call (.Name "list" p) [.Call (.Name "range" p2) [a, b] [] pos2] [] pos) (fLRng2 fa fb) := by
  refine ⟨fun ρ Q Q' k h => ha.mono _ _ _ (fun d hd => hb.mono _ _ _ (fun e he => ?_) hd) h, pe_weak (pe_listRg hc hg hm (prg_2 hg2 hm2 ha.pe hb.pe na nb hp) na2) fun σ H Q ⟨B, ρ, ok, h⟩ =>
    ⟨B, ρ, ok, ha.mono _ _ _ (fun d hd v B1 H1 g1 r1 => ⟨B1, ρ, ok.mono g1, hb.mono _ _ _ (fun e he u B2 H2 g2 r2 => ?_) hd⟩) h⟩⟩
  · cases d <;> cases e <;> first | exact he.elim | exact ⟨he.1, k _ he.2⟩
  · cases d <;> cases e <;> first | exact he.elim | skip
    rename_i i j
    rw [r1.int, r2.int]
    refine ⟨i, j, rfl, rfl, he.1, fun l hl => ?_⟩
    have g3 := Gr.newO (o := .lst (rgV i j)) g2.w hl
    exact he.2 l _ B2 _ ((g1.trans ok.w g2).trans ok.w g3) ((g1.trans ok.w g2).back hl) (Evl.fresh_back g2.w.sub hl) upd_same (rng_rgV _ _)
/-- x.bit_length() -/
def fBits (fa : SE) : SE := fun ρ Q => fa ρ fun d => match d with | .int i => Q (.int (Builtin.Int.intBits i : Nat)) | _ => False
theorem v_bits {o : Expr} {fa : SE} {apos pos : Pos} (ha : PB X c o fa) (hbase : attributeBase o "bit_length" X.env (eval o X.env) = eval o X.env := by rfl) (hline : (apos.endLine == pos.line) = true := by rfl) : PV X c (.Call (.Attribute o "bit_length" apos) [] [] pos) (fBits fa) := by
  refine ⟨fun ρ Q Q' k h => ha.mono _ _ _ (fun d hd => ?_) h, pe_weak (pe_bits ha.pe hbase hline) fun σ H Q ⟨B, ρ, ok, h⟩ => ⟨B, ρ, ok, ha.mono _ _ _ (fun d hd v B1 H1 g1 r1 => ?_) h⟩⟩
  · cases d <;> first | exact hd.elim | exact k _ hd
  · cases d <;> first | exact hd.elim | skip
    exact ⟨_, r1.int, hd _ B1 H1 g1 (.int _)⟩
/-- 1 << k of any size -/
def gShlW : G2 | .int i, .int j, Q => CShl i j ∧ Q (.int (i * 2 ^ j.toNat)) | _, _, _ => False
theorem m_ShlW : MonoG gShlW := fun d e Q Q' k h => by cases d <;> cases e <;> first | exact ⟨h.1, k _ h.2⟩ | exact h.elim
theorem o_shlW : OpD X c (binaryOp .LShift) gShlW := opd_int op_shlW (fun d e Q h => by cases d <;> cases e <;> first | exact ⟨_, _, rfl, rfl, h.1, h.2⟩ | exact h.elim) m_ShlW
/-! ### a tuple or a list unpacked -/
theorem PG.or {tg : Expr} {t t' : TG} (h : PG X tg t) (h' : PG X tg t') : PG X tg fun v σ H Q => t v σ H Q ∨ t' v σ H Q := ⟨fun pins s σ H v u Q I r q => q.elim (h.run pins s σ H v u Q I r) (h'.run pins s σ H v u Q I r)⟩
def gSq (n : Nat) (gs : GTs) : GT := fun d ρ Q => match seqOf d with | some ds => ds.length = n ∧ gs ds ρ Q | none => False
theorem g_sq {es : List Expr} {k : Nat} {gs : GTs} {ks : List Nat} {pos : Pos} (hc : X.calm = true) (h : PGsd X c es gs ks) {n : Nat} (hn : (assignEach es X.env).length = n := by rfl) (hst : (assignEach es X.env).findIdx? (·.1) = none := by rfl) :
    PGd X c (.Tuple es k pos) (gSq n gs) ks := by
  refine ⟨fun d ρ Q Q' k h' => ?_, pg_weak (PG.or (pg_tup hc h.pg hn hst) (pg_unl hc h.pg hn hst)) fun v σ H Q ⟨B, ρ, d, ok, r, h'⟩ => ?_⟩
  · unfold gSq at h' ⊢
    split at h' <;> first | exact h'.elim | exact ⟨h'.1, h.mono _ _ _ _ k h'.2⟩
  · unfold gSq at h'
    cases d <;> simp only [seqOf] at h' <;> first | exact h'.elim | skip
    · obtain ⟨a, xs, rfl, h1, h2⟩ := rp_lst r
      exact .inr ⟨a, xs, rfl, SqL.of (ok.w.sub _ _ h1), by rw [rpa_len h2]; exact h'.1, B, ρ, _, ok, h2, h'.2⟩
    · obtain ⟨a, xs, rfl, h1, h2⟩ := rp_tup r
      exact .inl ⟨a, xs, rfl, SqT.of (ok.w.sub _ _ h1), by rw [rpa_len h2]; exact h'.1, B, ρ, _, ok, h2, h'.2⟩
/-! ### enumerate(list), zip -/
variable {elts : List Expr} {kk : Nat} {tpos : Pos}
def enumD : Nat → List D → List D
  | _, [] => []
  | k, d :: ds => .tuple [.int (k : Nat), d] :: enumD (k + 1) ds
theorem enumD_len : ∀ (k : Nat) (ds : List D), (enumD k ds).length = ds.length
  | _, [] => rfl
  | k, _ :: ds => by simp only [enumD, List.length_cons, enumD_len (k + 1) ds]
theorem enumD_get : ∀ {k : Nat} {ds : List D} {i : Nat} {d : D}, (enumD k ds)[i]? = some d → ∃ e, ds[i]? = some e ∧ d = .tuple [.int ((k + i : Nat) : Int), e]
  | _, [], _, _, h => by simp [enumD] at h
  | k, e :: ds, 0, d, h => by
    simp [enumD] at h
    exact ⟨e, rfl, h.symm⟩
  | k, e :: ds, i + 1, d, h => by
    simp only [enumD, List.getElem?_cons_succ] at h
    obtain ⟨x, h1, h2⟩ := enumD_get h
    refine ⟨x, by simpa using h1, ?_⟩
    rw [h2]
    have e : k + 1 + i = k + (i + 1) := by omega
    rw [e]
def fEnum (fa : SE) : SI := fun ρ Q => fa ρ fun d => match d with | .list ds => Q (enumD 0 ds) | _ => False
theorem i_enum {e : Expr} {fa : SE} {p pos : Pos} (hm : X.mg "enumerate" = none) (ha : PV X c e fa) (hg : Gl X "enumerate" := by rfl) (hs : starEach [e] X.env = [(false, eval e X.env)] := by rfl) : PItd X c (.Tuple elts kk tpos) (.Call (.Name "enumerate" p) [e] [] pos) (fEnum fa) := by
  refine ⟨fun ρ Q Q' k h => ha.mono _ _ _ (fun d hd => ?_) h, pi_weak (pi_enum hg hm (pa_cons ha.pe pa_nil (by rw [hs]; rfl)) hs) fun σ H R ⟨B, ρ, ok, h⟩ => ⟨B, ρ, ok, ha.mono _ _ _ (fun d hd v B' H' g r => ?_) h⟩⟩
  · cases d <;> first | exact hd.elim | exact k _ hd
  · cases d <;> first | exact hd.elim | skip
    rename_i ds
    obtain ⟨a, xs, rfl, h1, h2⟩ := rp_lst r
    refine ⟨a, xs, rfl, SqL.of (g.w.sub _ _ h1), hd _ B' H' g fun i B1 H1 e1 w => ?_⟩
    have h3 : H1 a = some (.lst xs) := w.sub _ _ (e1 _ _ h1)
    refine ⟨fun hi => ⟨xs, SqL.of h3, by rw [rpa_len h2]; rw [enumD_len] at hi; exact hi⟩, fun d hd' => ?_⟩
    obtain ⟨x, h4, h5⟩ := enumD_get hd'
    obtain ⟨y, h6, h7⟩ := rpa_get h2 h4
    refine ⟨⟨xs, y, SqL.of h3, h6⟩, fun z H2 ⟨T, u, e2, hT, e3, hy⟩ => ?_⟩
    subst e2 e3 h5
    have hu := hy xs (SqL.of h3)
    rw [h6] at hu
    cases hu
    have g4 := Gr.new (o := .tup [.int (i : Nat), y]) w hT
    refine ⟨_, g4, .tup upd_same (.cons ?_ (.cons (rp_mono g4.b (rp_mono e1 h7)) .nil))⟩
    rw [Nat.zero_add]
    exact .int _
def zipD : List D → List D → List D
  | a :: as, b :: bs => .tuple [a, b] :: zipD as bs
  | _, _ => []
theorem zipD_get : ∀ {as bs : List D} {i : Nat} {d : D}, (zipD as bs)[i]? = some d → ∃ a b, as[i]? = some a ∧ bs[i]? = some b ∧ d = .tuple [a, b]
  | a :: as, b :: bs, 0, d, h => by
    simp [zipD] at h
    exact ⟨a, b, rfl, rfl, h.symm⟩
  | a :: as, b :: bs, i + 1, d, h => by
    simp only [zipD, List.getElem?_cons_succ] at h
    obtain ⟨x, y, h1, h2, h3⟩ := zipD_get h
    exact ⟨x, y, by simpa using h1, by simpa using h2, h3⟩
  | [], _, _, _, h => by simp [zipD] at h
  | _ :: _, [], _, _, h => by simp [zipD] at h
theorem zipD_len : ∀ (as bs : List D), (zipD as bs).length = min as.length bs.length
  | a :: as, b :: bs => by simp only [zipD, List.length_cons, zipD_len as bs]; omega
  | [], bs => by simp [zipD]
  | _ :: _, [] => by simp [zipD]
def fZip (fa fb : SE) : SI := fun ρ Q => fa ρ fun d => fb ρ fun e => match d, e with | .list as, .list bs => Q (zipD as bs) | .tuple as, .tuple bs => Q (zipD as bs) | _, _ => False
theorem i_zip {e e2 : Expr} {fa fb : SE} {p pos : Pos} (hm : X.mg "zip" = none) (ha : PV X c e fa) (hb : PV X c e2 fb) (hg : Gl X "zip" := by rfl) (hs : starEach [e, e2] X.env = (false, eval e X.env) :: starEach [e2] X.env := by rfl) (hs2 : starEach [e2] X.env = (false, eval e2 X.env) :: starEach [] X.env := by rfl)
    (hpl : (backTo pos (starEach [e2] X.env)).any (·.1) = false := by rfl) : PItd X c (.Tuple elts kk tpos) (.Call (.Name "zip" p) [e, e2] [] pos) (fZip fa fb) := by
  refine ⟨fun ρ Q Q' k h => ha.mono _ _ _ (fun d hd => hb.mono _ _ _ (fun e he => ?_) hd) h, pi_weak (RZ.pi_zipA hg hm (pa_cons ha.pe (pa_cons hb.pe pa_nil hs2) hs) hs hpl) fun σ H R ⟨B, ρ, ok, h⟩ =>
    ⟨B, ρ, ok, ha.mono _ _ _ (fun d hd v B' H' g r => ⟨B', ρ, ok.mono g, hb.mono _ _ _ (fun e he u B2 H2 g2 r2 => ?_) hd⟩) h⟩⟩
  · cases d <;> cases e <;> first | exact he.elim | exact k _ he
  · have r' := rp_mono g2.b r
    have gg := g.trans ok.w g2
    cases d <;> cases e <;> first | exact he.elim | skip
    · obtain ⟨a, xs, rfl, h1, h2⟩ := rp_lst r'
      obtain ⟨b, ys, rfl, h3, h4⟩ := rp_lst r2
      refine ⟨a, b, xs, ys, rfl, .inl ⟨SqL.of (g2.w.sub _ _ h1), SqL.of (g2.w.sub _ _ h3), he _ B2 H2 gg fun i B1 H1 e1 w => ?_⟩⟩
      have k1 : H1 a = some (.lst xs) := w.sub _ _ (e1 _ _ h1)
      have k2 : H1 b = some (.lst ys) := w.sub _ _ (e1 _ _ h3)
      refine ⟨fun hi => ⟨xs, ys, SqL.of k1, SqL.of k2, by rw [rpa_len h2, rpa_len h4]; rw [zipD_len] at hi; omega⟩, fun d hd' => ?_⟩
      obtain ⟨p, q, m1, m2, m3⟩ := zipD_get hd'
      obtain ⟨x, n1, n2⟩ := rpa_get h2 m1
      obtain ⟨y, n3, n4⟩ := rpa_get h4 m2
      refine ⟨⟨xs, ys, x, y, SqL.of k1, SqL.of k2, n1, n3⟩, fun z H3 ⟨T, x', y', e2, hT, e3, hx, hy⟩ => ?_⟩
      subst e2 e3 m3
      have hx := hx xs (SqL.of k1)
      have hy := hy ys (SqL.of k2)
      rw [n1] at hx
      rw [n3] at hy
      cases hx
      cases hy
      have g4 := Gr.new (o := .tup [x, y]) w hT
      exact ⟨_, g4, .tup upd_same (.cons (rp_mono g4.b (rp_mono e1 n2)) (.cons (rp_mono g4.b (rp_mono e1 n4)) .nil))⟩
    · obtain ⟨a, xs, rfl, h1, h2⟩ := rp_tup r'
      obtain ⟨b, ys, rfl, h3, h4⟩ := rp_tup r2
      refine ⟨a, b, xs, ys, rfl, .inr ⟨SqT.of (g2.w.sub _ _ h1), SqT.of (g2.w.sub _ _ h3), he _ B2 H2 gg fun i B1 H1 e1 w => ?_⟩⟩
      have k1 : H1 a = some (.tup xs) := w.sub _ _ (e1 _ _ h1)
      have k2 : H1 b = some (.tup ys) := w.sub _ _ (e1 _ _ h3)
      refine ⟨fun hi => ⟨xs, ys, SqT.of k1, SqT.of k2, by rw [rpa_len h2, rpa_len h4]; rw [zipD_len] at hi; omega⟩, fun d hd' => ?_⟩
      obtain ⟨p, q, m1, m2, m3⟩ := zipD_get hd'
      obtain ⟨x, n1, n2⟩ := rpa_get h2 m1
      obtain ⟨y, n3, n4⟩ := rpa_get h4 m2
      refine ⟨⟨xs, ys, x, y, SqT.of k1, SqT.of k2, n1, n3⟩, fun z H3 ⟨T, x', y', e2, hT, e3, hx, hy⟩ => ?_⟩
      subst e2 e3 m3
      have hx := hx xs (SqT.of k1)
      have hy := hy ys (SqT.of k2)
      rw [n1] at hx
      rw [n3] at hy
      cases hx
      cases hy
      have g4 := Gr.new (o := .tup [x, y]) w hT
      exact ⟨_, g4, .tup upd_same (.cons (rp_mono g4.b (rp_mono e1 n2)) (.cons (rp_mono g4.b (rp_mono e1 n4)) .nil))⟩
end
end DL
namespace DL
open PySem L2 PyProof.Rows
/-! ### bags: none; a list of a list of ints and two ints -/
def noBag (a : Addr) : Bg := ⟨a, fun _ => False, fun _ => True, fun _ _ _ _ => trivial⟩
/-- the bag's words -/
structure BagW (pb pc : Addr) (H : Hp) (cs : List Int) (d m : Int) : Prop where
  ne : pb ≠ pc
  b : H pb = some (.lst [.ref pc, .int d, .int m])
  c : H pc = some (.lst (cs.map V.int))
  cs0 : ∀ x ∈ cs, 0 ≤ x
  d0 : 0 ≤ d
  m0 : 0 ≤ m
  m1 : m < 2147483647
def lstBag (pb pc : Addr) : Bg where
  pb := pb
  mem := fun a => a = pb ∨ a = pc
  ok := fun H => ∃ cs d m, BagW pb pc H cs d m
  loc := fun H H' k ⟨cs, d, m, w⟩ => ⟨cs, d, m, w.ne, by rw [k pb (.inl rfl)]; exact w.b, by rw [k pc (.inr rfl)]; exact w.c, w.cs0, w.d0, w.m0, w.m1⟩
def IsLst (c : C) : Prop := ∃ pb pc, c.toBg = lstBag pb pc
theorem IsLst.up {c : C} (h : IsLst c) : ∀ B1 H1, IsLst { c with B0 := B1, H0 := H1 } := fun _ _ => h
/-- the bag's own objects changed -/
theorem Gr.bag {c : C} {B H H' : Hp} (w : Wd c B H) (k : ∀ a, ¬ c.isBag a → H' a = H a) (h : ∀ a, c.isBag a → H' a ≠ none) (ok : c.ok H') : Gr c B H B H' := by
  refine ⟨Evl.Ex.refl B, fun a o n e => by rw [k a n]; exact e, fun _ _ => rfl, fun a o e => ?_, w.bag.out, h, ok⟩
  rw [k a (w.nb e)]; exact w.sub a o e
/-! ### ints read without a change -/
abbrev RI := St → Hp → Int → Prop
structure PI (X : Cx) (e : Expr) (f : RI) : Prop where
  pe : PE X e (fun σ H Q => ∃ i, f σ H i ∧ Q (.int i) H)
section
variable {X : Cx}
theorem PI.of {e : Expr} {f : RI} {t : TE} (h : PE X e t) (w : ∀ σ H Q i, f σ H i → Q (.int i) H → t σ H Q) : PI X e f := ⟨pe_weak h fun σ H Q ⟨i, h1, h2⟩ => w σ H Q i h1 h2⟩
theorem pi_nm (i : Nat) {x : Str} {pos : Pos} (hN : X.N[i]? = some x := by rfl) (hv : Vis X.env.scope x := by first | exact Or.inl rfl | exact Or.inr (Or.inl rfl) | exact Or.inr (Or.inr rfl))
    (hd : (x == ("__debug__" : Str)) = false := by decide) (hcd : (x == ("__classdict__" : Str)) = false := by decide) : PI X (.Name x pos) (fun σ _ j => σ[i]? = some (some (.int j))) :=
  .of (pe_var hN hv hd hcd) fun σ H Q j h q => ⟨_, h, q⟩
theorem pi_c {i : Int} {j : Nat} {pos : Pos} : PI X (.Constant (.int i) j pos) (fun _ _ k => k = i) := .of pe_int fun σ H Q k h q => by
  subst h; exact q
theorem pi_bin {op : Operator} {C : Int → Int → Prop} {g : Int → Int → Int} {a b : Expr} {fa fb : RI} {pos : Pos} (ho : OpR X (binaryOp op) (rI C fun i j => .int (g i j))) (ha : PI X a fa) (hb : PI X b fb) :
    PI X (.BinOp a op b pos) (fun σ H k => ∃ i j, fa σ H i ∧ fb σ H j ∧ C i j ∧ k = g i j) :=
  .of (pe_op ho ha.pe hb.pe) fun σ H Q k ⟨i, j, h1, h2, h3, h4⟩ q => ⟨i, h1, j, h2, i, j, rfl, rfl, h3, by rw [h4] at q; exact q⟩
theorem iop_add : OpR X (binaryOp .Add) (rI (fun _ _ => True) fun i j => .int (i + j)) := rI0_I op_add
theorem pi_int {e : Expr} {f : RI} {p pos : Pos} (hm : X.mg "int" = none) (he : PI X e f) (hg : Gl X "int" := by rfl) (hs : starEach [e] X.env = (false, eval e X.env) :: starEach [] X.env := by rfl) (hpl : (backTo pos (starEach [] X.env)).any (·.1) = false := by rfl) :
    PI X (.Call (.Name "int" p) [e] [] pos) f :=
  .of (pe_callTy call_int1 hg hm (by decide +kernel) (pa_cons he.pe pa_nil hs) (by decide) (by decide) hs hpl) fun σ H Q k h q => ⟨k, h, .inl ⟨k, rfl, q⟩⟩
/-- bag[k], k ≥ 1 -/
theorem pi_bag (i : Nat) {x : Str} {k : Int} {jj : Nat} {p1 p2 pos : Pos} (hN : X.N[i]? = some x := by rfl) (hv : Vis X.env.scope x := by first | exact Or.inl rfl | exact Or.inr (Or.inl rfl) | exact Or.inr (Or.inr rfl))
    (hd : (x == ("__debug__" : Str)) = false := by decide) (hcd : (x == ("__classdict__" : Str)) = false := by decide) :
    PI X (.Subscript (.Name x p1) (.Constant (.int k) jj p2) pos) (fun σ H j => ∃ p xs, σ[i]? = some (some (.ref p)) ∧ H p = some (.lst xs) ∧ atI xs k = some (.int j)) :=
  .of (pe_ix ix_seq (pe_var hN hv hd hcd) pe_int (fun _ _ => rfl)) fun σ H Q j ⟨p, xs, h1, h2, h3⟩ q => ⟨_, h1, .inl ⟨p, xs, k, .int j, rfl, rfl, SqL.of h2, h3, q⟩⟩
/-- a test of two ints -/
theorem pt_i {op : CmpOp} {g : Int → Int → Bool} {a b : Expr} {fa fb : RI} {pos : Pos} (ho : OpR X (compareOp op) (rI0 fun i j => .bl (g i j))) (ha : PI X a fa) (hb : PI X b fb) (hm : behindInMarks op b = false := by first | exact nomark _ | rfl) :
    PT X (.Compare a [op] [b] pos) (fun σ H Q => ∃ i j, fa σ H i ∧ fb σ H j ∧ Q (g i j) H) := by
  refine pt_weak (pt_cmpR ho ha.pe hb.pe hm) fun σ H Q ⟨i, j, h1, h2, h3⟩ => ?_
  exact ⟨i, h1, j, h2, i, j, rfl, rfl, _, rfl, h3⟩
theorem iop_eq : OpR X (compareOp .Eq) (rI0 fun i j => .bl (decide (i = j))) := opr_weak op_eq fun x y H Q ⟨i, j, e1, e2, q⟩ => by
  subst e1 e2
  refine ⟨rfl, ?_⟩
  have e : decide (V.int i = V.int j) = decide (i = j) := by simp
  rw [e]; exact q
/-- bag[0], a list of ints, is not [] -/
theorem shaped_ints : ∀ cs : List Int, SeqAt.shaped (.list (cs.map PyData.int)) = true := by
  intro cs
  have h1 : ∀ cs : List Int, PyData.canLayAll0 (cs.map PyData.int) = true := fun cs => by
    induction cs with
    | nil => rfl
    | cons c cs ih => simp [PyData.canLayAll0, PyData.canLay0, ih]
  have h2 : ∀ cs : List Int, PyData.depthAll (cs.map PyData.int) ≤ 1 := fun cs => by
    induction cs with
    | nil => simp [PyData.depthAll]
    | cons c cs ih => simp [PyData.depthAll, PyData.depth, ih]
  have := h2 cs
  have e : (PyData.list (cs.map PyData.int)).depth ≤ 64 := by
    simp only [PyData.depth]
    omega
  unfold SeqAt.shaped
  rw [decide_eq_true e]
  simp only [PyData.canLay0, h1, Bool.and_self]
theorem dp_ints {K : PySem.W.Frag} {H : Hp} {p : Addr} {cs : List Int} (h : H p = some (.lst (cs.map V.int))) : Dp K H (.ref p) (.list (cs.map PyData.int)) :=
  rp_dp (B := H) (.lst h (rpa_of_ints cs)) (SeqAt.canLay_of_shaped (shaped_ints cs))
theorem eqv_nil (cs : List Int) : (!PyData.eqv (.list (cs.map PyData.int)) (.list [])) = !cs.isEmpty := by
  cases cs <;> simp [PyData.eqv, PyData.eqvAll]
theorem pt_full (i : Nat) {x : Str} {j0 : Nat} {p1 p2 p3 p4 pos : Pos} (hu : X.A.units + 64 < cLine) (hN : X.N[i]? = some x := by rfl) (hv : Vis X.env.scope x := by first | exact Or.inl rfl | exact Or.inr (Or.inl rfl) | exact Or.inr (Or.inr rfl))
    (hd : (x == ("__debug__" : Str)) = false := by decide) (hcd : (x == ("__classdict__" : Str)) = false := by decide) :
    PT X (.Compare (.Subscript (.Name x p1) (.Constant (.int 0) j0 p2) p3) [.NotEq] [.List [] p4] pos)
      (fun σ H Q => ∃ p xs q, ∃ cs : List Int, σ[i]? = some (some (.ref p)) ∧ H p = some (.lst xs) ∧ atI xs 0 = some (.ref q) ∧ H q = some (.lst (cs.map V.int)) ∧ ∀ H', (∀ a, H a ≠ none → H' a = H a) → Q (!cs.isEmpty) H') := by
  refine pt_weak (pt_cmpR (op_neD hu) (pe_ix ix_seq (pe_var hN hv hd hcd) pe_int (fun _ _ => rfl)) (pe_lst pa_nil) (by rfl)) fun σ H Q ⟨p, xs, q, cs, h1, h2, h3, h4, k⟩ => ?_
  refine ⟨_, h1, .inl ⟨p, xs, 0, .ref q, rfl, rfl, SqL.of h2, h3, ?_⟩⟩
  refine ⟨by decide, fun l hl => ?_⟩
  have nq : q ≠ l := ne_of_none h4 hl
  refine ⟨_, _, dp_ints (cs := cs) (by rw [upd_ne nq]; exact h4), dp_ints (cs := []) upd_same, shaped_ints cs, shaped_ints [], _, rfl, ?_⟩
  rw [show (List.map PyData.int ([] : List Int)) = [] from rfl, eqv_nil]
  exact k _ fun a ha => upd_ne fun z => ha (by rw [z]; exact hl)
/-- bag[k] = e -/
theorem ps_bag (i : Nat) {x : Str} {e : Expr} {f : RI} {k : Int} {j0 : Nat} {p1 p2 p3 pos : Pos} (he : PI X e f) (hN : X.N[i]? = some x := by rfl) (hv : Vis X.env.scope x := by first | exact Or.inl rfl | exact Or.inr (Or.inl rfl) | exact Or.inr (Or.inr rfl))
    (hd : (x == ("__debug__" : Str)) = false := by decide) (hcd : (x == ("__classdict__" : Str)) = false := by decide)
    (ha : ∀ v, assign (.Subscript (.Name x p1) (.Constant (.int k) j0 p2) p3) X.env v = (do
      let ov ← holding [v] (eval (.Name x p1) X.env)
      let iv ← holding [v, ov] (eval (.Constant (.int k) j0 p2) X.env)
      standAt p3
      holding [v, ov, iv] (setItem ov iv v)
      release [v, ov, iv] []) := by intro _; rfl)
    (hs : swapsWithSole [.Subscript (.Name x p1) (.Constant (.int k) j0 p2) p3] e pos.line X.env = pure false := by rfl) (hw : swappedStores [.Subscript (.Name x p1) (.Constant (.int k) j0 p2) p3] e X.env = pure none := by rfl)
    (h1 : (assignEach [.Subscript (.Name x p1) (.Constant (.int k) j0 p2) p3] X.env).map (·.2) = [assign (.Subscript (.Name x p1) (.Constant (.int k) j0 p2) p3) X.env] := by rfl) :
    PS X (.Assign [.Subscript (.Name x p1) (.Constant (.int k) j0 p2) p3] e pos) (fun D σ H => ∃ v p xs j, f σ H v ∧ σ[i]? = some (some (.ref p)) ∧ H p = some (.lst xs) ∧ ixN xs.length k = some j ∧ D.nx σ (upd H p (.lst (xs.set j (.int v))))) :=
  ps_weak (ps_asg he.pe (pg_sub (pe_var hN hv hd hcd) pe_int set_list ha) hs hw h1) fun D σ H ⟨v, p, xs, j, q1, q2, q3, q4, q⟩ => ⟨v, q1, _, q2, p, xs, k, j, rfl, rfl, q3, q4, q⟩
/-- cell = bag[0].pop() -/
theorem ps_bagPop (i j : Nat) {x y : Str} {j0 : Nat} {p0 p1 p2 p3 p4 p5 pos : Pos} (hNd : X.N.Nodup) (hN : X.N[i]? = some x := by rfl) (hv : Vis X.env.scope x := by first | exact Or.inl rfl | exact Or.inr (Or.inl rfl) | exact Or.inr (Or.inr rfl))
    (hd : (x == ("__debug__" : Str)) = false := by decide) (hcd : (x == ("__classdict__" : Str)) = false := by decide) (hj : X.N[j]? = some y := by rfl) (hy : Loc X.env.scope y := by first | exact Or.inl rfl | exact Or.inr rfl)
    (hf : X.fn y = true ∨ X.env.scope.names.lookup y = some .local := by first | exact .inl rfl | exact .inr rfl | assumption)
    (hbase : attributeBase (.Subscript (.Name x p1) (.Constant (.int 0) j0 p2) p3) "pop" X.env (eval (.Subscript (.Name x p1) (.Constant (.int 0) j0 p2) p3) X.env) = eval (.Subscript (.Name x p1) (.Constant (.int 0) j0 p2) p3) X.env := by rfl) (hline : (p4.endLine == p5.line) = true := by rfl)
    (hs : swapsWith (.Call (.Attribute (.Subscript (.Name x p1) (.Constant (.int 0) j0 p2) p3) "pop" p4) [] [] p5) (some (.Name y p0)) pos.line X.env = pure false := by rfl) :
    PS X (.Assign [.Name y p0] (.Call (.Attribute (.Subscript (.Name x p1) (.Constant (.int 0) j0 p2) p3) "pop" p4) [] [] p5) pos)
      (fun D σ H => ∃ p xs q ys v, σ[i]? = some (some (.ref p)) ∧ H p = some (.lst xs) ∧ atI xs 0 = some (.ref q) ∧ H q = some (.lst ys) ∧ ys[ys.length - 1]? = some v ∧ D.nx (σ.set j (some v)) (upd H q (.lst ys.dropLast))) :=
  ps_weak (ps_set hNd hj hy (pe_bm0 PySem.F.plainAttrs_list PySem.F.slot_list_pop PySem.F.type_list_pop mt_pop (pe_ix ix_seq (pe_var hN hv hd hcd) pe_int (fun _ _ => rfl)) hbase hline) hs hf) fun D σ H ⟨p, xs, q, ys, v, q1, q2, q3, q4, q5, k⟩ =>
    ⟨_, q1, .inl ⟨p, xs, 0, .ref q, rfl, rfl, SqL.of q2, q3, .inl ⟨rfl, ys, SqL.of q4⟩, q, ys, v, rfl, rfl, q4, q5, k⟩⟩
theorem pi_if {cc a b : Expr} {t : TT} {fa fb : RI} {pos : Pos} {r : St → Hp → Bool → Prop} (hc : PT X cc t) (w : ∀ σ H b Q, r σ H b → Q b H → t σ H Q) (ha : PI X a fa) (hb : PI X b fb) :
    PI X (.IfExp cc a b pos) (fun σ H i => ∃ k, r σ H k ∧ (if k = true then fa σ H i else fb σ H i)) :=
  .of (pe_ifExp hc ha.pe hb.pe) fun σ H Q i ⟨k, h1, h2⟩ q => w _ _ _ _ h1 (by
    cases k with
    | true => exact ⟨i, h2, q⟩
    | false => exact ⟨i, h2, q⟩)
theorem ps_retI {e : Expr} {f : RI} {pos : Pos} (he : PI X e f) : PS X (.Return (some e) pos) (fun D σ H => ∃ i, f σ H i ∧ D.rt (.int i) H) := ps_weak (ps_ret he.pe) fun D σ H h => h
theorem ps_setI (i : Nat) {x : Str} {e : Expr} {f : RI} {pos pos' : Pos} (hN : X.N.Nodup) (he : PI X e f) (hi : X.N[i]? = some x := by rfl) (hx : Loc X.env.scope x := by first | exact Or.inl rfl | exact Or.inr rfl)
    (hs : swapsWith e (some (.Name x pos')) pos.line X.env = pure false := by rfl) (hf : X.fn x = true ∨ X.env.scope.names.lookup x = some .local := by first | exact .inl rfl | exact .inr rfl | assumption) :
    PS X (.Assign [.Name x pos'] e pos) (fun D σ H => ∃ v, f σ H v ∧ D.nx (σ.set i (some (.int v))) H) := ps_weak (ps_set hN hi hx he.pe hs hf) fun D σ H ⟨v, h1, h2⟩ => ⟨v, h1, h2⟩
end
/-! ### the draw -/
abbrev rBg (k : Int) : RI := fun σ H j => ∃ p xs, σ[0]? = some (some (.ref p)) ∧ H p = some (.lst xs) ∧ atI xs k = some (.int j)
abbrev rNm (i : Nat) : RI := fun σ _ j => σ[i]? = some (some (.int j))
abbrev rK (i : Int) : RI := fun _ _ k => k = i
abbrev rBin (C : Int → Int → Prop) (g : Int → Int → Int) (fa fb : RI) : RI := fun σ H k => ∃ i j, fa σ H i ∧ fb σ H j ∧ C i j ∧ k = g i j
abbrev rMul := rBin CMulW fun i j => i * j
abbrev rAdd := rBin (fun _ _ => True) fun i j => i + j
abbrev rMod := rBin (fun _ j => 0 < j) fun i j => i % j
def CDv (i j : Int) : Prop := 0 < j ∧ j.natAbs.log2 < 9000
theorem iop_div {X : Cx} : OpR X (binaryOp .FloorDiv) (rI CDv fun i j => .int (i / j)) := opr_weak op_fdivA fun x y H Q ⟨i, j, e1, e2, h, q⟩ => by
  refine ⟨i, j, e1, e2, ⟨by have := h.1; omega, h.2⟩, ?_⟩
  show Q (V.int (i.fdiv j)) H
  rw [Int.fdiv_eq_ediv_of_nonneg _ (Int.le_of_lt h.1)]
  exact q
abbrev rDiv := rBin CDv fun i j => i / j
abbrev rPow := rBin CPow fun i j => i ^ j.toNat
abbrev tIt (g : Int → Int → Bool) (fa fb : RI) : TT := fun σ H Q => ∃ i j, fa σ H i ∧ fb σ H j ∧ Q (g i j) H
abbrev tFull : TT := fun σ H Q => ∃ p xs q, ∃ cs : List Int, σ[0]? = some (some (.ref p)) ∧ H p = some (.lst xs) ∧ atI xs 0 = some (.ref q) ∧ H q = some (.lst (cs.map V.int)) ∧ ∀ H', (∀ a, H a ≠ none → H' a = H a) → Q (!cs.isEmpty) H'
abbrev tPut (k : Int) (f : RI) : TS := fun D σ H => ∃ v p xs j, f σ H v ∧ σ[0]? = some (some (.ref p)) ∧ H p = some (.lst xs) ∧ ixN xs.length k = some j ∧ D.nx σ (upd H p (.lst (xs.set j (.int v))))
abbrev tPopB : TS := fun D σ H => ∃ p xs q ys v, σ[0]? = some (some (.ref p)) ∧ H p = some (.lst xs) ∧ atI xs 0 = some (.ref q) ∧ H q = some (.lst ys) ∧ ys[ys.length - 1]? = some v ∧ D.nx (σ.set 2 (some v)) (upd H q (.lst ys.dropLast))
abbrev rIfI (g : Int → Int → Bool) (c1 c2 fa fb : RI) : RI := fun σ H i => ∃ k, (∃ x y, c1 σ H x ∧ c2 σ H y ∧ k = g x y) ∧ (if k = true then fa σ H i else fb σ H i)
abbrev tSetI (i : Nat) (f : RI) : TS := fun D σ H => ∃ v, f σ H v ∧ D.nx (σ.set i (some (.int v))) H
abbrev tRetI (f : RI) : TS := fun D σ H => ∃ i, f σ H i ∧ D.rt (.int i) H
abbrev gEqI (i j : Int) : Bool := decide (i = j)
abbrev gGtI (i j : Int) : Bool := decide (j < i)
def tDraw (a b q : Int) : TS :=
  tSeq (tWhile (tAnd (tIt gEqI (rBg 1) (rK 0)) tFull) (tSeq tPopB (tPut 1 (rIfI gGtI (rNm 2) (rPow (rK 10) (rK 9)) (rNm 2) (rK 0)))))
    (tSeq (tIfS (tIt gGtI (rBg 1) (rK 0)) (tSeq (tSetI 3 (rMod (rBg 1) (rNm 1))) (tSeq (tPut 1 (rDiv (rBg 1) (rNm 1))) (tRetI (rNm 3)))) tNext)
      (tSeq (tPut 2 (rMod (rAdd (rMul (rBg 2) (rK a)) (rK b)) (rK 2147483647))) (tRetI (rMod (rDiv (rMod (rMul (rBg 2) (rBg 2)) (rK 2147483629)) (rK q)) (rNm 1)))))
def spDraw : Spec := fun ss Q => ∃ n : Int, ss = [.bg, .sh (.int n)] ∧ 0 < n ∧ n.natAbs.log2 < 9000 ∧ ∀ r : Int, 0 ≤ r → r < n → Q (.int r)
/-! what the draw does -/
theorem BagW.keep {pb pc : Addr} {H H' : Hp} {cs : List Int} {d m : Int} (w : BagW pb pc H cs d m) (k : ∀ a, H a ≠ none → H' a = H a) : BagW pb pc H' cs d m :=
  ⟨w.ne, by rw [k _ (by rw [w.b]; exact fun z => nomatch z)]; exact w.b, by rw [k _ (by rw [w.c]; exact fun z => nomatch z)]; exact w.c, w.cs0, w.d0, w.m0, w.m1⟩
theorem BagW.put1 {pb pc : Addr} {H : Hp} {cs : List Int} {d m : Int} (w : BagW pb pc H cs d m) {e : Int} (he : 0 ≤ e) : BagW pb pc (upd H pb (.lst ([V.ref pc, .int d, .int m].set 1 (.int e)))) cs e m :=
  ⟨w.ne, upd_same, by rw [upd_ne (Ne.symm w.ne)]; exact w.c, w.cs0, he, w.m0, w.m1⟩
theorem BagW.put2 {pb pc : Addr} {H : Hp} {cs : List Int} {d m : Int} (w : BagW pb pc H cs d m) {e : Int} (he : 0 ≤ e) (h1 : e < 2147483647) : BagW pb pc (upd H pb (.lst ([V.ref pc, .int d, .int m].set 2 (.int e)))) cs d e :=
  ⟨w.ne, upd_same, by rw [upd_ne (Ne.symm w.ne)]; exact w.c, w.cs0, w.d0, he, h1⟩
theorem BagW.pop {pb pc : Addr} {H : Hp} {cs : List Int} {d m : Int} (w : BagW pb pc H cs d m) : BagW pb pc (upd H pc (.lst (cs.map V.int).dropLast)) cs.dropLast d m :=
  ⟨w.ne, by rw [upd_ne w.ne]; exact w.b, by rw [upd_same, List.map_dropLast], fun x hx => w.cs0 x (List.dropLast_subset _ hx), w.d0, w.m0, w.m1⟩
theorem getLast_at {cs : List Int} (h : cs ≠ []) : ∃ x ∈ cs, (cs.map V.int)[(cs.map V.int).length - 1]? = some (.int x) := by
  refine ⟨cs.getLast h, List.getLast_mem h, ?_⟩
  rw [List.length_map, List.getElem?_map, ← List.getLast?_eq_getElem?, List.getLast?_eq_getLast h]
  rfl
/-- between two states: only the bag's objects have changed, and new ones came -/
def BagTo (pb pc : Addr) (H H' : Hp) : Prop := ∀ a, a ≠ pb → a ≠ pc → H a ≠ none → H' a = H a
theorem BagTo.refl {pb pc : Addr} {H : Hp} : BagTo pb pc H H := fun _ _ _ _ => rfl
theorem BagTo.keep {pb pc : Addr} {H H1 H2 : Hp} (t : BagTo pb pc H H1) (k : ∀ a, H1 a ≠ none → H2 a = H1 a) : BagTo pb pc H H2 := fun a h1 h2 h3 => by
  have e := t a h1 h2 h3
  rw [k a (by rw [e]; exact h3), e]
theorem BagTo.pb {pb pc : Addr} {H H1 : Hp} {o : HO} (t : BagTo pb pc H H1) : BagTo pb pc H (upd H1 pb o) := fun a h1 h2 h3 => by rw [upd_ne h1]; exact t a h1 h2 h3
theorem BagTo.pc {pb pc : Addr} {H H1 : Hp} {o : HO} (t : BagTo pb pc H H1) : BagTo pb pc H (upd H1 pc o) := fun a h1 h2 h3 => by rw [upd_ne h2]; exact t a h1 h2 h3
theorem draw_run {a b q n : Int} {pb pc : Addr} {D : Ends} {σ : L2.St} {H : Hp} {cs : List Int} {d m : Int} (hq : 0 < q ∧ q < 1000) (ha : 0 ≤ a ∧ a < 4294967296) (hb : 0 ≤ b) (hn : 0 < n) (hn2 : n.natAbs.log2 < 9000)
    (w : BagW pb pc H cs d m) (h0 : σ[0]? = some (some (.ref pb))) (h1 : σ[1]? = some (some (.int n))) (hl : σ.length = 4)
    (h : ∀ r : Int, 0 ≤ r → r < n → ∀ H', BagTo pb pc H H' → (∃ cs d m, BagW pb pc H' cs d m) → D.rt (.int r) H') : tDraw a b q D σ H := by
  have ml : ∀ {x y : Int}, 0 ≤ x → x < 4294967296 → 0 ≤ y → y < 4294967296 → CMulW x y := fun {x y} g1 g2 g3 g4 =>
    wide_mul (a := 32) (b := 32) (by omega) (by omega) (by decide) (by decide) (by decide)
  refine ⟨fun k σ' H' => σ'[0]? = some (some (.ref pb)) ∧ σ'[1]? = some (some (.int n)) ∧ σ'.length = 4 ∧ BagTo pb pc H H' ∧ ∃ cs d m, BagW pb pc H' cs d m ∧ cs.length = k, ⟨cs.length, h0, h1, hl, BagTo.refl, cs, d, m, w, rfl⟩, ?_⟩
  rintro k σ1 H1 ⟨g0, g1, gl, gt, cs, d, m, w, rfl⟩
  -- what comes behind the loop
  have rest : ∀ {H2 : Hp} {cs : List Int} {d m : Int} {σ1 : L2.St}, σ1[0]? = some (some (.ref pb)) → σ1[1]? = some (some (.int n)) → σ1.length = 4 → BagTo pb pc H H2 → BagW pb pc H2 cs d m →
      (tSeq (tIfS (tIt gGtI (rBg 1) (rK 0)) (tSeq (tSetI 3 (rMod (rBg 1) (rNm 1))) (tSeq (tPut 1 (rDiv (rBg 1) (rNm 1))) (tRetI (rNm 3)))) tNext)
      (tSeq (tPut 2 (rMod (rAdd (rMul (rBg 2) (rK a)) (rK b)) (rK 2147483647))) (tRetI (rMod (rDiv (rMod (rMul (rBg 2) (rBg 2)) (rK 2147483629)) (rK q)) (rNm 1))))) D σ1 H2 := by
    intro H2 cs d m σ1 g0 g1 gl gt w
    have b1 : rBg 1 σ1 H2 d := ⟨pb, _, g0, w.b, rfl⟩
    have b2 : rBg 2 σ1 H2 m := ⟨pb, _, g0, w.b, rfl⟩
    refine ⟨d, 0, b1, rfl, ?_⟩
    by_cases hd : 0 < d
    · rw [show gGtI d 0 = true from decide_eq_true hd]; dsimp only; rw [if_pos rfl]
      have r0 := Int.emod_nonneg d (Int.ne_of_gt hn)
      have r1 := Int.emod_lt_of_pos d hn
      refine ⟨d % n, ⟨d, n, b1, g1, hn, rfl⟩, ?_⟩
      have s0 : (σ1.set 3 (some (.int (d % n))))[0]? = some (some (.ref pb)) := by rw [List.getElem?_set_ne (by decide)]; exact g0
      have s1 : (σ1.set 3 (some (.int (d % n))))[1]? = some (some (.int n)) := by rw [List.getElem?_set_ne (by decide)]; exact g1
      refine ⟨d / n, pb, _, 1, ⟨d, n, ⟨pb, _, s0, w.b, rfl⟩, s1, ⟨hn, hn2⟩, rfl⟩, s0, w.b, rfl, ?_⟩
      refine ⟨d % n, ?_, h _ r0 r1 _ gt.pb ⟨cs, _, _, w.put1 (Int.ediv_nonneg w.d0 (Int.le_of_lt hn))⟩⟩
      show (σ1.set 3 (some (.int (d % n))))[3]? = _
      rw [List.getElem?_set_self (by omega)]
    · rw [show gGtI d 0 = false from decide_eq_false hd]; dsimp only; rw [if_neg (by decide)]
      have m0 := w.m0
      have m1 := w.m1
      have n0 := Int.emod_nonneg (m * a + b) (b := 2147483647) (by decide)
      have n1 := Int.emod_lt_of_pos (m * a + b) (b := 2147483647) (by decide)
      refine ⟨(m * a + b) % 2147483647, pb, _, 2, ⟨_, _, ⟨m * a, b, ⟨m, a, b2, rfl, ml m0 (by omega) ha.1 ha.2, rfl⟩, rfl, trivial, rfl⟩, rfl, show (0 : Int) < 2147483647 by decide, rfl⟩, g0, w.b, rfl, ?_⟩
      have w2 := w.put2 n0 n1
      generalize (m * a + b) % 2147483647 = z at n0 n1 w2
      have b3 : rBg 2 σ1 (upd H2 pb (.lst ([V.ref pc, .int d, .int m].set 2 (.int z)))) z := ⟨pb, _, g0, w2.b, rfl⟩
      have q0 : (0 : Int) < q := hq.1
      refine ⟨z * z % 2147483629 / q % n, ⟨_, n, ⟨_, q, ⟨_, _, ⟨z, z, b3, b3, ml n0 (by omega) n0 (by omega), rfl⟩, rfl, show (0 : Int) < 2147483629 by decide, rfl⟩, rfl, ⟨q0, ?_⟩, rfl⟩, g1, hn, rfl⟩, ?_⟩
      · have : q.natAbs < 2 ^ 10 := by omega
        by_cases z0 : q.natAbs = 0
        · rw [z0]; decide
        · exact Nat.lt_trans ((Nat.log2_lt z0).mpr this) (by decide)
      · exact h _ (Int.emod_nonneg _ (Int.ne_of_gt hn)) (Int.emod_lt_of_pos _ hn) _ gt.pb ⟨_, _, _, w2⟩
  refine ⟨d, 0, ⟨pb, _, g0, w.b, rfl⟩, rfl, ?_⟩
  by_cases hd : d = 0
  · rw [show gEqI d 0 = true from decide_eq_true hd]; dsimp only; rw [if_pos rfl]
    refine ⟨pb, _, pc, cs, g0, w.b, rfl, w.c, fun H2 k2 => ?_⟩
    have w2 := w.keep k2
    by_cases hc : cs = []
    · subst hc
      exact rest g0 g1 gl (gt.keep k2) w2
    · rw [show (!cs.isEmpty) = true by cases cs <;> first | exact absurd rfl hc | rfl]; dsimp only; rw [if_pos rfl]
      refine ⟨fun σ' H' => σ'[0]? = some (some (.ref pb)) ∧ σ'[1]? = some (some (.int n)) ∧ σ'.length = 4 ∧ BagTo pb pc H H' ∧ ∃ cs' d m, BagW pb pc H' cs' d m ∧ cs'.length < cs.length, fun σ' H' ⟨a0, a1, a2, a3, cs', d', m', a4, a5⟩ => ⟨_, a5, a0, a1, a2, a3, cs', d', m', a4, rfl⟩, ?_⟩
      obtain ⟨x, hx, hx2⟩ := getLast_at hc
      refine ⟨pb, _, pc, _, .int x, g0, w2.b, rfl, w2.c, hx2, ?_⟩
      have s0 : (σ1.set 2 (some (.int x)))[0]? = some (some (.ref pb)) := by rw [List.getElem?_set_ne (by decide)]; exact g0
      have s1 : (σ1.set 2 (some (.int x)))[1]? = some (some (.int n)) := by rw [List.getElem?_set_ne (by decide)]; exact g1
      have s2 : (σ1.set 2 (some (.int x)))[2]? = some (some (.int x)) := List.getElem?_set_self (by omega)
      have w3 := w2.pop
      have x0 := w2.cs0 x hx
      have len : cs.dropLast.length < cs.length := by
        rw [List.length_dropLast]
        have : 0 < cs.length := List.length_pos_iff.mpr hc
        omega
      refine ⟨if 10 ^ (9 : Int).toNat < x then x else 0, pb, _, 1, ⟨gGtI x (10 ^ (9 : Int).toNat), ⟨x, _, s2, ⟨10, 9, rfl, rfl, ⟨by decide, by decide, by decide⟩, rfl⟩, rfl⟩, ?_⟩, s0, w3.b, rfl, s0, s1, by rw [List.length_set]; exact gl, (gt.keep k2).pc.pb, _, _, _, w3.put1 ?_, len⟩
      · unfold gGtI
        by_cases e : (10 : Int) ^ (9 : Int).toNat < x
        · rw [decide_eq_true e, if_pos rfl, if_pos e]; exact s2
        · rw [decide_eq_false e, if_neg (by decide), if_neg e]
      · split
        · exact x0
        · exact Int.le_refl 0
  · rw [show gEqI d 0 = false from decide_eq_false hd]; dsimp only; rw [if_neg (by decide)]
    exact rest g0 g1 gl gt w
theorem BagTo.gr {c : C} {B H H' : Hp} {pb pc : Addr} (w : Wd c B H) (hc : c.toBg = lstBag pb pc) (t : BagTo pb pc H H') (k : ∃ cs d m, BagW pb pc H' cs d m) : Gr c B H B H' := by
  have hm : ∀ a, c.isBag a ↔ (a = pb ∨ a = pc) := fun a => by
    unfold C.isBag
    rw [hc]; exact Iff.rfl
  have hok : c.ok H' := by rw [hc]; exact k
  refine ⟨Evl.Ex.refl B, fun a o n e => ?_, fun _ _ => rfl, fun a o e => ?_, w.bag.out, fun a ha => ?_, hok⟩
  · rw [t a (fun z => n ((hm a).mpr (.inl z))) (fun z => n ((hm a).mpr (.inr z))) (by rw [e]; exact fun z => nomatch z)]; exact e
  · have n := w.nb e
    have e' := w.sub a o e
    rw [t a (fun z => n ((hm a).mpr (.inl z))) (fun z => n ((hm a).mpr (.inr z))) (by rw [e']; exact fun z => nomatch z)]; exact e'
  · obtain ⟨cs, d, m, v⟩ := k
    rcases (hm a).mp ha with z | z
    · rw [z, v.b]; exact fun q => nomatch q
    · rw [z, v.c]; exact fun q => nomatch q
def gDraw : SS := fun D ρ => ∃ n : Int, ρ = [.bg, .sh (.int n), .un, .un] ∧ 0 < n ∧ n.natAbs.log2 < 9000 ∧ ∀ r : Int, 0 ≤ r → r < n → D.rt (.int r)
theorem mono_Draw : MonoS gDraw := fun D D' ρ l ⟨n, h1, h2, h3, h4⟩ => ⟨n, h1, h2, h3, fun r a b => l.rt _ (h4 r a b)⟩
theorem draw_ss {X : Cx} {c : C} {sts : List Stmt} {a b q : Int} (hG : IsLst c) (hq : 0 < q ∧ q < 1000) (ha : 0 ≤ a ∧ a < 4294967296) (hb : 0 ≤ b) (h : PSs X sts (tDraw a b q)) : PSsd X c sts gDraw := by
  obtain ⟨pb, pc, hc⟩ := hG
  refine ⟨mono_Draw, pss_weak h fun D σ H ⟨B, ρ, ok, n, e1, h2, h3, h4⟩ => ?_⟩
  subst e1
  have s0 : SlOk c B H σ 0 .bg := ok.sl 0 _ rfl
  obtain ⟨v, s1, s2⟩ : SlOk c B H σ 1 (.sh (.int n)) := ok.sl 1 _ rfl
  rw [rp_int s2] at s1
  have s0' : σ[0]? = some (some (.ref c.pb)) := s0
  have hp : c.pb = pb := by
    have : c.toBg.pb = (lstBag pb pc).pb := by rw [hc]
    exact this
  rw [hp] at s0'
  have okk : c.ok H := ok.w.bag.ok
  rw [hc] at okk
  obtain ⟨cs, d, m, w⟩ : ∃ cs d m, BagW pb pc H cs d m := okk
  exact draw_run hq ha hb h2 h3 w s0' s1 (by rw [← ok.len]; rfl) fun r r0 r1 H' t k => h4 r r0 r1 _ B H' (ok.g.trans ok.w0 (t.gr ok.w hc k)) (.int r)
theorem spDraw_mono : ∀ ss (Q Q' : D → Prop), (∀ d, Q d → Q' d) → spDraw ss Q → spDraw ss Q' := fun ss Q Q' k ⟨n, h1, h2, h3, h4⟩ => ⟨n, h1, h2, h3, fun r a b => k _ (h4 r a b)⟩
theorem spDraw_len : ∀ ss Q, spDraw ss Q → ss.length = 2 := fun ss Q ⟨n, h1, _⟩ => by rw [h1]; rfl
theorem spDraw_go {N : List Str} (hN : N.length = 4) : ∀ ss (Q : D → Prop), spDraw ss Q → gDraw (endsOf Q) (initE N ss) := fun ss Q ⟨n, h1, h2, h3, h4⟩ => ⟨n, by
  subst h1
  unfold initE
  rw [hN]; rfl, h2, h3, h4⟩
end DL
namespace DL
open PySem L2 PyProof.Rows
/-! ### the script, cut -/
def GOwn (K : PySem.W.Frag) (c : C) : Prop := ∃ ns : List Int, ns.length ≤ most ∧ SqL K c.H0 c.pb (ns.map V.int) ∧ ∀ a, ¬ c.isBag a
theorem sql_up {K : PySem.W.Frag} {H H' : Hp} {a : Addr} {xs : List V} (k : ∀ a o, H a = some o → H' a = some o) (h : SqL K H a xs) : SqL K H' a xs := by
  rcases h with h | h
  · rcases h with h | ⟨ob, h⟩
    · exact .inl (.inl (k _ _ h))
    · exact .inl (.inr ⟨ob, k _ _ h⟩)
  · exact .inr h
theorem cut_map {α β : Type} (f : α → β) (ns : List α) (lo hi : Option Int) : ∃ ms : List α, ms.length ≤ ns.length ∧ (((ns.map f).drop (HT.sIx (ns.map f).length 0 lo)).take (HT.sIx (ns.map f).length (ns.map f).length hi - HT.sIx (ns.map f).length 0 lo)) = ms.map f :=
  ⟨(ns.drop (HT.sIx (ns.map f).length 0 lo)).take (HT.sIx (ns.map f).length (ns.map f).length hi - HT.sIx (ns.map f).length 0 lo), by rw [List.length_take, List.length_drop]; omega, by rw [List.map_take, List.map_drop]⟩
/-- script[a:b] -/
def fScr : SL := fun ρ Q => lk ρ 0 = .bg ∧ ∀ ms : List Int, ms.length ≤ most → Q (ms.map PyData.int)
theorem n_script {X : Cx} {c : C} {x : Str} {p1 p2 pos : Pos} {lo hi : Option Expr} {l h : Option Int} (hG : GOwn X.K c) (hl : POd X c lo fun _ Q => Q l) (hh : POd X c hi fun _ Q => Q h) (hN : X.N[0]? = some x := by rfl) (hv : Vis X.env.scope x := by first | exact Or.inl rfl | exact Or.inr (Or.inl rfl) | exact Or.inr (Or.inr rfl))
    (hd : (x == ("__debug__" : Str)) = false := by decide) (hcd : (x == ("__classdict__" : Str)) = false := by decide) : PN X c (.Subscript (.Name x p1) (.Slice lo hi none p2) pos) fScr := by
  obtain ⟨ns, hl0, hS, hno⟩ := hG
  refine ⟨fun ρ Q Q' k ⟨h1, h2⟩ => ⟨h1, fun ms hm => k _ (h2 ms hm)⟩, pe_weak (pe_slice sl_list (pe_var hN hv hd hcd) hl.po hh.po) fun σ H Q ⟨B, ρ, ok, e, q⟩ => ?_⟩
  have s0 : SlOk c B H σ 0 .bg := ok.sl 0 _ (lk_get e fun z => nomatch z)
  refine ⟨.ref c.pb, s0, B, ρ, ok, fun B1 H1 g1 => ⟨B1, ρ, ok.mono g1, fun B2 H2 g2 => ?_⟩⟩
  have g := g1.trans ok.w g2
  have S2 : SqL X.K H2 c.pb (ns.map V.int) := sql_up (fun a o e => g.h a o (hno a) (ok.g.h a o (hno a) e)) hS
  refine ⟨c.pb, _, rfl, S2, fun t ht => ?_⟩
  obtain ⟨ms, hml, hm⟩ := cut_map V.int ns l h
  have e2 : cutV (ns.map V.int) l h = ms.map V.int := hm
  have g3 := Gr.newO (o := .lst (cutV (ns.map V.int) l h)) g.w ht
  refine q ms (Nat.le_trans hml hl0) t _ B2 _ (g.trans ok.w g3) (g.back ht) (Evl.fresh_back g.w.sub ht) upd_same ?_
  rw [e2]; exact rpa_of_ints ms
end DL
namespace DL
open PySem L2 PySem.Spec PyProof.Rows
/-- try: a body that raises nothing -/
theorem s_tryN {X : Cx} {c : C} {body : List Stmt} {h : ExceptHandler} {hs : List ExceptHandler} {f : SS} {pos : Pos} (hn : ∀ e s, ¬ X.xe e s) (hb : PSsd X c body f) : PSd X c (.Try body (h :: hs) [] [] pos) f :=
  ⟨hb.mono, ps_weak (ps_try_never (u := tNext) hn hb.ps pss_nil) fun D σ H q => q⟩
/-! ### the bag is made -/
def spOwn : Spec := fun ss Q => ss = [.bg] ∧ ∀ (cs : List Int) (m : Int), (∀ x ∈ cs, 0 ≤ x) → 0 ≤ m → m < 2147483647 → Q (.list [.list (cs.map PyData.int), .int 0, .int m])
theorem spOwn_mono : ∀ ss (Q Q' : D → Prop), (∀ d, Q d → Q' d) → spOwn ss Q → spOwn ss Q' := fun ss Q Q' k ⟨h1, h2⟩ => ⟨h1, fun cs m a b e => k _ (h2 cs m a b e)⟩
theorem spOwn_len : ∀ ss Q, spOwn ss Q → ss.length = 1 := fun ss Q ⟨h, _⟩ => by rw [h]; rfl
theorem bag_of {B H : Hp} {v : V} {cs : List Int} {m : Int} (x : Ex B H) (r : Rp B v (.list [.list (cs.map PyData.int), .int 0, .int m])) (h1 : ∀ x ∈ cs, 0 ≤ x) (h2 : 0 ≤ m) (h3 : m < 2147483647) : ∃ pb pc, v = .ref pb ∧ BagW pb pc H cs 0 m := by
  obtain ⟨pb, xs, rfl, e1, r1⟩ := rp_lst r
  cases r1 with
  | cons r1 r2 =>
    cases r2 with
    | cons r2 r3 =>
      cases r3 with
      | cons r3 r4 =>
        cases r4
        obtain ⟨pc, ys, rfl, e2, r5⟩ := rp_lst r1
        have e3 := rp_int r2
        have e4 := rp_int r3
        subst e3 e4
        have e5 := rpa_ints r5
        subst e5
        refine ⟨pb, pc, rfl, fun z => ?_, x _ _ e1, x _ _ e2, h1, Int.le_refl 0, h2, h3⟩
        subst z
        rw [e1] at e2
        cases cs with
        | nil => cases e2
        | cons c cs => cases e2
section
variable {X : Cx} {k : Nat} {f : Addr} {fd : FuncData} {ps : List Str}
def tOwn (K : PySem.W.Frag) : TE := fun σ H Q => ∃ a, ∃ ns : List Int, σ[0]? = some (some (.ref a)) ∧ ns.length ≤ most ∧ SqL K H a (ns.map V.int) ∧ ∀ pb pc cs m H', BagW pb pc H' cs 0 m → Q (.ref pb) H'
theorem pe_own {x y : Str} {p p1 pos : Pos} {ps : List Str} (F : FnG (GOwn X.K) X.prog X.w X.K X.mg X.base k f fd ps spOwn) (hgd : X.A.guards = some []) (hr : Room k X.A) (hm : X.mg x = some (.ref f)) (hk : PySem.W.keepIn X.K (.ref f) = true) (hb : Binds X.K fd ps [])
    (hN : X.N[0]? = some y := by rfl) (hv : Vis X.env.scope y := by first | exact Or.inl rfl | exact Or.inr (Or.inl rfl) | exact Or.inr (Or.inr rfl)) (hd : (y == ("__debug__" : Str)) = false := by decide) (hcd : (y == ("__classdict__" : Str)) = false := by decide)
    (hg : Gl X x := by rfl) (hdb : (x == ("__debug__" : Str)) = false := by decide) (he : starEach [.Name y p1] X.env = (false, eval (.Name y p1) X.env) :: starEach [] X.env := by rfl) (hpl : (backTo pos (starEach [] X.env)).any (·.1) = false := by rfl) :
    PE X (.Call (.Name x p) [.Name y p1] [] pos) (tOwn X.K) := by
  refine ⟨fun pins s σ H Q I ⟨a, ns, h0, hl0, hS, q⟩ => wpAny_Call_Name_kw (ld_glob I hg hm (PySem.W.callWith_K (h₀ := X.base) I.ok.mod.kin hk (wpAny_mono ((pa_cons (pe_var hN hv hd hcd) pa_nil he).run pos pins s σ H (fun vs H1 => vs = [.ref a] ∧ H1 = H) I ⟨_, h0, rfl, rfl⟩) (fun us s1 hv => ?_) fun _ _ z => z) he hpl) hdb)⟩
  obtain ⟨vs, H1, I1, rv, e1, e2⟩ := hv
  subst e1 e2
  refine ⟨I1.kIn, wpAny_call ?_⟩
  have hl : us.length = ps.length := by
    rw [← rv.length]
    exact (F.len [.bg] (fun _ => True) ⟨rfl, fun _ _ _ _ _ => trivial⟩)
  have hbb := hb s1 us I1.kIn (by rw [List.append_nil]; exact hl)
  rw [List.append_nil] at hbb
  refine run_fng F hgd hr I1 hbb rv ⟨{ toBg := noBag a, B0 := fun _ => none, H0 := H1 }, ⟨ns, hl0, hS, fun _ z => z⟩, rfl, ⟨(fun _ _ z => nomatch z), ⟨fun _ z => z.elim, fun _ z => z.elim, trivial⟩⟩, [.bg], ⟨rfl, trivial⟩, rfl, fun cs m a1 a2 a3 v B' H' g r => ?_⟩
  obtain ⟨pb, pc, e, w⟩ := bag_of g.w.sub r a1 a2 a3
  subst e
  exact q pb pc cs m H' w
end
/-- the law's body: the bag, then the rest -/
def gLaw (n : Nat) (g : SS) : Prop := g ⟨fun _ => False, fun d => d = .bool true, fun _ => False, fun _ => False, fun _ => False⟩ (.un :: .bg :: List.replicate n .un)
theorem law_ss {X : Cx} {st : Stmt} {rest : List Stmt} {g : SS} {n : Nat} (h0 : PS X st (tAsg (tOwn X.K) (gName 1))) (h : ∀ c, IsLst c → PSsd X c rest g) (hg : gLaw n g) :
    PSs X (st :: rest) (fun D σ H => (∀ H', D.rt (.bl true) H') ∧ ∃ a, ∃ ns : List Int, σ = some (.ref a) :: List.replicate (n + 1) none ∧ ns.length ≤ most ∧ SqL X.K H a (ns.map V.int)) := by
  refine ⟨fun pins s σ H D I ⟨k, a, ns, e, hl0, hS⟩ => ?_⟩
  subst e
  have hr : PSs X rest (fun D σ H => (∀ H', D.rt (.bl true) H') ∧ ∃ pb pc cs m, BagW pb pc H cs 0 m ∧ σ[1]? = some (some (.ref pb)) ∧ σ.length = n + 2) := by
    refine ⟨fun pins s σ H D I ⟨k, pb, pc, cs, m, w, e1, e2⟩ => ?_⟩
    let c : C := { toBg := lstBag pb pc, B0 := fun _ => none, H0 := H }
    have hw : Wd c c.B0 H := ⟨(fun _ _ z => nomatch z), (fun _ _ => rfl), fun a ha => by
      rcases ha with z | z
      · rw [z, w.b]; exact fun q => nomatch q
      · rw [z, w.c]; exact (fun q => nomatch q), ⟨cs, 0, m, w⟩⟩
    refine (h c ⟨pb, pc, rfl⟩).ps.run pins s σ H D I ⟨c.B0, .un :: .bg :: List.replicate n .un, ⟨hw, hw, Gr.refl hw, by simp [e2], fun i s hi => ?_, fun i j p ds es _ hi _ _ => ?_⟩, (h c ⟨pb, pc, rfl⟩).mono _ _ _ ⟨fun _ z => False.elim z, fun d hd v B' H' g r => ?_, fun _ z => False.elim z, fun _ z => False.elim z, fun _ z => False.elim z⟩ hg⟩
    · match i with
      | 0 => cases hi; trivial
      | 1 => cases hi; exact e1
      | i + 2 =>
        simp only [List.getElem?_cons_succ, List.getElem?_replicate] at hi
        split at hi
        · cases hi; trivial
        · cases hi
    · match i with
      | 0 => cases hi
      | 1 => cases hi
      | i + 2 =>
        simp only [List.getElem?_cons_succ, List.getElem?_replicate] at hi
        split at hi <;> cases hi
    · subst hd
      rw [rp_bl r]; exact k H'
  exact (pss_cons h0 hr).run pins s _ H D I ⟨a, ns, rfl, hl0, hS, fun pb pc cs m H' w => ⟨k, pb, pc, cs, m, w, rfl, by simp⟩⟩
/-- the law's own promise: at the law's call, the guards empty -/
structure FnL (P : Program) (w : World) (K : PySem.W.Frag) (mg : Str → Option Value) (base : Heap) (f : Addr) : Prop where
  run : ∀ (s : Shared) (H : Hp) (a : Addr) (ns : List Int), Env0 P w K mg base callerA [] s H → ns.length ≤ most → SqL K H a (ns.map V.int) →
    codeAny (model P w) callerA (.call (.ref f) ⟨[.ref a], []⟩) (CR CX0 [] P w H s (fun v _ => v = .bl true) E0) s
theorem fnl_of {P : Program} {w : World} {K : PySem.W.Frag} {mg : Str → Option Value} {base : Heap} {x qual : Str} {st : Stmt} {f : Addr} {fd : FuncData} {y : Str} {N : List Str} {n k : Nat} (F : Fun K x qual st f fd) (sc : FnScope N [y] (defScope st)) (hN : N.length = n + 2) (hr : Room (k + 1) callerA)
    (body : ∀ (cdv : Value) (s : Shared) (H : Hp), Room k (callerA.deeper (envOfC qual (defScope st) s.heap.objs.size f cdv)) →
      PSs (cxOf CX0 P w K mg base N qual (defScope st) f cdv callerA [] s H E0).nox (defBody st) (fun D σ H => (∀ H', D.rt (.bl true) H') ∧ ∃ a, ∃ ns : List Int, σ = some (.ref a) :: List.replicate (n + 1) none ∧ ns.length ≤ most ∧ SqL K H a (ns.map V.int)))
    (hbind : ∀ (s : Shared) (u : Value), BindsTo s fd ⟨[u], []⟩ [(y, u)]) : FnL P w K mg base f := by
  obtain ⟨oc, od, kV, doc, pm, an, cdv, ct, osl, rfl, lk', hcd⟩ := F.ex
  refine ⟨fun s H a ns e0 hl0 hS => ?_⟩
  have stands : ∀ b o, base.get? b = some o → s.heap.get? b = some o := fun b o z => (e0.bs b o z).1
  have inK : K.In s.heap := e0.mod.kin.keeps stands
  have r : Vals [V.ref a] [Value.ref a] := .cons rfl .nil
  refine codeAny_call_function hr.depth (inK _ _ lk') rfl sc.co sc.gen rfl (PySem.W.codeRec_of inK hcd) ((hbind s (.ref a)) _ _ _ _ (wpAny_newFunctionEnv_cells sc.kind ?_ ?_))
  · rintro ⟨m, v⟩ hy
    have hm : m ∈ [y] := by
      rw [List.mem_singleton] at hy
      cases hy
      exact List.mem_singleton.mpr rfl
    exact (sc.par m hm).elim .inl fun q => .inr ⟨q, PySem.W.cellsFrom_some _ _ _ (.inl q)⟩
  · intro env he s1 hx
    subst he
    refine ⟨(e0.mod.nolimit.keeps stands).keeps hx.toInCall.keep, codeAny_func ?_⟩
    have I := inv_start (CX := CX0) (E := E0) (qual := qual) (vs := [V.ref a]) (us := [Value.ref a]) sc hr.hd e0 rfl r hx
    have go := (body cdv s H (hr.deeper _)).nox.run [] s1 (L2.start N [V.ref a]) H { nx := fun _ _ => False, rt := fun v _ => v = .bl true } I ⟨fun _ => rfl, a, ns, ?_, hl0, hS⟩
    · refine wpAny_mono go (fun fl s' hs => ?_) fun _ _ z => z
      cases fl with
      | ret u =>
        obtain ⟨v, σ', H', J, rv, q⟩ := hs
        exact ⟨v, H', J.os, J.bare, J.base, J.hok, rv, q⟩
      | next =>
        obtain ⟨σ', H', J, q⟩ := hs
        exact q.elim
      | brk => exact hs.elim fun _ z => z.elim fun _ y => y.2.elim
      | cont => exact hs.elim fun _ z => z.elim fun _ y => y.2.elim
    · unfold L2.start
      rw [hN]
      simp only [List.map_cons, List.map_nil, List.length_cons, List.length_nil]
      rfl
end DL
namespace DL
open PySem L2 PySem.Spec PyProof.Rows
/-- the state at the law's call: the script alone is tracked, or nothing is -/
structure Call0 (P : Program) (w : World) (K : PySem.W.Frag) (s : Shared) (a : Addr) (ns : List Int) (H : Hp) : Prop where
  only : Only H
  sql : SqL K H a (ns.map V.int)
  hok : HOk P w H s.heap
  just : ∀ b, b ≠ a → H b = none
  free : H a ≠ none → K.lookup a = none
theorem call0 {P : Program} {w : World} {K : PySem.W.Frag} {s : Shared} {a : Addr} {vs : List Value} {ns : List Int} (inK : K.In s.heap) (ha : s.heap.get? a = some { cls := .type "list", data := .seq vs.toArray }) (hi : IntsAre vs ns) (hl : ns.length ≤ sizeLine) : ∃ H, Call0 P w K s a ns H := by
  have vv := vals_ints hi
  cases hk : K.lookup a with
  | some ob =>
    have e := inK a ob hk
    rw [ha] at e
    cases e
    refine ⟨fun _ => none, fun _ => .inl rfl, .inr ⟨_, vs.toArray, _, hk, rfl, rfl, rfl, ?_, by simpa using vv⟩, fun b u z => ?_, fun _ _ => rfl, fun z => absurd rfl z⟩
    · rw [List.size_toArray, hi.length]; exact hl
    · exact nomatch (show (none : Option HO) = some u from z)
  | none =>
    have at_ : ∀ {b : Addr}, b = a → (if b = a then some (HO.frz { cls := .type "list", data := .seq vs.toArray } (.lst (ns.map V.int))) else none) = some (HO.frz { cls := .type "list", data := .seq vs.toArray } (.lst (ns.map V.int))) := fun e => if_pos e
    have off : ∀ {b : Addr}, b ≠ a → (if b = a then some (HO.frz { cls := .type "list", data := .seq vs.toArray } (.lst (ns.map V.int))) else none) = none := fun e => if_neg e
    refine ⟨fun b => if b = a then some (.frz { cls := .type "list", data := .seq vs.toArray } (.lst (ns.map V.int))) else none, fun b => ?_, .inl (.inr ⟨_, at_ rfl⟩), fun b u z => ?_, fun b e => off e, fun _ => hk⟩
    · by_cases e : b = a
      · exact .inr ⟨_, _, at_ e⟩
      · exact .inl (off e)
    · by_cases e : b = a
      · have z1 := (at_ e).symm.trans z
        cases z1
        subst e
        exact ⟨ha, by rw [List.length_map]; exact hl, vs, _, vv, ha⟩
      · exact nomatch ((off e).symm.trans z)
theorem law_run {P : Program} {w : World} {K : PySem.W.Frag} {mg mb : Str → Option Value} {f a : Addr} {s : Shared} {vs : List Value} {ns : List Int}
    (inK : K.In s.heap) (gl : s.heap.Ns mainGlobals mg) (bn : s.heap.Ns builtinsNs mb) (bb : ∀ x : Str, x ≠ "__name__" → mb x = bootBuiltins x) (lim : s.heap.NoLimit) (gn : s.gens = #[])
    (ha : s.heap.get? a = some { cls := .type "list", data := .seq vs.toArray }) (hi : IntsAre vs ns) (hm : ns.length ≤ most) (F : ∀ base : Heap, K.In base → base.Ns mainGlobals mg → FnL P w K mg base f) :
    codeAny (model P w) callerA (.call (.ref f) ⟨[.ref a], []⟩) (fun r s' => r = .ok (.ret (.bool true)) ∧ OldK s.heap s'.heap ∧ s'.os = s.os ∧ AllBare s'.gens) s := by
  obtain ⟨H, c⟩ := call0 (P := P) (w := w) inK ha hi (most_le hm)
  have hid : ∀ {b : Addr} {ob : Obj}, s.heap.get? b = some ob → H b = none → (hidT s.heap H).get? b = some ob := fun e n => hidT_get e n
  have there : ∀ {b : Addr} {ob : Obj}, b ≠ a → s.heap.get? b = some ob → (hidT s.heap H).get? b = some ob := fun ne e => hid e (c.just _ ne)
  have ns_ : ∀ {b : Addr} {m : Str → Option Value}, s.heap.Ns b m → (hidT s.heap H).Ns b m := fun {b m} ⟨ob, es, ep, e, d, r⟩ => by
    refine ⟨ob, es, ep, there (fun z => ?_) e, d, r⟩
    subst z
    rw [ha] at e
    cases e
    exact nomatch (show Data.seq vs.toArray _ = Data.dict es ep from d)
  have inB : K.In (hidT s.heap H) := fun b ob e => hid (inK b ob e) (by
    by_cases z : b = a
    · subst z
      cases q : H b with
      | none => rfl
      | some u => rw [c.free (by rw [q]; exact fun z => nomatch z)] at e; cases e
    · exact c.just b z)
  have env : Env0 P w K mg (hidT s.heap H) callerA [] s H :=
    ⟨rfl, ⟨inB, ns_ gl, ⟨mb, ns_ bn, bb⟩, lim.elim fun mc h => ⟨mc, ns_ h.1, h.2⟩⟩, fun b ob e => of_hidT e, Nat.le_of_eq (hidT_size _ _), trivial, (fun b hb => absurd (show b ∈ ([] : List Addr) from hb) (by simp)), c.hok, .of_eq gn⟩
  refine codeAny_mono ((F _ inB (ns_ gl)).run s H a ns env hm c.sql) fun r s' hh => ?_
  cases r with
  | error e => exact hh.elim
  | ok fl =>
    cases fl with
    | ret u =>
      obtain ⟨v, H', hos, bare, un, hok', rv, e⟩ := hh
      subst e
      have e2 : u = Value.bool true := rv
      subst e2
      refine ⟨rfl, OldK.of_keep fun b ob e => ?_, hos, bare⟩
      cases q : H b with
      | none => exact un.keep b ob e q (fun z => absurd (show b ∈ ([] : List Addr) from z) (by simp)) (by simp)
      | some u =>
        rcases c.only b with z | ⟨ox, xs, z⟩
        · rw [q] at z; cases z
        · have old := (c.hok b _ z).1
          rw [e] at old
          cases old
          exact (hok' b _ (un.frzs b _ _ z)).1
    | next => exact hh.elim
    | brk => exact hh.elim
    | cont => exact hh.elim
theorem walk_law {l : PySem.W.OpenLaw} {n : Nat} {q : Program} {loose : List Str} {XP : (Str → Option Value) → Heap → Prop} {YP : World → Heap → Prop} {d : DefRec} (hn : l.most = some n) (hn2 : n ≤ most) (hdf : d.params.defaults = [])
    (F : ∀ (w : World) (mg : Str → Option Value) (f : Addr) (h : Heap), YP w h → h.Ns mainGlobals mg → mg d.name = some (.ref f) → ∃ K : PySem.W.Frag, K.In h ∧ ∀ base : Heap, K.In base → base.Ns mainGlobals mg → FnL l.prog w K mg base f) :
    PySem.W.WalkO q loose XP YP l.row.toRowW d [] (fun f vs => PySem.call f vs) := by
  refine Att.attach_call hn hdf fun w s₀ s mg mb f ob pm cd doc a vs ns G Y _ _ _ hmg hobj hints hlen hg => ?_
  obtain ⟨K, inK, hF⟩ := F w mg f _ Y G.T.g hmg
  exact law_run inK G.T.g G.T.b G.T.builtins G.T.nolimit hg hobj hints (Nat.le_trans hlen hn2) hF
end DL
namespace DL
open PySem L2 PySem.Spec PyProof.Rows
/-- a def known by its name -/
def Kn (P : Program) (w : World) (K : PySem.W.Frag) (mg : Str → Option Value) (base : Heap) (k : Nat) (x : Str) (ps : List Str) (S : Spec) : Prop :=
  ∃ f fd, FnG IsLst P w K mg base k f fd ps S ∧ mg x = some (.ref f) ∧ PySem.W.keepIn K (.ref f) = true ∧ Binds K fd ps []
def KnK (P : Program) (w : World) (K : PySem.W.Frag) (mg : Str → Option Value) (base : Heap) (k : Nat) (x : Str) (ps ks : List Str) (is : List Nat) (S : Spec) : Prop :=
  ∃ f fd, FnG IsLst P w K mg base k f fd ps S ∧ mg x = some (.ref f) ∧ PySem.W.keepIn K (.ref f) = true ∧ KwB K fd ps ks is
theorem Kn.up {P : Program} {w : World} {K : PySem.W.Frag} {mg : Str → Option Value} {base : Heap} {j k : Nat} {x : Str} {ps : List Str} {S : Spec} (h : Kn P w K mg base j x ps S) (l : j ≤ k) : Kn P w K mg base k x ps S :=
  let ⟨f, fd, h1, h2⟩ := h
  ⟨f, fd, h1.up l, h2⟩
theorem KnK.up {P : Program} {w : World} {K : PySem.W.Frag} {mg : Str → Option Value} {base : Heap} {j k : Nat} {x : Str} {ps ks : List Str} {is : List Nat} {S : Spec} (h : KnK P w K mg base j x ps ks is S) (l : j ≤ k) : KnK P w K mg base k x ps ks is S :=
  let ⟨f, fd, h1, h2⟩ := h
  ⟨f, fd, h1.up l, h2⟩
section
variable {X : Cx} {c : C} {k : Nat} {ps : List Str} {S : Spec}
theorem v_callX {x : Str} {p pos : Pos} {e : Expr} {es : List Expr} {fa : SA} (F : Kn X.prog X.w X.K X.mg X.base k x ps S) (hG : IsLst c) (hgd : X.A.guards = some []) (hr : Room k X.A) (ha : PAd X c (e :: es) fa)
    (hg : Gl X x := by rfl) (hdb : (x == ("__debug__" : Str)) = false := by decide) (he : starEach (e :: es) X.env = (false, eval e X.env) :: starEach es X.env := by rfl) (hpl : (backTo pos (starEach es X.env)).any (·.1) = false := by rfl) :
    PV X c (.Call (.Name x p) (e :: es) [] pos) (fCall S fa) := by
  obtain ⟨f, fd, h1, h2, h3, h4⟩ := F
  exact v_call h1 hG.up hgd hr h2 h3 h4 ha hg hdb he hpl
theorem v_callKX {x : Str} {p pos : Pos} {kws : List Keyword} {ks : List Str} {is : List Nat} {fa : SA} (F : KnK X.prog X.w X.K X.mg X.base k x ps ks is S) (hG : IsLst c) (hgd : X.A.guards = some []) (hr : Room k X.A) (ha : PKd X c kws fa)
    (hn : kws.length = ks.length := by rfl) (hg : Gl X x := by rfl) (hdb : (x == ("__debug__" : Str)) = false := by decide) (hall : (backToKw pos (keywordEach kws X.env)).all (·.1.isSome) = true := by rfl) (hks : (backToKw pos (keywordEach kws X.env)).filterMap (·.1) = ks := by rfl)
    (hpl : ((backTo pos (starEach [] X.env)).any (·.1) || (backToKw pos (keywordEach kws X.env)).any (·.1.isNone)) = false := by rfl) :
    PV X c (.Call (.Name x p) [] kws pos) (fCallK S is fa) := by
  obtain ⟨f, fd, h1, h2, h3, h4⟩ := F
  exact v_callK h1 hG.up hgd hr h2 h3 h4 ha hn hg hdb hall hks hpl
/-- freeze, whether it is one's own or shared already -/
def fFrz (i : Nat) (f : SS) : SS := fun D ρ => match lk ρ i with | .ow ds => f D (ρ.set i (.sh (.list ds))) | .sh _ => f D ρ | _ => False
theorem s_frz (i : Nat) {st : Stmt} {f : SS} (h : PSd X c st f) : PSd X c st (fFrz i f) := by
  have h2 := s_freeze i h
  refine ⟨fun D D' ρ l q => ?_, ⟨fun pins s σ H D I ⟨B, ρ, ok, q⟩ => ?_⟩⟩
  · unfold fFrz at q ⊢
    split at q <;> first | exact q.elim | exact h.mono _ _ _ l q
  · unfold fFrz at q
    cases e : lk ρ i with
    | ow ds =>
      rw [e] at q
      refine h2.ps.run pins s σ H D I ⟨B, ρ, ok, ?_⟩
      unfold fFreeze
      rw [e]; exact q
    | sh d =>
      rw [e] at q
      exact h.ps.run pins s σ H D I ⟨B, ρ, ok, q⟩
    | un => rw [e] at q; exact q.elim
    | bg => rw [e] at q; exact q.elim
    | ex x => rw [e] at q; exact q.elim
end
/-! ### specs -/
/-- n arguments; what they must be; what comes back -/
def sp (n : Nat) (pre : List Sl → Prop) (R : List Sl → D → Prop) : Spec := fun ss Q => ss.length = n ∧ pre ss ∧ ∀ d, R ss d → Q d
theorem sp_mono {n : Nat} {pre : List Sl → Prop} {R : List Sl → D → Prop} : ∀ ss (Q Q' : D → Prop), (∀ d, Q d → Q' d) → sp n pre R ss Q → sp n pre R ss Q' := fun ss Q Q' k h => ⟨h.1, h.2.1, fun d r => k d (h.2.2 d r)⟩
theorem sp_len {n : Nat} {pre : List Sl → Prop} {R : List Sl → D → Prop} : ∀ ss (Q : D → Prop), sp n pre R ss Q → ss.length = n := fun ss Q h => h.1
/-! ### reading what a suite does -/
theorem at0 {α : Type} (a : α) (r : List α) : atI (a :: r) 0 = some a := by
  unfold atI ixN
  rw [if_pos (by omega), if_pos (by rw [List.length_cons]; omega)]
  rfl
theorem at1 {α : Type} (a b : α) (r : List α) : atI (a :: b :: r) 1 = some b := by
  unfold atI ixN
  rw [if_pos (by omega), if_pos (by rw [List.length_cons, List.length_cons]; omega)]
  rfl
theorem at2 {α : Type} (a b c : α) (r : List α) : atI (a :: b :: c :: r) 2 = some c := by
  unfold atI ixN
  rw [if_pos (by omega), if_pos (by simp only [List.length_cons]; omega)]
  rfl
theorem at3 {α : Type} (a b c d : α) (r : List α) : atI (a :: b :: c :: d :: r) 3 = some d := by
  unfold atI ixN
  rw [if_pos (by omega), if_pos (by simp only [List.length_cons]; omega)]
  rfl
theorem at4 {α : Type} (a b c d e : α) (r : List α) : atI (a :: b :: c :: d :: e :: r) 4 = some e := by
  unfold atI ixN
  rw [if_pos (by omega), if_pos (by simp only [List.length_cons]; omega)]
  rfl
theorem ix0 (n : Nat) : ixN (n + 1) 0 = some 0 := by
  unfold ixN
  rw [if_pos (by omega), if_pos (by omega)]; rfl
theorem ix1 (n : Nat) : ixN (n + 2) 1 = some 1 := by
  unfold ixN
  rw [if_pos (by omega), if_pos (by omega)]; rfl
theorem ix2 (n : Nat) : ixN (n + 3) 2 = some 2 := by
  unfold ixN
  rw [if_pos (by omega), if_pos (by omega)]; rfl
theorem ix3 (n : Nat) : ixN (n + 4) 3 = some 3 := by
  unfold ixN
  rw [if_pos (by omega), if_pos (by omega)]; rfl
theorem lg2 : ((2 : Int).natAbs.log2 < 9000) = True := eq_true (by decide)
theorem lk_z (s : Sl) (r : Env) : lk (s :: r) 0 = s := rfl
theorem lk_s (s : Sl) (r : Env) (i : Nat) : lk (s :: r) (i + 1) = lk r i := rfl
theorem ifS {f g : SS} {b : Bool} {D : En} {ρ : Env} (h1 : b = true → f D ρ) (h2 : b = false → g D ρ) : (if b = true then f D ρ else g D ρ) := by
  cases b with
  | true => exact h1 rfl
  | false => exact h2 rfl
/-- if x == '..': .. , not taken -/
theorem skip_str {i : Nat} {x y : Str} {A B : SS} {E : En} {ρ : Env} (h : lk ρ i = .sh (.str y)) (ne : ¬ y = x) (k : B E ρ) : fSeqS (fIfS (fCmp gEq (fN i) (fC (.str x))) A fNext) B E ρ := by
  simp only [fSeqS, fIfS, fCmp, fN, h, fC, gEq, decide_eq_false ne, fNext]
  rw [if_neg (by decide)]
  exact k
theorem take_str {i : Nat} {x : Str} {A B : SS} {E : En} {ρ : Env} (h : lk ρ i = .sh (.str x)) (k : A { E with nx := B E } ρ) : fSeqS (fIfS (fCmp gEq (fN i) (fC (.str x))) A fNext) B E ρ := by
  simp only [fSeqS, fIfS, fCmp, fN, h, fC, gEq, decide_true, if_true]
  exact k
/-- a loop by an invariant: m falls -/
theorem while_of {t : ST} {body : SS} {E : En} (I : Nat → Env → Prop) (turn : ∀ m ρ, I m ρ → ∀ K : Env → Prop, (∀ m' ρ', m' < m → I m' ρ' → K ρ') → t ρ fun b => if b = true then body (loopE K E) ρ else E.nx ρ) (m : Nat) (ρ : Env) (h : I m ρ) : fWhile t body E ρ := by
  have key : ∀ n m ρ, m < n → I m ρ → fWhN t body n E ρ := by
    intro n
    induction n with
    | zero => intro m ρ l; omega
    | succ n ih => exact fun m ρ l h => turn m ρ h (fWhN t body n E) fun m' ρ' l' h' => ih m' ρ' (by omega) h'
  exact ⟨m + 1, key (m + 1) m ρ (Nat.lt_succ_self m) h⟩
/-- a for by an invariant of what is left -/
theorem for_of {g : GT} {body : SS} {E : En} (I : List D → Env → Prop) (turn : ∀ d ds ρ, I (d :: ds) ρ → ∀ K : Env → Prop, (∀ ρ', I ds ρ' → K ρ') → g d ρ fun ρ' => body (loopE K E) ρ') (last : ∀ ρ, I [] ρ → E.nx ρ) : ∀ ds ρ, I ds ρ → fFor g body ds E ρ
  | [], ρ, h => last ρ h
  | d :: ds, ρ, h => turn d ds ρ h (fFor g body ds E) fun ρ' h' => for_of I turn last ds ρ' h'
theorem rng_succ (lo : Int) (n : Nat) : rng lo (n + 1) = .int lo :: rng (lo + 1) n := by
  unfold rng
  rw [List.range_succ_eq_map, List.map_cons, List.map_map]
  congr 1
  · simp
  · refine List.map_congr_left fun i _ => ?_
    simp only [Function.comp]
    congr 1
    omega
/-- a for over a range -/
theorem for_rng {g : GT} {body : SS} {E : En} (I : Int → Env → Prop) : ∀ (n : Nat) (lo : Int) (ρ : Env), (∀ i ρ, lo ≤ i → i < lo + n → I i ρ → ∀ K : Env → Prop, (∀ ρ', I (i + 1) ρ' → K ρ') → g (.int i) ρ fun ρ' => body (loopE K E) ρ') → (∀ ρ, I (lo + n) ρ → E.nx ρ) → I lo ρ → fFor g body (rng lo n) E ρ
  | 0, lo, ρ, _, last, h => last ρ (by simpa using h)
  | n + 1, lo, ρ, turn, last, h => by
    rw [rng_succ]
    exact turn lo ρ (Int.le_refl _) (by omega) h (fFor g body (rng (lo + 1) n) E) fun ρ' h' => for_rng I n (lo + 1) ρ' (fun i ρ a b => turn i ρ (by omega) (by omega)) (fun ρ h => last ρ (by
      have e : lo + 1 + (n : Int) = lo + ((n + 1 : Nat) : Int) := by omega
      rw [← e]; exact h)) h'
theorem lc_of {g : GT} {t : ST} {e : SE} {ρ : Env} (I : List D → (List D → Prop) → Prop) (turn : ∀ d ds Q, I (d :: ds) Q → ∀ K : (List D → Prop) → Prop, (∀ Q', I ds Q' → K Q') → g d ρ fun ρ1 => t ρ1 fun b => if b = true then e ρ1 fun y => K fun ys => Q (y :: ys) else K Q) (last : ∀ Q, I [] Q → Q []) : ∀ ds Q, I ds Q → lcRun g t e ρ ds Q
  | [], Q, h => last Q h
  | d :: ds, Q, h => turn d ds Q h (fun Q' => lcRun g t e ρ ds Q') fun Q' h' => lc_of I turn last ds Q' h'
end DL
namespace DL
open PySem L2 PySem.Spec PyProof.Rows
/-! ### from the head's facts -/
theorem fun_of {K : PySem.W.Frag} {x : Str} {st : Stmt} {f : Addr} {fd : FuncData} (F : FunD K x x (defArgs st) (defBody st) (defScope st) [] [] f fd) : Fun K x x st f fd := by
  obtain ⟨⟨oc, od, dV, kV, doc, pm, an, cdv, ct, osl, e, lk, hcd, hD, hK⟩, kp⟩ := F
  rcases hD with ⟨_, rfl⟩ | ⟨z, _⟩
  · exact ⟨⟨oc, od, kV, doc, pm, an, cdv, ct, osl, e, lk, hcd⟩, kp⟩
  · exact absurd rfl z
abbrev XX (P : Program) (w : World) (K : PySem.W.Frag) (mg : Str → Option Value) (base : Heap) (N : List Str) (qual : Str) (st : Stmt) (f : Addr) (cdv : Value) (A : Around) (outer : List PySem.Env) (s : Shared) (H : Hp) : Cx :=
  (cxOf CX0 P w K mg base N qual (defScope st) f cdv A outer s H E0).nox
theorem kwb_of {K : PySem.W.Frag} {x qual : Str} {st : Stmt} {f : Addr} {fd : FuncData} {ps ks : List Str} {is : List Nat} (F : Fun K x qual st f fd)
    (h : ∀ (kV doc pm : Value) (an : Option Addr) (cdv ct : Value) (ws : List Value), ws.length = ks.length → bindArgs (PySem.W.fnOf x qual (defArgs st) (defBody st) (defScope st) .none kV doc pm an cdv ct) ⟨[], ks.zip ws⟩ = pure (ps.zip (perm is ws))) : KwB K fd ps ks is := by
  obtain ⟨oc, od, kV, doc, pm, an, cdv, ct, osl, rfl, lk, hcd⟩ := F.ex
  exact ⟨fun s ws _ hl => .of_eq (h kV doc pm an cdv ct ws hl)⟩
theorem Kn.mk {P : Program} {w : World} {K : PySem.W.Frag} {mg : Str → Option Value} {base : Heap} {k : Nat} {x : Str} {ps : List Str} {S : Spec} {f : Addr} {fd : FuncData} (h : FnG IsLst P w K mg base k f fd ps S) (h1 : mg x = some (.ref f)) (h2 : PySem.W.keepIn K (.ref f) = true) (h3 : Binds K fd ps []) : Kn P w K mg base k x ps S := ⟨f, fd, h, h1, h2, h3⟩
theorem KnK.mk {P : Program} {w : World} {K : PySem.W.Frag} {mg : Str → Option Value} {base : Heap} {k : Nat} {x : Str} {ps ks : List Str} {is : List Nat} {S : Spec} {f : Addr} {fd : FuncData} (h : FnG IsLst P w K mg base k f fd ps S) (h1 : mg x = some (.ref f)) (h2 : PySem.W.keepIn K (.ref f) = true) (h3 : KwB K fd ps ks is) : KnK P w K mg base k x ps ks is S := ⟨f, fd, h, h1, h2, h3⟩
theorem units_of {A : Around} {k : Nat} (hr : Room k A) : A.units + 64 < cLine := by
  have := hr.un
  omega
abbrev fForS (fi : SI) (g : GT) (f : SS) : SS := fun D ρ => fi ρ fun ds => fFor g f ds D ρ
end DL
namespace DL
open PySem L2 PySem.Spec PyProof.Rows
/-! ### data of a small size: may be shown and compared -/
/-- nesting at most n, shown in at most w signs -/
structure Ni (n w : Nat) (d : D) : Prop where
  sh : d.showable = true
  nd : d.hasDict = false
  cl : d.canLay0 = true
  dp : d.depth ≤ n
  wt : d.shown.length ≤ w
structure NiA (n w : Nat) (ds : List D) : Prop where
  sh : PyData.showableAll ds = true
  nd : PyData.hasDictAll ds = false
  cl : PyData.canLayAll0 ds = true
  dp : PyData.depthAll ds ≤ n
  wt : ((PyData.shownAll ds).map (·.length)).sum + 2 * (PyData.shownAll ds).length ≤ w
theorem Ni.le {n w m v : Nat} {d : D} (h : Ni n w d) (a : n ≤ m) (b : w ≤ v) : Ni m v d := ⟨h.sh, h.nd, h.cl, Nat.le_trans h.dp a, Nat.le_trans h.wt b⟩
theorem NiA.nil {n w : Nat} : NiA n w [] := ⟨rfl, rfl, rfl, by simp [PyData.depthAll], by simp [PyData.shownAll]⟩
theorem NiA.cons {n w v : Nat} {d : D} {ds : List D} (h : Ni n w d) (k : NiA n v ds) : NiA n (w + 2 + v) (d :: ds) :=
  ⟨by simp [PyData.showableAll, h.sh, k.sh], by simp [PyData.hasDictAll, h.nd, k.nd], by simp [PyData.canLayAll0, h.cl, k.cl],
    by have := h.dp; have := k.dp; simp only [PyData.depthAll]; omega, by have := h.wt; have := k.wt; simp only [PyData.shownAll, List.map_cons, List.sum_cons, List.length_cons]; omega⟩
theorem NiA.le {n w m v : Nat} {d : List D} (h : NiA n w d) (a : n ≤ m) (b : w ≤ v) : NiA m v d := ⟨h.sh, h.nd, h.cl, Nat.le_trans h.dp a, Nat.le_trans h.wt b⟩
theorem NiA.all {n w : Nat} : ∀ {ds : List D}, (∀ d ∈ ds, Ni n w d) → NiA n (ds.length * (w + 2)) ds
  | [], _ => NiA.nil
  | d :: ds, h => (NiA.cons (h d List.mem_cons_self) (NiA.all fun e he => h e (List.mem_cons_of_mem _ he))).le (Nat.le_refl _) (by rw [List.length_cons, Nat.succ_mul]; omega)
theorem Ni.list {n w : Nat} {ds : List D} (h : NiA n w ds) : Ni (n + 1) (w + 3) (.list ds) :=
  ⟨by simp [PyData.showable, h.sh], by simp [PyData.hasDict, h.nd], by simp [PyData.canLay0, h.cl], by have := h.dp; simp only [PyData.depth]; omega, by
    have := h.wt
    have := listText_len_le (PyData.shownAll ds)
    simp only [PyData.shown]
    omega⟩
theorem Ni.tup {n w : Nat} {ds : List D} (h : NiA n w ds) : Ni (n + 1) (w + 3) (.tuple ds) :=
  ⟨by simp [PyData.showable, h.sh], by simp [PyData.hasDict, h.nd], by simp [PyData.canLay0, h.cl], by have := h.dp; simp only [PyData.depth]; omega, by
    have := h.wt
    have := tupleText_len_le (PyData.shownAll ds)
    simp only [PyData.shown]
    omega⟩
theorem log2_lt {n k : Nat} (hk : 0 < k) (h : n < 2 ^ k) : n.log2 < k := by
  by_cases z : n = 0
  · subst z; rw [Nat.log2_zero]; exact hk
  · exact (Nat.log2_lt z).mpr h
theorem pow_1900 : (2 : Nat) ^ 1900 ≤ 10 ^ 590 := by decide +kernel
theorem Ni.int {i : Int} (h : i.natAbs < 2 ^ 1900) : Ni 0 600 (.int i) := by
  have h10 : i.natAbs < 10 ^ 590 := Nat.lt_of_lt_of_le h pow_1900
  have hl := log2_lt (by decide) h
  have e := int_text_length_le10 (k := 590) (by decide) h10
  clear h h10
  refine ⟨?_, rfl, rfl, by simp [PyData.depth], ?_⟩
  · simp only [PyData.showable, decide_eq_true_eq]
    exact Nat.lt_trans hl (by decide)
  · simp only [PyData.shown]
    rw [PySem.ofString_length]
    omega
theorem Ni.bool (b : Bool) : Ni 0 5 (.bool b) := ⟨rfl, rfl, rfl, by simp [PyData.depth], by cases b <;> decide⟩
theorem Ni.none : Ni 0 4 .none := ⟨rfl, rfl, rfl, by simp [PyData.depth], by decide⟩
theorem Ni.str {x : Str} {w : Nat} (h : (PyData.shown (.str x)).length ≤ w := by decide +kernel) (k : PyData.canLay0 (.str x) = true := by decide +kernel) : Ni 0 w (.str x) :=
  ⟨rfl, rfl, k, by simp [PyData.depth], h⟩
theorem Ni.shaped {n w : Nat} {d : D} (h : Ni n w d) (hn : n ≤ 60) : SeqAt.shaped d = true := by
  unfold SeqAt.shaped
  rw [h.cl, Bool.true_and, decide_eq_true_eq]
  have := h.dp
  omega
theorem Ni.repr {n w : Nat} {d : D} (h : Ni n w d) (hn : n ≤ 60) (hw : w ≤ 16777216) {Q : D → Prop} (q : Q (.str d.shown)) : bRepr [d] Q := ⟨h.sh, h.nd, by rw [sizeLine_eq]; exact Nat.le_trans h.wt hw, Nat.le_trans h.dp hn, q⟩
theorem Ni.eq {n w : Nat} {d : D} (h : Ni n w d) (hn : n ≤ 60) {Q : Bool → Prop} (q : Q true) : gEq d d Q := by
  have gen : SeqAt.shaped d = true ∧ SeqAt.shaped d = true ∧ Q (PyData.eqv d d) := ⟨h.shaped hn, h.shaped hn, by rw [SeqAt.eqv_refl d h.cl]; exact q⟩
  cases d with
  | int i => show Q (decide (i = i)); simpa using q
  | str i => show Q (decide (i = i)); simpa using q
  | bool i => show Q (decide (i = i)); simpa using q
  | none => exact gen
  | list ds => exact gen
  | tuple ds => exact gen
  | dict ds => exact gen
end DL
namespace DL
open PySem L2 PySem.Spec PyProof.Rows
/-! ### sizes -/
def Sm (k : Nat) (i : Int) : Prop := i.natAbs < 2 ^ k
theorem Sm.le {k l : Nat} {i : Int} (h : Sm k i) (hl : k ≤ l) : Sm l i := Nat.lt_of_lt_of_le h (Nat.pow_le_pow_right (by decide) hl)
theorem Sm.neg {k : Nat} {i : Int} (h : Sm k i) : Sm k (-i) := by unfold Sm at *; rw [Int.natAbs_neg]; exact h
theorem Sm.add {k : Nat} {i j : Int} (h : Sm k i) (h' : Sm k j) : Sm (k + 1) (i + j) := by
  unfold Sm at *
  have := Int.natAbs_add_le i j
  rw [Nat.pow_succ]
  omega
theorem Sm.sub {k : Nat} {i j : Int} (h : Sm k i) (h' : Sm k j) : Sm (k + 1) (i - j) := by
  have := Sm.add h h'.neg
  rwa [← Int.sub_eq_add_neg] at this
theorem Sm.mul {k l : Nat} {i j : Int} (h : Sm k i) (h' : Sm l j) : Sm (k + l) (i * j) := by
  unfold Sm at *
  rw [Int.natAbs_mul, Nat.pow_add]
  exact Nat.mul_lt_mul'' h h'
theorem Sm.nat {k : Nat} {i : Int} (h0 : 0 ≤ i) (h : i < 2 ^ k) : Sm k i := by
  unfold Sm
  have e : ((i.natAbs : Nat) : Int) < ((2 ^ k : Nat) : Int) := by
    rw [Int.natAbs_of_nonneg h0]
    exact_mod_cast h
  exact_mod_cast e
theorem Sm.abs {k : Nat} {i : Int} (h : Sm k i) : Sm k (if i < 0 then -i else i) := by
  split
  · exact h.neg
  · exact h
theorem Sm.mulw {k l : Nat} {i j : Int} (h : Sm k i) (h' : Sm l j) (hs : k + l + 2 ≤ 1000000 := by omega) : CMulW i j :=
  wide_mul (a := k + 1) (b := l + 1) (h.le (Nat.le_succ k)) (h'.le (Nat.le_succ l)) (by omega) (by omega) (by omega)
theorem Sm.log {k : Nat} {i : Int} (h : Sm k i) (hk : k < 9000 := by omega) : i.natAbs.log2 < 9000 := by
  have := log2_lt (k := k + 1) (by omega) (h.le (Nat.le_succ k))
  omega
/-- divided by a positive number -/
theorem Sm.div {k : Nat} {i g : Int} (h : Sm k i) (hg : 0 < g) : Sm k (i / g) := by
  unfold Sm at *
  have h1 : (i / g).natAbs ≤ i.natAbs := by
    have e1 := Int.ediv_mul_le i (Int.ne_of_gt hg)
    have e2 := Int.lt_ediv_add_one_mul_self i hg
    by_cases z : 0 ≤ i
    · have : 0 ≤ i / g := Int.ediv_nonneg z (Int.le_of_lt hg)
      have : i / g ≤ i := Int.ediv_le_self g z
      omega
    · have n : i / g < 0 := Int.ediv_neg_of_neg_of_pos (by omega) hg
      have q := Int.mul_le_mul_of_nonneg_left (a := 1) (b := g) (c := -i) (by omega) (by omega)
      rw [Int.mul_one, Int.neg_mul] at q
      have : i ≤ i / g := Int.le_ediv_of_mul_le hg (by omega)
      omega
  omega
theorem Sm.emod {k : Nat} {i g : Int} (hg : 0 < g) (h : Sm k g) : Sm k (i % g) := by
  unfold Sm at *
  have := Int.emod_nonneg i (Int.ne_of_gt hg)
  have := Int.emod_lt_of_pos i hg
  omega
/-! ### gcd -/
theorem gcd_fmod (i j : Int) : Int.gcd j (i.fmod j) = Int.gcd i j := by
  rw [Int.fmod_def, Int.gcd_comm i j]
  have : i - j * i.fdiv j = i + j * (-(i.fdiv j)) := by rw [Int.mul_neg]; omega
  rw [this]
  simp
theorem gcd_emod (i j : Int) : Int.gcd j (i % j) = Int.gcd i j := by
  rw [Int.emod_def, Int.gcd_comm i j]
  have : i - j * (i / j) = i + j * (-(i / j)) := by rw [Int.mul_neg]; omega
  rw [this]
  simp
/-! ### whole roots -/
def Rt (n s : Int) : Prop := 0 ≤ s ∧ s * s ≤ n ∧ n < (s + 1) * (s + 1)
theorem sq_exp (s : Int) : (s + 1) * (s + 1) = s * s + 2 * s + 1 := by
  rw [Int.add_mul, Int.mul_add, Int.mul_one, Int.one_mul]; omega
theorem rt_ex (n : Nat) : ∃ s, Rt n s := by
  induction n with
  | zero => exact ⟨0, by decide, by decide, by decide⟩
  | succ n ih =>
    obtain ⟨s, h0, h1, h2⟩ := ih
    by_cases h : ((n + 1 : Nat) : Int) < (s + 1) * (s + 1)
    · exact ⟨s, h0, by omega, h⟩
    · refine ⟨s + 1, by omega, by omega, ?_⟩
      have := sq_exp (s + 1)
      omega
theorem rt_of {n : Int} (h : 0 ≤ n) : ∃ s, Rt n s := by
  obtain ⟨s, hs⟩ := rt_ex n.toNat
  rw [Int.toNat_of_nonneg h] at hs
  exact ⟨s, hs⟩
theorem sq_le {a b : Int} (h0 : 0 ≤ a) (h : a ≤ b) : a * a ≤ b * b := Int.mul_le_mul h h h0 (by omega)
theorem rt_unique {n s t : Int} (h : Rt n s) (k : Rt n t) : s = t := by
  apply Classical.byContradiction
  intro c
  rcases Int.lt_or_gt_of_ne c with c | c
  · have := sq_le (a := s + 1) (b := t) (by have := h.1; omega) (by omega)
    have := h.2.2
    have := k.2.1
    omega
  · have := sq_le (a := t + 1) (b := s) (by have := k.1; omega) (by omega)
    have := k.2.2
    have := h.2.1
    omega
theorem rt_sq {n s r : Int} (h : Rt n s) (hr : 0 ≤ r) (e : r * r = n) : s = r := rt_unique h ⟨hr, by omega, by have := sq_exp r; omega⟩
/-- the mean is no less than the root -/
theorem rt_up {n s r : Int} (h : Rt n s) (hr : 0 < r) : s ≤ (r + n / r) / 2 := by
  obtain ⟨h0, h1, h2⟩ := h
  apply Classical.byContradiction
  intro c
  have c1 : r + n / r ≤ 2 * s - 1 := by omega
  have q : n < (n / r + 1) * r := Int.lt_ediv_add_one_mul_self n hr
  have le : n / r + 1 ≤ 2 * s - r := by omega
  have m := Int.mul_le_mul_of_nonneg_right le (Int.le_of_lt hr)
  have e : (2 * s - r) * r = s * s - (s - r) * (s - r) := by
    rw [Int.sub_mul, Int.sub_mul, Int.mul_sub, Int.mul_sub, Int.mul_assoc, Int.mul_comm r s]; omega
  have sq : 0 ≤ (s - r) * (s - r) := by
    rcases Int.le_total 0 (s - r) with z | z
    · exact Int.mul_nonneg z z
    · have := Int.mul_nonneg (a := -(s - r)) (b := -(s - r)) (by omega) (by omega)
      rwa [Int.neg_mul_neg] at this
  omega
theorem rt_quot {n s r : Int} (h : Rt n s) (hr : s < r) : n / r ≤ s := by
  obtain ⟨h0, h1, h2⟩ := h
  have m := Int.mul_le_mul_of_nonneg_left (a := s + 1) (b := r) (c := s + 1) (by omega) (by omega)
  have : n / r < s + 1 := Int.ediv_lt_of_lt_mul (by omega) (by omega)
  omega
/-- where it does not fall the root is reached -/
theorem rt_stop {n s r : Int} (h : Rt n s) (hr : 0 < r) (hs : s ≤ r) (k : r ≤ (r + n / r) / 2) : r = s := by
  apply Classical.byContradiction
  intro c
  have := rt_quot h (r := r) (by omega)
  omega
theorem rt_half {n s r : Int} (h : Rt n s) (hs : s < r) : 2 * ((r + n / r) / 2 - s) ≤ r - s := by
  have := rt_quot h hs
  omega
theorem rt_pos {n s : Int} (h : Rt n s) (hn : 2 ≤ n) : 0 < s := by
  apply Classical.byContradiction
  intro c
  have e : s = 0 := by have := h.1; omega
  have := h.2.2
  rw [e] at this
  omega
theorem bits_lt (n : Nat) : n < 2 ^ (Builtin.Int.intBits (n : Int)) := by
  unfold Builtin.Int.intBits
  by_cases z : n = 0
  · subst z; decide
  · have : ((n : Int) == 0) = false := by simp; omega
    first
      | (rw [this]; simp only [Bool.false_eq_true, if_false, Int.natAbs_natCast]; exact Nat.lt_log2_self)
      | (simp only [Int.natAbs_natCast]; split <;> first | omega | exact Nat.lt_log2_self)
      | (simp only [Int.natAbs_natCast]; exact Nat.lt_log2_self)
theorem bits_le {n : Nat} {k : Nat} (hk : 0 < k) (h : n < 2 ^ k) : Builtin.Int.intBits (n : Int) ≤ k := by
  have l := log2_lt hk h
  unfold Builtin.Int.intBits
  first
    | (split <;> simp_all <;> omega)
    | (simp only [Int.natAbs_natCast]; omega)
/-- the first guess is above the root -/
theorem rt_first {n : Nat} {s : Int} (h : Rt n s) (b : Nat) (hb : Builtin.Int.intBits (n : Int) ≤ 2 * b) : s < 2 ^ b := by
  have e := Nat.lt_of_lt_of_le (bits_lt n) (Nat.pow_le_pow_right (by decide : 0 < 2) hb)
  apply Classical.byContradiction
  intro c
  have c : (2 : Int) ^ b ≤ s := by omega
  have p : (0 : Int) ≤ 2 ^ b := Int.le_of_lt (Int.pow_pos (by decide))
  have m := sq_le p c
  have e2 : ((n : Nat) : Int) < (2 : Int) ^ b * 2 ^ b := by
    rw [← Int.pow_add]
    have : b + b = 2 * b := by omega
    rw [this]
    exact_mod_cast e
  have := h.2.1
  omega
end DL
namespace DL
open PySem L2 PySem.Spec PyProof.Rows
/-! ### a tuple, taken k times -/
theorem tuple_mul0 (l : Addr) (items : Array Value) (n : Nat) (dd : Option Addr) (sl : Array (Option Value)) (x : Int) (u : Tok) (c0 : (decide (x < -(2 ^ 63)) || decide (x ≥ 2 ^ 63)) = false) (c1 : (items.isEmpty || x == 1) = false) (c2 : (decide (x ≤ 0) || items.isEmpty) = true) :
    Meets (Builtin.«tuple.__mul__» ⟨[.ref l, .int x u], []⟩) (fun _ R s => s.heap.get? l = some { cls := .type "tuple", dict := dd, data := .seq items n, slots := sl } ∧
      R (.ok (.ret (Value.ref s.heap.objs.size))) { s with heap := s.heap.push { cls := Value.type "tuple", data := Data.seq #[] }, toks := s.toks }) :=
  .of_wp fun prog w A R s h => by
    obtain ⟨hp, g, d, tk, os⟩ := s
    obtain ⟨hl, h⟩ := h
    have f1 := AutoSeq1.idx_int
    wp_walk using wpAny_loadPart' hl
    repeat (first
      | (refine wpAny_ite_false (decide_eq_false (by rw [c0]; exact Bool.false_ne_true)) ?_; wp_walk using wpAny_loadPart' hl)
      | (refine wpAny_ite_false (decide_eq_false (by rw [c1]; exact Bool.false_ne_true)) ?_; wp_walk using wpAny_loadPart' hl)
      | (refine wpAny_ite_true (decide_eq_true c2) ?_; wp_walk using wpAny_loadPart' hl))
    exact ⟨_, rfl, h⟩
theorem tuple_mul1 (l : Addr) (items : Array Value) (n : Nat) (dd : Option Addr) (sl : Array (Option Value)) (x : Int) (u : Tok) (c0 : (decide (x < -(2 ^ 63)) || decide (x ≥ 2 ^ 63)) = false) (c1 : (items.isEmpty || x == 1) = true) :
    Meets (Builtin.«tuple.__mul__» ⟨[.ref l, .int x u], []⟩) (fun _ R s => s.heap.get? l = some { cls := .type "tuple", dict := dd, data := .seq items n, slots := sl } ∧
      R (.ok (.ret (Value.ref l))) s) :=
  .of_wp fun prog w A R s h => by
    obtain ⟨hp, g, d, tk, os⟩ := s
    obtain ⟨hl, h⟩ := h
    have f1 := AutoSeq1.idx_int
    wp_walk using wpAny_loadPart' hl
    repeat (first
      | (refine wpAny_ite_false (decide_eq_false (by rw [c0]; exact Bool.false_ne_true)) ?_; wp_walk using wpAny_loadPart' hl)
      | (refine wpAny_ite_true (decide_eq_true c1) ?_; wp_walk using wpAny_loadPart' hl))
    exact ⟨_, rfl, h⟩
section
variable {X : Cx} {c : C}
def rRep01 (K : PySem.W.Frag) : R2 := fun x y H Q => ∃ l k xs, x = .ref l ∧ y = .int k ∧ SqT K H l xs ∧ xs ≠ [] ∧ ((k = 0 ∧ ∀ p, H p = none → Q (.ref p) (upd H p (.tup []))) ∨ (k = 1 ∧ Q (.ref l) H))
theorem op_rep01 : OpR X (binaryOp .Mult) (rRep01 X.K) := by
  intro pins s σ H x y v u Q I rx ry h
  obtain ⟨l, k, xs, rfl, rfl, hT, hne, h⟩ := h
  cases rx
  obtain ⟨t, rfl⟩ := ry
  obtain ⟨its, r, ⟨⟨cls, dd, data, sl⟩, ho, hc, n, hd⟩, hs⟩ := I.tuple hT
  simp only at hc hd
  subst hc hd
  have hle : its.length = xs.length := r.length.symm
  have hn : its ≠ [] := fun e => hne (by
    rw [e] at hle
    exact List.eq_nil_of_length_eq_zero hle.symm)
  have hi : its.toArray.isEmpty = false := by
    cases its with
    | nil => exact absurd rfl hn
    | cons a b => rfl
  rcases h with ⟨rfl, q⟩ | ⟨rfl, q⟩
  · refine wpAny_binaryOp_repeat_ref (T := "tuple") (U := "int") (by decide) ⟨_, ho, rfl⟩ (fun s' => typeIs_int s' 0 t) noFill_tuple_mul F.fills_int_mul F.slot_int_rmul repeat_tuple F.slot_int_index.lookup
      (call_meets F.slot_int_rmul (typeIs_int s 0 t) F.entry_int_rmul (F.args_int_rmul_2 _ _) (int_rmul_tuple 0 t l its.toArray n dd sl)
        ⟨ho, rfl, ⟨_, ho, rfl⟩, call_meets F.slot_tuple_mul ⟨_, ho, rfl⟩ F.entry_tuple_mul (F.args_tuple_mul_2 _ _) (tuple_mul0 l its.toArray n dd sl 0 t rfl (by rw [hi]; rfl) rfl) ⟨ho, ?_⟩⟩)
    refine ⟨.ref s.heap.objs.size, _, I.laid (t' := s.toks) (o := .tup []) (fun b ob q => Heap.get?_push_of_some _ q) (Nat.le_refl _) ?_, rfl, q _ (I.hok.fresh (Nat.le_refl _))⟩
    exact ⟨Nat.zero_le _, [], .nil, IsTup.new _ _⟩
  · refine wpAny_binaryOp_repeat_ref (T := "tuple") (U := "int") (by decide) ⟨_, ho, rfl⟩ (fun s' => typeIs_int s' 1 t) noFill_tuple_mul F.fills_int_mul F.slot_int_rmul repeat_tuple F.slot_int_index.lookup
      (call_meets F.slot_int_rmul (typeIs_int s 1 t) F.entry_int_rmul (F.args_int_rmul_2 _ _) (int_rmul_tuple 1 t l its.toArray n dd sl)
        ⟨ho, rfl, ⟨_, ho, rfl⟩, call_meets F.slot_tuple_mul ⟨_, ho, rfl⟩ F.entry_tuple_mul (F.args_tuple_mul_2 _ _) (tuple_mul1 l its.toArray n dd sl 1 t rfl (by rw [hi]; rfl)) ⟨ho, ?_⟩⟩)
    exact ⟨.ref l, H, I, rfl, q⟩
def gRepT : G2 | .tuple ds, .int k, Q => ds ≠ [] ∧ 0 ≤ k ∧ k ≤ 1000 ∧ ds.length ≤ 1000 ∧ Q (.tuple (List.replicate k.toNat ds).flatten) | _, _, _ => False
theorem m_RepT : MonoG gRepT := fun d e Q Q' k h => by
  cases d <;> cases e <;> first | exact h.elim | exact ⟨h.1, h.2.1, h.2.2.1, h.2.2.2.1, k _ h.2.2.2.2⟩
theorem rpa_rep {B : Hp} {xs : List V} {ds : List D} (h : RpA B xs ds) : ∀ k : Nat, RpA B (List.replicate k xs).flatten (List.replicate k ds).flatten
  | 0 => .nil
  | k + 1 => by
    rw [List.replicate_succ, List.replicate_succ, List.flatten_cons, List.flatten_cons]
    exact rpa_app h (rpa_rep h k)
theorem o_repT : OpD X c (binaryOp .Mult) gRepT := by
  refine ⟨m_RepT, fun pins s σ H x y v u Q I rx ry ⟨B, d, e, w, r1, r2, q⟩ => ?_⟩
  cases d <;> cases e <;> first | exact q.elim | skip
  rename_i ds k
  obtain ⟨q1, q2, q3, q4, q5⟩ : ds ≠ [] ∧ 0 ≤ k ∧ k ≤ 1000 ∧ ds.length ≤ 1000 ∧ ∀ v B' H', Gr c B H B' H' → Rp B' v (.tuple (List.replicate k.toNat ds).flatten) → Q v H' := q
  obtain ⟨a, xs, rfl, h1, h2⟩ := r1.tup w
  rw [r2.int] at ry
  have r1' : Rp B (.ref a) (.tuple ds) := by
    rcases r1 with r1 | ⟨_, _, _, _, e, _⟩
    · exact r1
    · cases e
  have hne : xs ≠ [] := fun z => q1 ((rpa_nil_iff h2).mp z)
  by_cases k0 : k = 0
  · subst k0
    refine op_rep01 pins s σ H _ _ v u Q I rx ry ⟨a, 0, xs, rfl, rfl, SqT.of h1, hne, .inl ⟨rfl, fun p hp => ?_⟩⟩
    exact q5 _ _ _ (Gr.new (o := .tup []) w hp) (.tup upd_same .nil)
  · by_cases k1 : k = 1
    · subst k1
      refine op_rep01 pins s σ H _ _ v u Q I rx ry ⟨a, 1, xs, rfl, rfl, SqT.of h1, hne, .inr ⟨rfl, ?_⟩⟩
      refine q5 _ B H (Gr.refl w) ?_
      have : (List.replicate (1 : Int).toNat ds).flatten = ds := by
        show (List.replicate 1 ds).flatten = ds
        simp
      rw [this]; exact r1'
    · refine op_repT pins s σ H _ _ v u Q I rx ry ⟨a, k, xs, rfl, rfl, SqT.of h1, hne, by omega, q3, by rw [rpa_len h2]; exact q4, fun p hp => ?_⟩
      have g := Gr.new (o := .tup (List.replicate k.toNat xs).flatten) w hp
      exact q5 _ _ _ g (.tup upd_same (rpa_mono g.b (rpa_rep h2 _)))
/-! ### in -/
def gIn : GC | d, .list ds, Q => SeqAt.shaped d = true ∧ SeqAt.shaped (.list ds) = true ∧ Q (ds.any fun z => PyData.eqv z d) | _, _, _ => False
def gNotIn : GC | d, .list ds, Q => SeqAt.shaped d = true ∧ SeqAt.shaped (.list ds) = true ∧ Q (!ds.any fun z => PyData.eqv z d) | _, _, _ => False
theorem m_In : MonoC gIn := fun d e Q Q' k h => by
  cases e <;> first | exact h.elim | exact ⟨h.1, h.2.1, k _ h.2.2⟩
theorem m_NotIn : MonoC gNotIn := fun d e Q Q' k h => by
  cases e <;> first | exact h.elim | exact ⟨h.1, h.2.1, k _ h.2.2⟩
theorem o_in (hu : X.A.units + 65 < cLine) : CmpD X c .In gIn := by
  refine ⟨m_In, opr_weak (op_inD hu) fun x y H Q ⟨B, d, e, w, r1, r2, q⟩ => ?_⟩
  cases e <;> first | exact q.elim | skip
  exact ⟨d, _, rp_dp (r1.rp w) (SeqAt.canLay_of_shaped q.1), rp_dp (r2.rp w) (SeqAt.canLay_of_shaped q.2.1), q.1, q.2.1, q.2.2⟩
theorem o_notIn (hu : X.A.units + 65 < cLine) : CmpD X c .NotIn gNotIn := by
  refine ⟨m_NotIn, opr_weak (op_notInD hu) fun x y H Q ⟨B, d, e, w, r1, r2, q⟩ => ?_⟩
  cases e <;> first | exact q.elim | skip
  exact ⟨d, _, rp_dp (r1.rp w) (SeqAt.canLay_of_shaped q.1), rp_dp (r2.rp w) (SeqAt.canLay_of_shaped q.2.1), q.1, q.2.1, q.2.2⟩
theorem units65 {A : Around} {k : Nat} (hr : Room k A) : A.units + 65 < cLine := by
  have := hr.un
  omega
/-! ### sorted: ints; at most one item -/
theorem perm_one {α : Type} : ∀ {b a : List α}, b.length ≤ 1 → a.Perm b → a = b
  | [], _, _, h => h.eq_nil
  | [_], _, _, h => List.perm_singleton.mp h
  | _ :: _ :: _, _, l, _ => absurd l (by simp)
theorem cr_sorted1 : CallR X (.builtin "sorted") (fun vs H Q => ∃ (a : Addr) (xs : List V), vs = [V.ref a] ∧ SqL X.K H a xs ∧ xs.length ≤ 1 ∧ ∀ p, H p = none → Q (.ref p) (upd H p (.lst xs))) := by
  intro pins s σ H vs us Q I r h
  obtain ⟨a, ns, rfl, hs, h1, q⟩ := h
  obtain ⟨its, rv, hl, hz⟩ := I.list hs
  rw [Vals.ref1 r]
  have hlen : its.length ≤ 1 := by rw [← rv.length]; exact h1
  refine Srt.sorted_any hl.isList (by rw [← rv.length]; exact hz) (fun h2 => by omega) fun out hp => ?_
  have ho : out = its := perm_one hlen hp
  subst ho
  obtain ⟨ep, he'⟩ := PyProof.Rows.sortedAll_at s.heap out out.toArray
  exact ⟨.ref _, upd H (s.heap.objs.size + 1) (.lst ns), I.laid (t' := s.toks) (fun _ _ => PyProof.Rows.sortedAll_old) (Nat.le_succ _) ⟨hz, out, ep, rv, he'⟩, rfl, q _ (I.hok.fresh (Nat.le_succ _))⟩
def fSrt (fa : SE) : SL := fun ρ Q => fa ρ fun d => match d with
  | .list ds => (∃ ns : List Int, ds = ns.map PyData.int ∧ ∀ ns' : List Int, ns'.Perm ns → ns'.Pairwise (· ≤ ·) → Q (ns'.map PyData.int)) ∨ (ds.length ≤ 1 ∧ Q ds)
  | _ => False
theorem n_sorted {e : Expr} {fa : SE} {x : Str} {p pos : Pos} (hm : X.mg x = none) (ha : PB X c e fa) (hg : Gl X x := by rfl) (hv : bootBuiltins x = some (.builtin "sorted") := by decide +kernel)
    (hn : x ≠ "__name__" := by decide) (hdb : (x == ("__debug__" : Str)) = false := by decide)
    (he : starEach [e] X.env = (false, eval e X.env) :: starEach [] X.env := by rfl) (hpl : (backTo pos (starEach [] X.env)).any (·.1) = false := by rfl) : PN X c (.Call (.Name x p) [e] [] pos) (fSrt fa) := by
  refine ⟨fun ρ Q Q' k h => ha.mono _ _ _ (fun d hd => ?_) h, pe_weak (pe_callB (r := fun vs H Q => rSortedI X.K vs H Q ∨ ∃ (a : Addr) (xs : List V), vs = [V.ref a] ∧ SqL X.K H a xs ∧ xs.length ≤ 1 ∧ ∀ p, H p = none → Q (.ref p) (upd H p (.lst xs))) (fun pins s σ H xs us Q I rv q => q.elim (cr_sortedI pins s σ H xs us Q I rv) (cr_sorted1 pins s σ H xs us Q I rv)) hg hm hv (pa_cons ha.pe pa_nil he) hn hdb he hpl) fun σ H Q ⟨B, ρ, ok, h⟩ => ⟨B, ρ, ok, ha.mono _ _ _ (fun d hd v B1 H1 g1 r1 => ?_) h⟩⟩
  · split at hd <;> first | exact hd.elim | skip
    rcases hd with ⟨ns, e1, h1⟩ | ⟨h1, h2⟩
    · exact .inl ⟨ns, e1, fun ns' a b => k _ (h1 ns' a b)⟩
    · exact .inr ⟨h1, k _ h2⟩
  · split at hd <;> first | exact hd.elim | skip
    rename_i ds
    obtain ⟨a, xs, rfl, h1, h2⟩ := r1.list g1.w
    have hL : SqL X.K H1 a xs := SqL.of h1
    rcases hd with ⟨ns, e1, hq⟩ | ⟨hlen, hq⟩
    · subst e1
      have e2 := rpa_ints h2
      subst e2
      refine .inl ⟨a, ns, rfl, hL, fun ns' l p1 p2 hl => ?_⟩
      have g2 := Gr.newO (o := .lst (ns'.map V.int)) g1.w hl
      exact hq ns' p1 p2 l _ B1 _ (g1.trans ok.w g2) (g1.back hl) (Evl.fresh_back g1.w.sub hl) upd_same (rpa_of_ints ns')
    · refine .inr ⟨a, xs, rfl, hL, by rw [rpa_len h2]; exact hlen, fun l hl => ?_⟩
      have g2 := Gr.newO (o := .lst xs) g1.w hl
      exact hq l xs B1 _ (g1.trans ok.w g2) (g1.back hl) (Evl.fresh_back g1.w.sub hl) upd_same h2
/-! ### sum of a tuple of ints -/
theorem cr_sumT (hc : X.calm = true) : CallR X (.builtin "sum") (fun vs H Q => ∃ (a : Addr) (ns : List Int), vs = [V.ref a] ∧ SqT X.K H a (ns.map V.int) ∧ Q (.int ns.sum) H) := by
  intro pins s σ H vs us Q I r h
  obtain ⟨a, ns, rfl, hs, q⟩ := h
  obtain ⟨its, rv, hl, _⟩ := I.tuple hs
  rw [Vals.ref1 r]
  have hi := rv.ints
  obtain ⟨xs, e⟩ := hi.allInts.items
  have hn : numsOf (intItems xs).toList = ns := by rw [← e]; exact hi.numsOf
  rw [nums_intItems] at hn
  have hl2 : s.heap.IsTuple a (intItems xs) := by
    rw [← e]
    obtain ⟨o, h1, h2, n, h3⟩ := hl
    exact ⟨o, h1, h2, n, h3⟩
  refine PySem.W.ktm_sumG (I.ok.hd hc) hl2 fun h' tk t' hk => ?_
  rw [preSum_eq, List.take_of_length_le (by simp), hn]
  exact ⟨.int _, H, I.kept hk, ⟨_, rfl⟩, q⟩
def bSumT : GB | [.tuple ds], Q => (match asInts ds with | some ns => Q (.int ns.sum) | none => False) | _, _ => False
theorem m_SumT : MonoB bSumT := fun ds Q Q' k h => by
  unfold bSumT at h ⊢
  split at h <;> first | exact h.elim | skip
  split at h <;> first | exact h.elim | exact k _ h
theorem c_sumT (hc : X.calm = true) : CallD X c (.builtin "sum") bSumT := ⟨m_SumT, callr_weak (cr_sumT hc) fun xs H Q ⟨B, ds, w, ra, q⟩ => by
  unfold bSumT at q
  split at q <;> first | exact q.elim | skip
  split at q <;> first | exact q.elim | skip
  rename_i e
  obtain ⟨v, e1, r⟩ := ra.one
  subst e1
  obtain ⟨a, xs, rfl, h1, h2⟩ := r.tup w
  have e2 := asInts_eq e
  subst e2
  have e3 := rpa_ints h2
  subst e3
  exact ⟨a, _, rfl, SqT.of h1, q _ B H (Gr.refl w) (.int _)⟩⟩
end
end DL
namespace DL
open PySem L2 PySem.Spec PyProof.Rows
/-! ### isinstance -/
def tyN : D → String
  | .none => "NoneType" | .bool _ => "bool" | .int _ => "int" | .str _ => "str" | .list _ => "list" | .tuple _ => "tuple" | .dict _ => "dict"
/-- a thing of the type t is one of n -/
def isB (t n : String) : Bool := t == n || (t == "bool" && n == "int")
section
variable {X : Cx} {c : C}
theorem bw_ty {B H : Hp} {v : V} {d : D} (w : Wd c B H) (r : Bw c B H v d) : TyX X.K H v (.type (tyN d)) := by
  rcases r with r | ⟨p, vs, ds, rfl, rfl, _, _, h5, _⟩
  · cases r with
    | non => exact .base .non
    | bl b => exact .base (.bl b)
    | int i => exact .base (.int i)
    | str x => exact .base (.str x)
    | lst h1 _ => exact .base (.lst (w.sub _ _ h1))
    | tup h1 _ => exact .base (.tup (w.sub _ _ h1))
    | dct h1 _ => exact .base (.dK (w.sub _ _ h1))
  · exact .base (.lst h5)
def fIsI (n : String) (fa : SE) : SE := fun ρ Q => fa ρ fun d => Q (.bool (isB (tyN d) n))
def allT : List String := ["NoneType", "bool", "int", "str", "list", "tuple", "dict"]
theorem tyN_mem (d : D) : tyN d ∈ allT := by cases d <;> simp [tyN, allT]
theorem kit_all : ∀ t ∈ allT, ∀ n ∈ ["int", "bool", "tuple", "str", "list", "dict"], kitB t n = some (isB t n) := by decide +kernel
theorem kit_int (d : D) : kitB (tyN d) "int" = some (isB (tyN d) "int") := kit_all _ (tyN_mem d) _ (by decide)
theorem kit_bool (d : D) : kitB (tyN d) "bool" = some (isB (tyN d) "bool") := kit_all _ (tyN_mem d) _ (by decide)
theorem kit_tuple (d : D) : kitB (tyN d) "tuple" = some (isB (tyN d) "tuple") := kit_all _ (tyN_mem d) _ (by decide)
theorem kit_str (d : D) : kitB (tyN d) "str" = some (isB (tyN d) "str") := kit_all _ (tyN_mem d) _ (by decide)
theorem kit_list (d : D) : kitB (tyN d) "list" = some (isB (tyN d) "list") := kit_all _ (tyN_mem d) _ (by decide)
theorem v_isi {e : Expr} {fa : SE} {T : Str} {n : String} {p p2 pos : Pos} (hk : ∀ d : D, kitB (tyN d) n = some (isB (tyN d) n)) (hm : X.mg "isinstance" = none) (hmT : X.mg T = none) (ha : PB X c e fa) (hvT : bootBuiltins T = some (.type n) := by decide +kernel)
    (hg : Gl X "isinstance" := by rfl) (hgT : Gl X T := by rfl) (hnT : T ≠ "__name__" := by decide) (hdT : (T == ("__debug__" : Str)) = false := by decide)
    (hs : starEach [e, .Name T p2] X.env = (false, eval e X.env) :: starEach [.Name T p2] X.env := by rfl) (hs2 : starEach [.Name T p2] X.env = (false, eval (.Name T p2) X.env) :: starEach [] X.env := by rfl)
    (hpl : (backTo pos (starEach [.Name T p2] X.env)).any (·.1) = false := by rfl) :
    PV X c (.Call (.Name "isinstance" p) [e, .Name T p2] [] pos) (fIsI n fa) := by
  refine ⟨fun ρ Q Q' k h => ha.mono _ _ _ (fun d hd => k _ hd) h, pe_weak (pe_callB call_isi hg hm (by decide +kernel) (pa_cons ha.pe (pa_cons (pe_bltn (v := .ty n) hgT hmT hvT rfl hnT hdT) pa_nil hs2) hs) (by decide) (by decide) hs hpl) fun σ H Q ⟨B, ρ, ok, h⟩ => ?_⟩
  exact ⟨B, ρ, ok, ha.mono _ _ _ (fun d hd v B1 H1 g1 r1 => ⟨v, .ty n, .type (tyN d), .type n, _, rfl, .ty n, bw_ty g1.w r1, kit_ty (hk d), hd _ B1 H1 g1 (.bl _)⟩) h⟩
/-! ### a < b < c -/
def fChain (g g' : GC) (fa fb fc : SE) : ST := fun ρ Q => fa ρ fun d => fb ρ fun e => g d e fun k => if k = true then fc ρ fun f => g' e f Q else Q false
theorem chain_mono {g g' : GC} {fa fb fc : SE} (ho : MonoC g) (ho' : MonoC g') (ha : Mono fa) (hb : Mono fb) (hc : Mono fc) : MonoT (fChain g g' fa fb fc) := fun ρ Q Q' k h =>
  ha _ _ _ (fun d hd => hb _ _ _ (fun e he => ho _ _ _ _ (fun b q => by
    cases b with
    | true => exact hc _ _ _ (fun f hf => ho' _ _ _ _ k hf) q
    | false => exact k _ q) he) hd) h
theorem t_chain {op op' : CmpOp} {g g' : GC} {a b cc : Expr} {fa fb fc : SE} {pos : Pos} (ho : CmpD X c op g) (ho' : CmpD X c op' g') (ha : PB X c a fa) (hb : PB X c b fb) (hc : PB X c cc fc) (hm : lastMarks [op, op'] [b, cc] = false := by with_unfolding_all rfl) :
    PTd X c (.Compare a [op, op'] [b, cc] pos) (fChain g g' fa fb fc) := by
  refine ⟨chain_mono ho.mono ho'.mono ha.mono hb.mono hc.mono, pt_weak (pt_chain ho.op ho'.op ha.pe hb.pe hc.pe hm) fun σ H Q ⟨B, ρ, ok, h⟩ => ?_⟩
  refine ⟨B, ρ, ok, ha.mono _ _ _ (fun d hd v B1 H1 g1 r1 => ?_) h⟩
  refine ⟨B1, ρ, ok.mono g1, hb.mono _ _ _ (fun e he u B2 H2 g2 r2 => ?_) hd⟩
  have g12 := g1.trans ok.w g2
  refine ⟨B2, d, e, g2.w, r1.mono g2, r2, ho.mono _ _ _ _ (fun k hk => ⟨k, rfl, ?_⟩) he⟩
  cases k with
  | false => exact ⟨false, rfl, hk B2 H2 g12⟩
  | true => exact ⟨B2, ρ, ok.mono g12, hc.mono _ _ _ (fun f hf x B3 H3 g3 r3 => ⟨B3, e, f, g3.w, r2.mono g3, r3, ho'.mono _ _ _ _ (fun k hk => ⟨k, rfl, hk B3 H3 (g12.trans ok.w g3)⟩) hf⟩) hk⟩
theorem v_chain {op op' : CmpOp} {g g' : GC} {a b cc : Expr} {fa fb fc : SE} {pos : Pos} (ho : CmpD X c op g) (ho' : CmpD X c op' g') (ha : PB X c a fa) (hb : PB X c b fb) (hc : PB X c cc fc) (hm : lastMarks [op, op'] [b, cc] = false := by with_unfolding_all rfl) :
    PV X c (.Compare a [op, op'] [b, cc] pos) (fun ρ Q => fChain g g' fa fb fc ρ fun k => Q (.bool k)) := by
  refine ⟨fun ρ Q Q' k h => chain_mono ho.mono ho'.mono ha.mono hb.mono hc.mono _ _ _ (fun b hb => k _ hb) h, pe_weak (pe_chain ho.op ho'.op ha.pe hb.pe hc.pe hm) fun σ H Q ⟨B, ρ, ok, h⟩ => ?_⟩
  refine ⟨B, ρ, ok, ha.mono _ _ _ (fun d hd v B1 H1 g1 r1 => ?_) h⟩
  refine ⟨B1, ρ, ok.mono g1, hb.mono _ _ _ (fun e he u B2 H2 g2 r2 => ?_) hd⟩
  have g12 := g1.trans ok.w g2
  refine ⟨B2, d, e, g2.w, r1.mono g2, r2, ho.mono _ _ _ _ (fun k hk => ⟨k, rfl, ?_⟩) he⟩
  cases k with
  | false => exact hk _ B2 H2 g12 (.bl false)
  | true => exact ⟨B2, ρ, ok.mono g12, hc.mono _ _ _ (fun f hf x B3 H3 g3 r3 => ⟨B3, e, f, g3.w, r2.mono g3, r3, ho'.mono _ _ _ _ (fun k hk => hk _ B3 H3 (g12.trans ok.w g3) (.bl k)) hf⟩) hk⟩
end
end DL
namespace DL
open PySem L2 PySem.Spec PyProof.Rows
/-! ### showing data, dicts too -/
section
variable {P : Program} {w : World} {h : Heap}
/-- a value that reads as d and shows as d -/
structure Shw (P : Program) (w : World) (h : Heap) (d : D) (u : Value) : Prop where
  rd : ∃ as, Reads h u d as
  rk : d.showable = true → d.shown.length ≤ sizeLine → ∃ bs, ReadAtMost h d.depth bs ∧ ReprK P w bs h d.depth u d.shown
structure ShwA (P : Program) (w : World) (h : Heap) (ds : List D) (us : List Value) : Prop where
  rd : ∃ as, ReadsAll h us ds as
  rk : PyData.showableAll ds = true → (∀ t ∈ PyData.shownAll ds, t.length ≤ sizeLine) → ∃ bs, ReadAtMost h (PyData.depthAll ds) bs ∧ ReprAllK P w bs h (PyData.depthAll ds) us (PyData.shownAll ds)
theorem no_ad {n : Nat} : ReadAtMost h n [] := fun _ z => nomatch z
theorem shw_is {d : D} {u : Value} (r : ∃ as, Reads h u d as) (k : d.showable = true → d.shown.length ≤ sizeLine → ReprIs P w u d.shown) : Shw P w h d u :=
  ⟨r, fun a b => ⟨[], no_ad, .of_is (k a b) _ _ _⟩⟩
theorem shwA_nil : ShwA P w h [] [] := ⟨⟨_, .nil⟩, fun _ _ => ⟨[], no_ad, by simp only [PyData.shownAll]; exact .nil⟩⟩
theorem shwA_cons {d : D} {ds : List D} {u : Value} {us : List Value} (a : Shw P w h d u) (b : ShwA P w h ds us) : ShwA P w h (d :: ds) (u :: us) := by
  refine ⟨?_, fun hs hl => ?_⟩
  · obtain ⟨as, ra⟩ := a.rd
    obtain ⟨bs, rb⟩ := b.rd
    exact ⟨_, .cons ra rb⟩
  · simp only [PyData.showableAll, Bool.and_eq_true] at hs
    simp only [PyData.shownAll] at hl
    obtain ⟨c1, q1, p1⟩ := a.rk hs.1 (hl _ List.mem_cons_self)
    obtain ⟨c2, q2, p2⟩ := b.rk hs.2 fun t ht => hl t (List.mem_cons_of_mem _ ht)
    have m1 : d.depth ≤ PyData.depthAll (d :: ds) := by simp only [PyData.depthAll]; omega
    have m2 : PyData.depthAll ds ≤ PyData.depthAll (d :: ds) := by simp only [PyData.depthAll]; omega
    refine ⟨c1 ++ c2, (q1.mono m1).append (q2.mono m2), ?_⟩
    simp only [PyData.shownAll]
    exact .cons ((p1.more fun x hx => List.mem_append_left _ hx).level_le m1) (p2.more_le (fun x hx => List.mem_append_right _ hx) m2)
theorem lt_list {ds : List D} : PyData.depthAll ds < (PyData.list ds).depth := by simp only [PyData.depth]; omega
theorem lt_tup {ds : List D} : PyData.depthAll ds < (PyData.tuple ds).depth := by simp only [PyData.depth]; omega
theorem lt_dict {kvs : List (D × D)} : PyData.depthKv kvs < (PyData.dict kvs).depth := by simp only [PyData.depth]; omega
/-- the items of a list that shows -/
theorem list_items {a : Addr} {o : Obj} {vs : Array Value} {n : Nat} {ds : List D} (h1 : h.get? a = some o) (h2 : o.cls = .type "list") (h3 : o.data = .seq vs n) (s : ShwA P w h ds vs.toList) (hs : (PyData.list ds).showable = true) (hl : (PyData.list ds).shown.length ≤ sizeLine) :
    ∃ bs, ReadAtMost h (PyData.depthAll ds) bs ∧ a ∉ bs ∧ ReprAllK P w bs h (PyData.depthAll ds) vs.toList (PyData.shownAll ds) := by
  simp only [PyData.shown] at hl
  obtain ⟨bs, q, p⟩ := s.rk (by simpa only [PyData.showable] using hs) fun t ht => Nat.le_trans (listText_mem_le ht) hl
  obtain ⟨as, ra⟩ := s.rd
  exact ⟨bs, q, not_mem_of_deeper (.list h1 h2 h3 ra) lt_list q, p⟩
theorem tup_items {a : Addr} {o : Obj} {vs : Array Value} {n : Nat} {ds : List D} (h1 : h.get? a = some o) (h2 : o.cls = .type "tuple") (h3 : o.data = .seq vs n) (s : ShwA P w h ds vs.toList) (hs : (PyData.tuple ds).showable = true) (hl : (PyData.tuple ds).shown.length ≤ sizeLine) :
    ∃ bs, ReadAtMost h (PyData.depthAll ds) bs ∧ a ∉ bs ∧ ReprAllK P w bs h (PyData.depthAll ds) vs.toList (PyData.shownAll ds) := by
  simp only [PyData.shown] at hl
  obtain ⟨bs, q, p⟩ := s.rk (by simpa only [PyData.showable] using hs) fun t ht => Nat.le_trans (tupleText_mem_le ht) hl
  obtain ⟨as, ra⟩ := s.rd
  exact ⟨bs, q, not_mem_of_deeper (.tuple h1 h2 h3 ra) lt_tup q, p⟩
theorem dict_items {a : Addr} {o : Obj} {es : Array DictEntry} {n : Nat} {kvs : List (D × D)} (h1 : h.get? a = some o) (h2 : o.cls = .type "dict") (h3 : o.data = .dict es n) (s1 : ShwA P w h (kvs.map (·.1)) (es.toList.map (·.key))) (s2 : ShwA P w h (kvs.map (·.2)) (es.toList.map (·.val)))
    (hs : (PyData.dict kvs).showable = true) (hl : (PyData.dict kvs).shown.length ≤ sizeLine) :
    ∃ bs, ReadAtMost h (PyData.depthKv kvs) bs ∧ a ∉ bs ∧ ReprEntriesK P w bs h (PyData.depthKv kvs) es.toList (PyData.shownKv kvs) := by
  simp only [PyData.shown] at hl
  obtain ⟨e1, e2⟩ := PyData.showableKv_split kvs (by simpa only [PyData.showable] using hs)
  obtain ⟨b1, q1, p1⟩ := s1.rk e1 fun t ht => by
    obtain ⟨x, hx, lx⟩ := PyData.shownKv_key_le kvs t ht
    have := dictText_mem_le hx
    omega
  obtain ⟨b2, q2, p2⟩ := s2.rk e2 fun t ht => by
    obtain ⟨x, hx, lx⟩ := PyData.shownKv_val_le kvs t ht
    have := dictText_mem_le hx
    omega
  obtain ⟨a1, r1⟩ := s1.rd
  obtain ⟨a2, r2⟩ := s2.rd
  have k1 := PyData.depthAll_keys_le kvs
  have k2 := PyData.depthAll_vals_le kvs
  have q := (q1.mono k1).append (q2.mono k2)
  refine ⟨b1 ++ b2, q, not_mem_of_deeper (.dict h1 h2 h3 r1 r2) lt_dict q, ?_⟩
  rw [PyData.shownKv_eq]
  exact ReprEntriesK.of_two _ _ _ (p1.more_le (fun x hx => List.mem_append_left _ hx) k1) (p2.more_le (fun x hx => List.mem_append_right _ hx) k2)
theorem all_len {ds : List D} {us : List Value} {as : List Addr} (r : ReadsAll h us ds as) : us.length = ds.length := by
  induction ds generalizing us as with
  | nil => cases r; rfl
  | cons d ds ih => cases r with
    | cons r1 r2 => rw [List.length_cons, List.length_cons, ih r2]
theorem shownAll_len : ∀ ds : List D, (PyData.shownAll ds).length = ds.length
  | [] => by simp only [PyData.shownAll, List.length_nil]
  | d :: ds => by simp only [PyData.shownAll, List.length_cons, shownAll_len ds]
theorem shw_list {a : Addr} {o : Obj} {vs : Array Value} {n : Nat} {ds : List D} (h1 : h.get? a = some o) (h2 : o.cls = .type "list") (h3 : o.data = .seq vs n) (s : ShwA P w h ds vs.toList) : Shw P w h (.list ds) (.ref a) := by
  obtain ⟨as, ra⟩ := s.rd
  refine ⟨⟨_, .list h1 h2 h3 ra⟩, fun hs hl => ?_⟩
  obtain ⟨bs, q, na, p⟩ := list_items h1 h2 h3 s hs hl
  refine ⟨a :: bs, ReadAtMost.cons (.list h1 h2 h3 ra) (Nat.le_of_lt lt_list) q, ?_⟩
  simp only [PyData.shown, PyData.depth]
  obtain ⟨l⟩ := vs
  have el := all_len ra
  cases l with
  | nil =>
    cases ds with
    | cons d ds => cases el
    | nil =>
      simp only [PyData.shownAll]
      rw [listText_nil]
      exact ReprK.listEmpty h1 h2 h3
  | cons x l =>
    refine ReprK.list h1 h2 h3 na ?_ fun i y e => p.item i y (by simpa using e)
    rw [shownAll_len, ← el]
    simp
theorem shw_tup {a : Addr} {o : Obj} {vs : Array Value} {n : Nat} {ds : List D} (h1 : h.get? a = some o) (h2 : o.cls = .type "tuple") (h3 : o.data = .seq vs n) (s : ShwA P w h ds vs.toList) : Shw P w h (.tuple ds) (.ref a) := by
  obtain ⟨as, ra⟩ := s.rd
  refine ⟨⟨_, .tuple h1 h2 h3 ra⟩, fun hs hl => ?_⟩
  obtain ⟨bs, q, na, p⟩ := tup_items h1 h2 h3 s hs hl
  refine ⟨a :: bs, ReadAtMost.cons (.tuple h1 h2 h3 ra) (Nat.le_of_lt lt_tup) q, ?_⟩
  simp only [PyData.shown, PyData.depth]
  exact ReprK.tuple h1 h2 h3 na p
theorem shw_dict {a : Addr} {o : Obj} {es : Array DictEntry} {n : Nat} {kvs : List (D × D)} (h1 : h.get? a = some o) (h2 : o.cls = .type "dict") (h3 : o.data = .dict es n) (hsys : (a == sysModules) = false) (s1 : ShwA P w h (kvs.map (·.1)) (es.toList.map (·.key))) (s2 : ShwA P w h (kvs.map (·.2)) (es.toList.map (·.val))) : Shw P w h (.dict kvs) (.ref a) := by
  obtain ⟨a1, r1⟩ := s1.rd
  obtain ⟨a2, r2⟩ := s2.rd
  refine ⟨⟨_, .dict h1 h2 h3 r1 r2⟩, fun hs hl => ?_⟩
  obtain ⟨bs, q, na, p⟩ := dict_items h1 h2 h3 s1 s2 hs hl
  refine ⟨a :: bs, ReadAtMost.cons (.dict h1 h2 h3 r1 r2) (Nat.le_of_lt lt_dict) q, ?_⟩
  simp only [PyData.shown, PyData.depth]
  exact ReprK.dict h1 h2 h3 hsys na p
end
section
variable {X : Cx} {pins : List (Addr × Obj)} {σ : St} {H : Hp} {s : Shared}
theorem shw_int (i : Int) (t : Tok) : Shw X.prog X.w s.heap (.int i) (.int i t) := shw_is ⟨_, .int i t⟩ fun a _ => by
  simp only [PyData.shown]
  exact ReprIs.int t (by simpa [PyData.showable] using a)
theorem shw_str (x : Str) (t : Tok) : Shw X.prog X.w s.heap (.str x) (.str x t) := shw_is ⟨_, .str x t⟩ fun _ b => by
  simp only [PyData.shown] at b ⊢
  exact ReprIs.str x t b
theorem shw_key {k : Key} {u : Value} (h : keyIs k u = true) : Shw X.prog X.w s.heap (kD k) u := by
  rcases keyIs_shape h with ⟨i, t, rfl, rfl⟩ | ⟨x, t, rfl, rfl⟩
  · exact shw_int i t
  · exact shw_str x t
theorem shw_keys : ∀ {es : List DictEntry} {vs : List (Key × Value)} {kvs : List (Key × V)}, Pairs (mixKind X.prog X.w) es vs → KV kvs vs → ShwA X.prog X.w s.heap (kvs.map fun p => kD p.1) (es.map (·.key)) ∧ Vals (kvs.map (·.2)) (es.map (·.val))
  | _, _, _, .nil, .nil => ⟨shwA_nil, .nil⟩
  | _, _, _, .cons h1 h2 h3, .cons k1 k2 => by
    obtain ⟨q1, q2⟩ := shw_keys h3 k2
    refine ⟨shwA_cons ?_ q1, .cons ?_ q2⟩
    · have e := k1.1
      show Shw X.prog X.w s.heap (kD _) _
      rw [e]; exact shw_key h1
    · have := k1.2
      rw [← h2] at this
      exact this
theorem rp_shwA {n : Nat} (ih : ∀ (d : D) (v : V) (u : Value), d.depth ≤ n → Rp H v d → RelV v u → Shw X.prog X.w s.heap d u) : ∀ {ds : List D} {vs : List V} {us : List Value}, PyData.depthAll ds ≤ n → RpA H vs ds → Vals vs us → ShwA X.prog X.w s.heap ds us
  | _, _, _, _, .nil, .nil => shwA_nil
  | _, _, _, hn, .cons a1 a2, .cons b1 b2 => by
    simp only [PyData.depthAll] at hn
    exact shwA_cons (ih _ _ _ (by omega) a1 b1) (rp_shwA ih (by omega) a2 b2)
theorem rp_dct {B : Hp} {v : V} {xs : List (D × D)} (r : Rp B v (.dict xs)) : ∃ (a : Addr) (kvs : List (Key × V)) (ds : List D), v = .ref a ∧ B a = some (.dK kvs) ∧ RpA B (kvs.map (·.2)) ds ∧ xs.map (·.1) = kvs.map (fun p => kD p.1) ∧ xs.map (·.2) = ds := by
  cases r with
  | dct h1 h2 =>
    rename_i a kvs ds
    have l := rpa_len h2
    rw [List.length_map] at l
    exact ⟨a, kvs, ds, rfl, h1, h2, List.map_fst_zip (by rw [List.length_map]; omega), List.map_snd_zip (by rw [List.length_map]; omega)⟩
theorem rp_shw (I : Inv X pins σ H s) : ∀ (n : Nat) (d : D) (v : V) (u : Value), d.depth ≤ n → Rp H v d → RelV v u → Shw X.prog X.w s.heap d u := by
  intro n
  induction n with
  | zero =>
    intro d v u hn r ru
    cases d with
    | none => cases r; cases ru; exact shw_is ⟨_, .none⟩ fun _ _ => by simp only [PyData.shown]; exact ReprIs.none
    | bool b => cases r; cases ru; exact shw_is ⟨_, .bool b⟩ fun _ _ => by simp only [PyData.shown]; exact ReprIs.bool b
    | int i => cases r; obtain ⟨t, rfl⟩ := ru; exact shw_int i t
    | str x => cases r; obtain ⟨t, rfl⟩ := ru; exact shw_str x t
    | list ds => simp only [PyData.depth] at hn; omega
    | tuple ds => simp only [PyData.depth] at hn; omega
    | dict xs => simp only [PyData.depth] at hn; omega
  | succ n ih =>
    intro d v u hn r ru
    cases d with
    | none => exact ih _ _ _ (by simp [PyData.depth]) r ru
    | bool b => exact ih _ _ _ (by simp [PyData.depth]) r ru
    | int i => exact ih _ _ _ (by simp [PyData.depth]) r ru
    | str x => exact ih _ _ _ (by simp [PyData.depth]) r ru
    | list ds =>
      simp only [PyData.depth] at hn
      obtain ⟨a, vs, rfl, h1, h2⟩ := rp_lst r
      cases ru
      obtain ⟨its, rv, ⟨o, k, ho, hc, _, hdt⟩, _⟩ := I.list (SqL.of h1)
      exact shw_list ho hc hdt (rp_shwA ih (by omega) h2 rv)
    | tuple ds =>
      simp only [PyData.depth] at hn
      obtain ⟨a, vs, rfl, h1, h2⟩ := rp_tup r
      cases ru
      obtain ⟨its, rv, ⟨o, ho, hc, k, hdt⟩, _⟩ := I.tuple (SqT.of h1)
      exact shw_tup ho hc hdt (rp_shwA ih (by omega) h2 rv)
    | dict xs =>
      simp only [PyData.depth] at hn
      obtain ⟨a, kvs, ds, rfl, h1, h2, e1, e2⟩ := rp_dct r
      cases ru
      obtain ⟨_, hsys, vs0, rel, o, es, ep, ho, hex, hdt, _, hp, _⟩ := dk_of I.hok h1
      obtain ⟨q1, q2⟩ := shw_keys (s := s) hp rel
      have := PyData.depthAll_vals_le xs
      rw [e2] at this
      refine shw_dict ho hex.1 hdt hsys (by rw [e1]; exact q1) (by rw [e2]; exact rp_shwA ih (by omega) h2 q2)
/-- repr of any data -/
def bReprA : GB := fun ds Q => match ds with | [d] => PyData.showable d = true ∧ (PyData.shown d).length ≤ sizeLine ∧ PyData.depth d ≤ 60 ∧ Q (.str (PyData.shown d)) | _ => False
theorem m_ReprA : MonoB bReprA := fun ds Q Q' k h => by
  unfold bReprA at h ⊢
  split at h <;> first | exact h.elim | exact ⟨h.1, h.2.1, h.2.2.1, k _ h.2.2.2⟩
theorem c_reprA {c : C} (hgd : X.A.guards = some []) (hu : X.A.units + 64 < cLine) : CallD X c (.builtin "repr") bReprA := by
  refine ⟨m_ReprA, fun pins s σ H xs us Q I rv ⟨B, ds, w, ra, q⟩ => ?_⟩
  cases ds with
  | nil => exact q.elim
  | cons d r0 =>
  cases r0 with
  | cons _ _ => exact q.elim
  | nil =>
  obtain ⟨q1, q3, q4, q⟩ : PyData.showable d = true ∧ (PyData.shown d).length ≤ sizeLine ∧ PyData.depth d ≤ 60 ∧ ∀ v B' H', Gr c B H B' H' → Rp B' v (.str (PyData.shown d)) → Q v H' := q
  obtain ⟨v, e, r⟩ := ra.one
  subst e
  obtain ⟨u, rfl, ru⟩ := vals1 rv
  have fin : ∀ {h' : Heap} {tk : Tok} {t : Nat}, (∀ b o, s.heap.get? b = some o → h'.get? b = some o) → EP X pins σ Q (.str (PyData.shown d) tk) { s with heap := h', toks := t } := fun {h' tk t} hk => ⟨.str (PyData.shown d), H, I.kept hk, ⟨tk, rfl⟩, q _ B H (Gr.refl w) (.str _)⟩
  have here : ∀ {tk : Tok} {t : Nat}, EP X pins σ Q (.str (PyData.shown d) tk) { s with toks := t } := fun {tk t} => ⟨.str (PyData.shown d), H, I.tok _, ⟨tk, rfl⟩, q _ B H (Gr.refl w) (.str _)⟩
  have rH := r.rp w
  cases d with
  | dict xs =>
    simp only [PyData.depth] at q4
    obtain ⟨a, kvs, ds, rfl, h1, h2, e1, e2⟩ := rp_dct rH
    cases ru
    obtain ⟨_, hsys, vs0, rel, o, es, ep, ho, hex, hdt, _, hp, _⟩ := dk_of I.hok h1
    obtain ⟨p1, p2⟩ := shw_keys (s := s) hp rel
    have := PyData.depthAll_vals_le xs
    rw [e2] at this
    obtain ⟨bs, _, na, pE⟩ := dict_items (P := X.prog) (w := X.w) ho hex.1 hdt (by rw [e1]; exact p1) (by rw [e2]; exact rp_shwA (rp_shw I 60) (by omega) h2 p2) q1 q3
    refine call_repr_slot (by omega) ⟨o, ho, hex.1⟩ F.slot_dict_repr (call_dict_reprK ho hex.1 hdt hsys na pE hgd (fun b _ => Clear.nil b) (by show X.A.units + 1 + _ < cLine; omega) (fun _ _ z => z) (fun h' u tk hk => ⟨_, _, rfl, by simpa only [PyData.shown] using fin hk⟩) (by simpa only [PyData.shown] using q3))
  | list ds =>
    simp only [PyData.depth] at q4
    obtain ⟨a, vs, rfl, h1, h2⟩ := rp_lst rH
    cases ru
    obtain ⟨its, rvs, ⟨o, k, ho, hc, _, hdt⟩, _⟩ := I.list (SqL.of h1)
    have sA := rp_shwA (X := X) (rp_shw I 60) (by omega) h2 rvs
    obtain ⟨bs, _, na, pE⟩ := list_items (P := X.prog) (w := X.w) ho hc hdt sA q1 q3
    obtain ⟨as, ra⟩ := sA.rd
    have el := all_len ra
    cases its with
    | nil =>
      cases ds with
      | cons d ds => cases el
      | nil =>
        have en : (PyData.list []).shown = ("[]" : Str) := by simp only [PyData.shown, PyData.shownAll]; exact listText_nil
        rw [en] at here
        exact call_repr_slot (by omega) ⟨o, ho, hc⟩ F.slot_list_repr.toG (call_list_repr_empty ⟨o, ho, hc⟩ ho hdt ⟨_, _, rfl, here⟩)
    | cons x l =>
      refine call_repr_slot (by omega) ⟨o, ho, hc⟩ F.slot_list_repr.toG (call_list_reprK ho hc hdt na (by rw [shownAll_len, ← el]; simp) (fun i y e => pE.item i y (by simpa using e)) hgd (fun b _ => Clear.nil b) (by show X.A.units + 1 + _ < cLine; omega) (fun _ _ z => z) (fun h' u tk hk => ⟨_, _, rfl, by simpa only [PyData.shown] using fin hk⟩) (by simpa only [PyData.shown] using q3))
  | tuple ds =>
    simp only [PyData.depth] at q4
    obtain ⟨a, vs, rfl, h1, h2⟩ := rp_tup rH
    cases ru
    obtain ⟨its, rvs, ⟨o, ho, hc, k, hdt⟩, _⟩ := I.tuple (SqT.of h1)
    have sA := rp_shwA (X := X) (rp_shw I 60) (by omega) h2 rvs
    obtain ⟨bs, _, na, pE⟩ := tup_items (P := X.prog) (w := X.w) ho hc hdt sA q1 q3
    refine call_repr_slot (by omega) ⟨o, ho, hc⟩ F.slot_tuple_repr (call_tuple_reprK ho hc hdt na pE hgd (fun b _ => Clear.nil b) (by show X.A.units + 1 + _ < cLine; omega) (fun _ _ z => z) (fun h' u tk hk => ⟨_, _, rfl, by simpa only [PyData.shown] using fin hk⟩) (by simpa only [PyData.shown] using q3))
  | int i =>
    have e := r.int
    subst e
    obtain ⟨t, rfl⟩ := ru
    simp only [PyData.shown] at here
    exact PySem.P.repr_of_int (by simpa [PyData.showable] using q1) here
  | none =>
    have e := r.non
    subst e
    cases ru
    simp only [PyData.shown] at here
    exact PySem.P.repr_of_none here
  | bool b =>
    have e := r.bl
    subst e
    cases ru
    simp only [PyData.shown] at here
    exact PySem.P.repr_of_bool here
  | str x =>
    have e := r.str
    subst e
    obtain ⟨t, rfl⟩ := ru
    simp only [PyData.shown] at here q3
    exact PySem.P.repr_of_str here q3
end
end DL
namespace DL
open PySem L2 PySem.Spec PyProof.Rows
/-! ### dict displays: none, one entry -/
section
variable {X : Cx} {c : C}
theorem v_dict0 {pos : Pos} : PV X c (.Dict [] [] pos) (fC (.dict [])) :=
  ⟨fun _ _ _ k h => k _ h, pe_weak pe_dnewK fun σ H Q ⟨B, ρ, ok, h⟩ p hp => h (.ref p) _ _ (Gr.new (o := .dK []) ok.w hp) (.dct (kvs := []) (ds := []) upd_same .nil)⟩
theorem Gr.redo {B H B2 H2 : Hp} {p : Addr} {o : HO} (w : Wd c B H) (g : Gr c B H B2 H2) (h0 : H p = none) (h1 : B2 p = none) : Gr c B H (upd B2 p o) (upd H2 p o) := by
  have nb : ¬ c.isBag p := fun z => w.there z h0
  refine ⟨g.b.trans (Evl.Ex.new h1), fun a u n e => ?_, fun a ha => ?_, fun a u e => ?_, g.w.bag.keep fun a ha => ⟨upd_ne fun z => nb (z ▸ ha), upd_ne fun z => nb (z ▸ ha)⟩⟩
  · rw [upd_ne (ne_of_none e h0)]; exact g.h a u n e
  · rw [upd_ne (fun z => ha (by rw [z]; exact h0))]; exact g.n a ha
  · by_cases z : a = p
    · subst z
      rw [upd_same] at e ⊢
      exact e
    · rw [upd_ne z] at e ⊢
      exact g.w.sub a u e
def fDict1 (k : Key) (fa : SE) : SE := fun ρ Q => fa ρ fun d => Q (.dict [(kD k, d)])
theorem v_dict1 {ke e : Expr} {k : Key} {fa : SE} {pos : Pos} (hk : PE X ke (fun _ H Q => Q (kV k) H)) (he : PV X c e fa) : PV X c (.Dict [some ke] [e] pos) (fDict1 k fa) := by
  refine ⟨fun ρ Q Q' j h => he.mono _ _ _ (fun d hd => j _ hd) h, pe_weak (pe_disp (pps_cons hk he.pe pps_nil) rfl rfl (by simp) (by simp)) fun σ H Q ⟨B, ρ, ok, h⟩ p hp => ?_⟩
  have g1 := Gr.newO (o := .dK []) ok.w hp
  have nb : ¬ c.isBag p := fun z => ok.w.there z hp
  refine ⟨B, ρ, ok.mono g1, he.mono _ _ _ (fun d hd v B2 H2 g2 r2 => ?_) h⟩
  have e2 : H2 p = some (.dK []) := g2.h p _ nb upd_same
  have b2 : B2 p = none := by
    rw [g2.n p (by rw [upd_same]; exact fun z => nomatch z)]
    exact Evl.fresh_back ok.w.sub hp
  have G := Gr.redo (o := .dK [(k, v)]) ok.w (g1.trans ok.w g2) hp b2
  have m1 : mergeK [] [(k, v)] = [(k, v)] := rfl
  refine ⟨e2, [(k, v)], rfl, by simp, ?_⟩
  rw [m1]
  exact hd _ _ _ G (.dct (kvs := [(k, v)]) (ds := [d]) upd_same (.cons (rp_mono (Evl.Ex.new b2) r2) .nil))
theorem pk_int {i : Int} {j : Nat} {pos : Pos} : PE X (.Constant (.int i) j pos) (fun _ H Q => Q (kV (.inl i)) H) := pe_int
theorem pk_str {x : Str} {j : Nat} {pos : Pos} : PE X (.Constant (.str x) j pos) (fun _ H Q => Q (kV (.inr x)) H) := pe_str
end
/-! ### enumerate(a tuple) -/
open AutoSeq1 (wpAny_loadPart') in
theorem meets_enum_tup (t : Addr) (its : Array Value) (m : Nat) (od : Option Addr) (os : Array (Option Value)) :
    Meets (Builtin.«enumerate.__new__» ⟨[.type "enumerate", .ref t], []⟩) (fun _ R s => s.heap.get? t = some { cls := .type "tuple", dict := od, data := .seq its m, slots := os } ∧
      R (.ok (.ret (.ref (s.heap.push { cls := .type "tuple_iterator", data := .fields #[.ref t, .int 0 0] }).objs.size)))
        { s with heap := (s.heap.push { cls := .type "tuple_iterator", data := .fields #[.ref t, .int 0 0] }).push { cls := .type "enumerate", data := .fields #[.none, .bool false, .ref s.heap.objs.size, rawInt 0, .none, .none] } }) :=
  .of_wp fun prog w A R s h => by
    obtain ⟨hp, g, d, tk, osx⟩ := s
    obtain ⟨ht, h⟩ := h
    have sE := sub_enumerate
    have hT : Heap.IsTuple (Shared.heap ⟨hp, g, d, tk, osx⟩) t its := ⟨_, ht, rfl, m, rfl⟩
    wp_walk using wpAny_loadPart' ht
    refine wpAny_stack_any fun st => wpAny_pure ?_
    split
    · rename_i cx _ _ _ _ _
      cases (cx == Value.type "enumerate")
      · wp_walk using wpAny_loadPart' ht, wpAny_pyIter_tuple hT
        exact ⟨_, rfl, h⟩
      · wp_walk using wpAny_loadPart' ht, wpAny_pyIter_tuple hT
        exact ⟨_, rfl, h⟩
    · wp_walk using wpAny_loadPart' ht, wpAny_pyIter_tuple hT
      exact ⟨_, rfl, h⟩
section
variable {prog : Program} {w : World} {A : Around} {E : Value → Shared → Prop} {s : Shared}
theorem call_enum_tup {t : Addr} {its : Array Value} {Q : Value → Shared → Prop} (hT : s.heap.IsTuple t its)
    (h : ∀ h', IsEnum h' (s.heap.objs.size + 1) s.heap.objs.size 0 .none → h'.IsTupleIter s.heap.objs.size t 0 → (∀ b o, s.heap.get? b = some o → h'.get? b = some o) → Q (.ref (s.heap.objs.size + 1)) { s with heap := h' }) :
    wpAny (model prog w) A (call (.type "enumerate") [.ref t]) Q E s := by
  obtain ⟨⟨oc, od, dt, osl⟩, ht, e1, m, e2⟩ := hT
  simp only at e1 e2
  subst e1 e2
  refine callType_new F.called_enumerate (by decide) (F.typeCall_enumerate_1 _) (F.newCall_enumerate_1 _) (fun ob => F.args_object_init_2 ob _) F.entry_enumerate_new (meets_enum_tup t its m od osl) ⟨ht, ?_⟩
  have sz : (s.heap.push { cls := .type "tuple_iterator", data := .fields #[.ref t, .int 0 0] }).objs.size = s.heap.objs.size + 1 := Heap.size_push ..
  show _ ∧ _
  rw [sz]
  have he : IsEnum ((s.heap.push { cls := .type "tuple_iterator", data := .fields #[.ref t, .int 0 0] }).push { cls := .type "enumerate", data := .fields #[.none, .bool false, .ref s.heap.objs.size, rawInt 0, .none, .none] }) (s.heap.objs.size + 1) s.heap.objs.size 0 .none := by
    have q := Heap.get?_push_size (s.heap.push { cls := .type "tuple_iterator", data := .fields #[.ref t, .int 0 0] }) (o := { cls := .type "enumerate", data := .fields #[.none, .bool false, .ref s.heap.objs.size, rawInt 0, .none, .none] }) rfl
    rw [sz] at q
    exact q
  exact ⟨⟨_, he, rfl⟩, h _ he ⟨_, Heap.get?_push_of_some _ (Heap.get?_push_size _ rfl), rfl, rfl⟩ fun b o z => Heap.get?_push_of_some _ (Heap.get?_push_of_some _ z)⟩
end
/-- the tuple at a, its items in new pairs -/
def IteT (K : PySem.W.Frag) (a : Addr) : It :=
  ⟨fun i H => ∃ (xs : List V) (x : V), SqT K H a xs ∧ xs[i]? = some x, fun i H v H' => ∃ T x, v = .ref T ∧ H T = none ∧ H' = upd H T (.tup [.int (i : Nat), x]) ∧ ∀ xs, SqT K H a xs → xs[i]? = some x, fun i H => ∃ xs : List V, SqT K H a xs ∧ xs.length ≤ i⟩
theorem turn_enumT {P : Program} {w : World} {K : PySem.W.Frag} {elts : List Expr} {kk : Nat} {tpos : Pos} (a e it : Addr) (hai : a ≠ it) (hea : e ≠ a) :
    Turn P w K (.Tuple elts kk tpos) (IteT K a) [e, it] e (fun i h => (∃ old, IsEnum h e it ((i : Nat) : Int) old) ∧ h.IsTupleIter it a i ∧ e ≠ it) where
  mem := by simp
  obj := fun i h st b hb => by
    obtain ⟨⟨old, q1⟩, ⟨o, q2, _, q3⟩, _⟩ := st
    rcases (by simpa using hb : b = e ∨ b = it) with z | z
    · rw [z]; exact ⟨_, q1, fun v y => nomatch y⟩
    · rw [z]; exact ⟨o, q2, fun v y => by rw [q3] at y; cases y⟩
  keep := fun i h h' st k => ⟨⟨st.1.choose, k e (by simp) _ st.1.choose_spec⟩, st.2.1.at fun o q => k it (by simp) o q, st.2.2⟩
  item := by
    intro X hP hw hK hc i pins s σ H E I hf st hg
    subst hP hw hK
    obtain ⟨⟨old, q1⟩, q2, q3⟩ := st
    obtain ⟨xs, x, hq, hx⟩ := hg
    obtain ⟨its, rv, p, hz⟩ := I.tuple hq
    obtain ⟨u, hu, ru⟩ := rv.get hx
    have l1 : e < s.heap.objs.size := Heap.lt_size q1
    have l2 : it < s.heap.objs.size := by
      obtain ⟨_, y, _⟩ := q2
      exact Heap.lt_size y
    have hi : i < its.toArray.size := by
      rw [List.size_toArray, ← rv.length]
      exact (List.getElem?_eq_some_iff.mp hx).1
    have D := Draws.tuple (prog := X.prog) (w := X.w) (A := X.A.in1) (I.ok.hd hc) it a hai its.toArray
    refine wpAny_pyNext_enum_itemD D q1 ⟨q2, p⟩ hi q3 (by simp [q3, hea]) fun y h' tk hy ho st' hT hsz hk => ?_
    have ey : y = u := by
      have : its[i]? = some y := by simpa using hy
      rw [hu] at this
      exact (Option.some.inj this).symm
    subst ey
    refine ⟨_, rfl, wpAny_letOwnedTupleGo_enum (s := { s with heap := h', toks := tk + 1 }) ho fun h'' he' sb => ?_⟩
    have hT2 : h''.get? s.heap.objs.size = some { cls := .type "tuple", data := .seq #[.int i tk, y] } := (sb.2 _ (Nat.ne_of_gt l1)).trans hT
    have new : ObjOk X.prog X.w (upd H s.heap.objs.size (.tup [.int (i : Nat), x])) h'' s.heap.objs.size (.tup [.int (i : Nat), x]) :=
      ⟨by show 2 ≤ sizeLine; decide, [.int i tk, y], .cons ⟨_, rfl⟩ (.cons ru .nil), ⟨_, hT2, rfl, _, rfl⟩⟩
    have I1 : Inv X pins σ (upd H s.heap.objs.size (.tup [.int (i : Nat), x])) { s with heap := h'', toks := tk + 1 } :=
      I.turnedNew (ch := [e, it]) (fun b ob hb q => (sb.2 b (fun z => hb (by simp [z]))).trans (hk b ob (fun z => hb (by simp [z])) (fun z => hb (by simp [z])) q)) hf (Nat.le_refl _) new
    have e1 : ((i + 1 : Nat) : Int) = (i : Int) + 1 := by omega
    refine ⟨.ref s.heap.objs.size, _, I1, rfl, ⟨_, x, rfl, I.hok.fresh (Nat.le_refl _), rfl, fun ys hy => by rw [I.tuple_inj hy hq]; exact hx⟩, ⟨⟨y, by rw [e1]; exact he'⟩, st'.1.at fun o q => (sb.2 it (Ne.symm q3)).trans q, q3⟩, fun b hb => ?_⟩
    have l3 : b < s.heap.objs.size := by
      rcases (by simpa using hb : b = e ∨ b = it) with z | z <;> rw [z] <;> assumption
    rw [upd_ne (Nat.ne_of_lt l3)]
    exact (hf b hb).1
  done := by
    intro X hP hw hK hc i pins s σ H E I hf st hg
    subst hP hw hK
    obtain ⟨⟨old, q1⟩, q2, q3⟩ := st
    obtain ⟨xs, hq, hx⟩ := hg
    obtain ⟨its, rv, p, hz⟩ := I.tuple hq
    obtain ⟨f0, f1, _, f3, f4, f5⟩ := hf it (by simp)
    have hn : its.toArray[i]? = none := by
      have := rv.length
      simp only [List.getElem?_toArray, List.getElem?_eq_none_iff]
      omega
    have D : Draws X.prog X.w X.A.in1 it [it, a] i (fun _ _ => True) (fun j h => j = i ∧ h.IsTupleIter it a i ∧ h.IsTuple a its.toArray) :=
      { live := fun j h st => st.2.1.elim fun o z => ⟨o, z.1⟩
        frame := fun j h h' st k => ⟨st.1, st.2.1.at fun o z => k it (by simp) o z, st.2.2.at fun o z => k a (by simp) o z⟩
        item := fun j s Q E hj st _ => absurd st.1 (Nat.ne_of_lt hj)
        done := fun s Q E st hE => wpAny_nextOf_tuple_end (I.ok.hd hc) st.2.1 st.2.2 hn hE }
    exact wpAny_pyNext_enum_endD D q1 ⟨rfl, q2, p⟩ fun h' eb => ⟨rfl, I.turned (t' := s.toks) (fun b o hb z => eb b o hb z) f0 f1 f3 f4 f5⟩
  self := fun A i s Q E st h => let ⟨⟨_, he⟩, _⟩ := st; wpAny_pyIter_enum he h
def iEnumT (K : PySem.W.Frag) (ta : TA) : TI := fun σ H R => ta σ H fun vs H1 => ∃ a xs, vs = [.ref a] ∧ SqT K H1 a xs ∧ R (IteT K a) H1
theorem pi_enumT {X : Cx} {e : Expr} {ta : TA} {p pos tpos : Pos} {elts : List Expr} {kk : Nat} (hg : Gl X "enumerate") (hm : X.mg "enumerate" = none) (ha : PA X [e] ta) (hs : starEach [e] X.env = [(false, eval e X.env)] := by rfl) :
    L2.PI X (.Tuple elts kk tpos) (.Call (.Name "enumerate" p) [e] [] pos) (iEnumT X.K ta) := by
  refine ⟨fun pins s σ H R I h => Call_ (ld_blt I hg hm boot_enumerate (PyProof.Rows.callWith_type1 (thn (ha.run pos pins s σ H _ I h) fun us s1 ⟨vs, H1, I1, r1, a, xs, ex, hq, q⟩ => ?_) hs rfl))⟩
  subst ex
  rw [Vals.ref1 r1]
  obtain ⟨its, rv, pt, hz⟩ := I1.tuple hq
  refine call_enum_tup pt fun h' he hit hk => wpAny_pyIter_enum he ?_
  have la : a < s1.heap.objs.size := by
    obtain ⟨o, z, _⟩ := pt
    exact Heap.lt_size z
  refine ⟨s1.heap.objs.size + 1, [s1.heap.objs.size + 1, s1.heap.objs.size], _, _, H1, rfl, I1.kept (t' := s1.toks) hk, turn_enumT a (s1.heap.objs.size + 1) s1.heap.objs.size (Nat.ne_of_lt la) (Nat.ne_of_gt (Nat.lt_succ_of_lt la)), ⟨⟨.none, he⟩, hit, Nat.succ_ne_self _⟩, fun b hb => ?_, q⟩
  have hle : s1.heap.objs.size ≤ b := by
    rcases (by simpa using hb : b = s1.heap.objs.size + 1 ∨ b = s1.heap.objs.size) with z | z
    · rw [z]; exact Nat.le_succ _
    · rw [z]; exact Nat.le_refl _
  exact I1.fpOk hle (I1.hok.fresh hle)
section
variable {X : Cx} {c : C} {elts : List Expr} {kk : Nat} {tpos : Pos}
def fEnumT (fa : SE) : SI := fun ρ Q => fa ρ fun d => match d with | .tuple ds => Q (enumD 0 ds) | _ => False
theorem i_enumT {e : Expr} {fa : SE} {p pos : Pos} (hm : X.mg "enumerate" = none) (ha : PV X c e fa) (hg : Gl X "enumerate" := by rfl) (hs : starEach [e] X.env = [(false, eval e X.env)] := by rfl) : PItd X c (.Tuple elts kk tpos) (.Call (.Name "enumerate" p) [e] [] pos) (fEnumT fa) := by
  refine ⟨fun ρ Q Q' k h => ha.mono _ _ _ (fun d hd => ?_) h, pi_weak (pi_enumT hg hm (pa_cons ha.pe pa_nil (by rw [hs]; rfl)) hs) fun σ H R ⟨B, ρ, ok, h⟩ => ⟨B, ρ, ok, ha.mono _ _ _ (fun d hd v B' H' g r => ?_) h⟩⟩
  · cases d <;> first | exact hd.elim | exact k _ hd
  · cases d <;> first | exact hd.elim | skip
    rename_i ds
    obtain ⟨a, xs, rfl, h1, h2⟩ := rp_tup r
    refine ⟨a, xs, rfl, SqT.of (g.w.sub _ _ h1), hd _ B' H' g fun i B1 H1 e1 w => ?_⟩
    have h3 : H1 a = some (.tup xs) := w.sub _ _ (e1 _ _ h1)
    refine ⟨fun hi => ⟨xs, SqT.of h3, by rw [rpa_len h2]; rw [enumD_len] at hi; exact hi⟩, fun d hd' => ?_⟩
    obtain ⟨x, h4, h5⟩ := enumD_get hd'
    obtain ⟨y, h6, h7⟩ := rpa_get h2 h4
    refine ⟨⟨xs, y, SqT.of h3, h6⟩, fun z H2 ⟨T, u, e2, hT, e3, hy⟩ => ?_⟩
    subst e2 e3 h5
    have hu := hy xs (SqT.of h3)
    rw [h6] at hu
    cases hu
    have gn := Gr.new (o := .tup [.int (i : Nat), y]) w hT
    refine ⟨_, gn, .tup upd_same (.cons ?_ (.cons (rp_mono gn.b (rp_mono e1 h7)) .nil))⟩
    have e0 : ((0 + i : Nat) : Int) = (i : Int) := by omega
    rw [e0]
    exact .int _
end
end DL
namespace DL
open PySem L2 PySem.Spec PyProof.Rows
section
variable {X : Cx} {c : C}
def mx2 (i j : Int) : Int := if j > i then j else i
theorem nu_mx2 (i j : Int) : nuMax2 (.int i) (.int j) = some (.int (mx2 i j)) := by
  unfold mx2
  show (some (decide (i < j))).map _ = _
  by_cases h : i < j
  · rw [if_pos h, decide_eq_true h]; rfl
  · rw [if_neg h, decide_eq_false h]; rfl
def bMax3 : GB | [.int i, .int j, .int k], Q => Q (.int (mx2 (mx2 i j) k)) | _, _ => False
theorem m_Max3 : MonoB bMax3 := fun ds Q Q' k h => by
  unfold bMax3 at h ⊢
  split at h <;> first | exact k _ h | exact h.elim
theorem c_max3 (hc : X.calm = true) : CallD X c (.builtin "max") bMax3 := ⟨m_Max3, callr_weak (call_max3Nu hc) fun xs H Q ⟨B, ds, w, ra, q⟩ => by
  unfold bMax3 at q
  split at q <;> first | exact q.elim | skip
  cases xs with
  | nil => exact ra.elim
  | cons v xs =>
    obtain ⟨r1, ra⟩ := ra
    obtain ⟨u, x, e, r2, r3⟩ := BwA.two ra
    subst e
    rw [r1.int, r2.int, r3.int]
    refine ⟨_, _, _, _, rfl, ?_, q _ B H (Gr.refl w) (.int _)⟩
    unfold nuMax3
    rw [nu_mx2]
    exact nu_mx2 _ _⟩
end
end DL
namespace DL
open PySem L2 PySem.Spec PyProof.Rows
/-! ### defs that hand a new list back -/
def toSpO (G : C → Prop) (S : Spec) : Sp := fun vs H Q _ => ∃ c : C, G c ∧ c.H0 = H ∧ Wd c c.B0 H ∧ ∃ ss, ArgsOk c c.B0 H vs ss ∧ S ss fun d => ∃ ds, d = .list ds ∧ ∀ p ws B' H', Gr c c.B0 H B' H' → H p = none → B' p = none → H' p = some (.lst ws) → RpA B' ws ds → Q (.ref p) H'
structure FnO (G : C → Prop) (P : Program) (w : World) (K : PySem.W.Frag) (mg : Str → Option Value) (base : Heap) (k : Nat) (f : Addr) (fd : FuncData) (ps : List Str) (S : Spec) : Prop where
  mono : ∀ ss (Q Q' : D → Prop), (∀ d, Q d → Q' d) → S ss Q → S ss Q'
  len : ∀ ss Q, S ss Q → ss.length = ps.length
  run : ∀ (A : Around) (outer : List PySem.Env) (s : Shared) (H : Hp) (args : Args) (us : List Value) (vs : List V) (Q : VK), A.guards = some [] → Room k A → Env0 P w K mg base A outer s H →
    BindsTo s fd args (ps.zip us) → Vals vs us → toSpO G S vs H Q E0 → codeAny (model P w) A (.call (.ref f) args) (CR CX0 outer P w H s Q E0) s
theorem FnO.up {G : C → Prop} {P : Program} {w : World} {K : PySem.W.Frag} {mg : Str → Option Value} {base : Heap} {j k : Nat} {f : Addr} {fd : FuncData} {ps : List Str} {S : Spec} (F : FnO G P w K mg base j f fd ps S) (h : j ≤ k) : FnO G P w K mg base k f fd ps S :=
  ⟨F.mono, F.len, fun A outer s H args us vs Q hg hr => F.run A outer s H args us vs Q hg (hr.mono h)⟩
/-- the end of such a def -/
def endsOfO (Q : D → Prop) : En := ⟨fun _ => False, fun _ => False, fun _ => False, fun _ => False, fun ds => Q (.list ds)⟩
section
variable {G : C → Prop} {P : Program} {w : World} {K : PySem.W.Frag} {mg : Str → Option Value} {base : Heap}
theorem fno_of {x qual : Str} {st : Stmt} {f : Addr} {fd : FuncData} {N ps : List Str} {k : Nat} {S : Spec} (F : Fun K x qual st f fd) (sc : FnScope N ps (defScope st)) (mono : ∀ ss (Q Q' : D → Prop), (∀ d, Q d → Q' d) → S ss Q → S ss Q') (len : ∀ ss Q, S ss Q → ss.length = ps.length)
    (body : ∀ (cdv : Value) (A : Around) (outer : List PySem.Env) (s : Shared) (c : C), G c → A.guards = some [] → Room k (A.deeper (envOfC qual (defScope st) s.heap.objs.size f cdv)) →
      ∃ g, PSsd (cxOf CX0 P w K mg base N qual (defScope st) f cdv A outer s c.H0 E0).nox c (defBody st) g ∧ ∀ ss Q, S ss Q → g (endsOfO Q) (initE N ss)) : FnO G P w K mg base (k + 1) f fd ps S := by
  obtain ⟨oc, od, kV, doc, pm, an, cdv, ct, osl, rfl, lk', hcd⟩ := F.ex
  refine ⟨mono, len, ?_⟩
  intro A outer s H args us vs Q hg hr e0 hb r hsp
  obtain ⟨c, hG, hH, wd, ss, ha, hS⟩ := hsp
  subst hH
  have hvl : vs.length = ps.length := by rw [ha.len]; exact len _ _ hS
  have stands : ∀ b o, base.get? b = some o → s.heap.get? b = some o := fun b o z => (e0.bs b o z).1
  have KX : K.In s.heap := e0.mod.kin.keeps stands
  refine codeAny_call_function hr.depth (KX _ _ lk') rfl sc.co sc.gen rfl (PySem.W.codeRec_of KX hcd) (hb _ _ _ _ (wpAny_newFunctionEnv_cells sc.kind ?_ ?_))
  · rintro ⟨n, v⟩ hy
    rcases sc.par n (List.of_mem_zip hy).1 with q | q
    · exact Or.inl q
    · exact Or.inr ⟨q, PySem.W.cellsFrom_some _ _ _ (Or.inl q)⟩
  · intro env he s1 x
    subst he
    refine ⟨(e0.mod.nolimit.keeps stands).keeps x.toInCall.keep, codeAny_func ?_⟩
    obtain ⟨g, hg1, hg2⟩ := body cdv A outer s c hG hg (hr.deeper _)
    have I := inv_start (CX := CX0) (E := E0) (qual := qual) sc hr.hd e0 hvl r x
    have ok := EOk.init (N := N) wd ha
    have goal := hg1.ps.nox.run [] s1 (L2.start N vs) c.H0 { nx := fun _ H' => False, rt := Q } I ⟨c.B0, initE N ss, ok, hg1.mono (endsOfO fun d => ∃ ds, d = .list ds ∧ ∀ p ws B' H', Gr c c.B0 c.H0 B' H' → c.H0 p = none → B' p = none → H' p = some (.lst ws) → RpA B' ws ds → Q (.ref p) H') _ _ ⟨fun ρ h => h.elim, fun _ h => h.elim, fun _ h => h.elim, fun _ h => h.elim, fun ds h => by
      obtain ⟨es, e, h⟩ := h
      cases e
      exact h⟩ (hg2 ss _ hS)⟩
    refine wpAny_mono goal (fun fl s' hs => ?_) fun _ _ z => z
    cases fl with
    | ret u =>
      obtain ⟨v, σ', H', J, rv, q⟩ := hs
      exact ⟨v, H', J.os, J.bare, J.base, J.hok, rv, q⟩
    | next =>
      obtain ⟨σ', H', J, q⟩ := hs
      exact q.elim
    | brk => exact hs.elim fun _ z => z.elim fun _ y => y.2.elim
    | cont => exact hs.elim fun _ z => z.elim fun _ y => y.2.elim
end
def fCallO (S : Spec) (fa : SA) : SL := fun ρ Q => fa ρ fun ss => S ss fun d => match d with | .list ds => Q ds | _ => False
def fCallOK (S : Spec) (is : List Nat) (fa : SA) : SL := fun ρ Q => fa ρ fun ss => S (perm is ss) fun d => match d with | .list ds => Q ds | _ => False
section
variable {G : C → Prop} {X : Cx} {c : C} {k : Nat} {f : Addr} {fd : FuncData} {ps : List Str} {S : Spec}
theorem run_fno {pins : List (Addr × Obj)} {σ : St} {H : Hp} {s : Shared} {Q : VK} {args : Args} {us : List Value} {vs : List V} (F : FnO G X.prog X.w X.K X.mg X.base k f fd ps S) (hgd : X.A.guards = some []) (hr : Room k X.A) (I : Inv X pins σ H s)
    (hb : BindsTo s fd args (ps.zip us)) (r : Vals vs us) (h : toSpO G S vs H Q E0) : codeAny (model X.prog X.w) X.A (.call (.ref f) args) (wants (EP X pins σ Q) X.xe) s := by
  refine codeAny_mono (F.run X.A X.stack s H args us vs Q hgd hr I.env0 hb r h) fun z s' hq => ?_
  cases z with
  | error e => exact False.elim hq
  | ok fl => cases fl <;> first | exact I.after hq | exact False.elim hq
theorem toSpO_of {B H B1 H1 : Hp} {Q : VK} {vs : List V} {ss : List Sl} (hG : ∀ B1 H1, G { c with B0 := B1, H0 := H1 }) (w0 : Wd c B H) (g : Gr c B H B1 H1) (F : FnO G X.prog X.w X.K X.mg X.base k f fd ps S) (r : ArgsOk c B1 H1 vs ss)
    (h : S ss fun d => ∃ ds, d = .list ds ∧ ∀ p ws B' H', Gr c B H B' H' → H p = none → B' p = none → H' p = some (.lst ws) → RpA B' ws ds → Q (.ref p) H') : toSpO G S vs H1 Q E0 :=
  ⟨{ c with B0 := B1, H0 := H1 }, hG _ _, rfl, ⟨g.w.sub, g.w.bag.again⟩, ss, by
    have conv : ∀ {vs : List V} {ss : List Sl}, ArgsOk c B1 H1 vs ss → ArgsOk { c with B0 := B1, H0 := H1 } B1 H1 vs ss := by
      intro vs
      induction vs with
      | nil => intro ss h; cases ss with
        | nil => trivial
        | cons _ _ => exact h
      | cons v vs ih => intro ss h; cases ss with
        | nil => exact h
        | cons s ss => exact ⟨by cases s <;> exact h.1, ih h.2⟩
    exact conv r, F.mono _ _ _ (fun d ⟨ds, e, hd⟩ => ⟨ds, e, fun p ws B' H' g2 h0 h1 h2 r2 => hd p ws B' H' (g.trans w0 ⟨g2.b, g2.h, g2.n, ⟨g2.w.sub, ⟨g2.w.bag.out, g2.w.bag.here, g2.w.bag.ok⟩⟩⟩) (g.back h0) h1 h2 r2⟩) h⟩
theorem mO {Q Q' : List D → Prop} (k : ∀ ds, Q ds → Q' ds) : ∀ d : D, (match d with | .list ds => Q ds | _ => False) → (match d with | .list ds => Q' ds | _ => False) := fun d h => by
  cases d <;> first | exact h.elim | exact k _ h
theorem listO {B H : Hp} {Q : VK} {Q' : List D → Prop} (k : ∀ ds, Q' ds → ∀ p ws B' H', Gr c B H B' H' → H p = none → B' p = none → H' p = some (.lst ws) → RpA B' ws ds → Q (.ref p) H') : ∀ d : D, (match d with | .list ds => Q' ds | _ => False) →
    ∃ ds, d = .list ds ∧ ∀ p ws B' H', Gr c B H B' H' → H p = none → B' p = none → H' p = some (.lst ws) → RpA B' ws ds → Q (.ref p) H' := fun d h => by
  cases d <;> first | exact h.elim | exact ⟨_, rfl, k _ h⟩
theorem n_callO {x : Str} {p pos : Pos} {e : Expr} {es : List Expr} {fa : SA} (F : FnO G X.prog X.w X.K X.mg X.base k f fd ps S) (hG : ∀ B1 H1, G { c with B0 := B1, H0 := H1 }) (hgd : X.A.guards = some []) (hr : Room k X.A) (hm : X.mg x = some (.ref f)) (hk : PySem.W.keepIn X.K (.ref f) = true) (hb : Binds X.K fd ps []) (ha : PAd X c (e :: es) fa)
    (hg : Gl X x := by rfl) (hdb : (x == ("__debug__" : Str)) = false := by decide) (he : starEach (e :: es) X.env = (false, eval e X.env) :: starEach es X.env := by rfl) (hpl : (backTo pos (starEach es X.env)).any (·.1) = false := by rfl) :
    PN X c (.Call (.Name x p) (e :: es) [] pos) (fCallO S fa) := by
  refine ⟨fun ρ Q Q' k h => ha.mono _ _ _ (fun ss hs => F.mono _ _ _ (mO k) hs) h, ⟨fun pins s σ H Q I ⟨B, ρ, ok, h⟩ => wpAny_Call_Name_kw (ld_glob I hg hm (PySem.W.callWith_K (h₀ := X.base) I.ok.mod.kin hk (wpAny_mono (ha.pa.run pos pins s σ H
    (fun vs H1 => ∃ B1 ss, Gr c B H B1 H1 ∧ ArgsOk c B1 H1 vs ss ∧ S ss fun d => ∃ ds, d = .list ds ∧ ∀ p ws B' H', Gr c B H B' H' → H p = none → B' p = none → H' p = some (.lst ws) → RpA B' ws ds → Q (.ref p) H') I ⟨B, ρ, ok, ha.mono _ _ _ (fun ss hs vs B1 H1 g r => ⟨B1, ss, g, r, F.mono _ _ _ (listO fun ds q => q) hs⟩) h⟩) (fun us s1 hv => ?_) fun _ _ z => z) he hpl) hdb)⟩⟩
  obtain ⟨vs, H1, I1, rv, B1, ss, g, ra, hS⟩ := hv
  have hl : us.length = ps.length := by rw [← rv.length, ra.len]; exact F.len _ _ hS
  refine ⟨I1.kIn, wpAny_call (run_fno F hgd hr I1 ?_ rv (toSpO_of hG ok.w g F ra hS))⟩
  have := hb s1 us I1.kIn (by rw [List.append_nil]; exact hl)
  rw [List.append_nil] at this
  exact this
end
def KnO (P : Program) (w : World) (K : PySem.W.Frag) (mg : Str → Option Value) (base : Heap) (k : Nat) (x : Str) (ps : List Str) (S : Spec) : Prop :=
  ∃ f fd, FnO IsLst P w K mg base k f fd ps S ∧ mg x = some (.ref f) ∧ PySem.W.keepIn K (.ref f) = true ∧ Binds K fd ps []
theorem KnO.up {P : Program} {w : World} {K : PySem.W.Frag} {mg : Str → Option Value} {base : Heap} {j k : Nat} {x : Str} {ps : List Str} {S : Spec} (h : KnO P w K mg base j x ps S) (l : j ≤ k) : KnO P w K mg base k x ps S :=
  let ⟨f, fd, h1, h2⟩ := h
  ⟨f, fd, h1.up l, h2⟩
theorem KnO.mk {P : Program} {w : World} {K : PySem.W.Frag} {mg : Str → Option Value} {base : Heap} {k : Nat} {x : Str} {ps : List Str} {S : Spec} {f : Addr} {fd : FuncData} (h : FnO IsLst P w K mg base k f fd ps S) (h1 : mg x = some (.ref f)) (h2 : PySem.W.keepIn K (.ref f) = true) (h3 : Binds K fd ps []) : KnO P w K mg base k x ps S := ⟨f, fd, h, h1, h2, h3⟩
section
variable {X : Cx} {c : C} {k : Nat} {ps : List Str} {S : Spec}
theorem n_callX {x : Str} {p pos : Pos} {e : Expr} {es : List Expr} {fa : SA} (F : KnO X.prog X.w X.K X.mg X.base k x ps S) (hG : IsLst c) (hgd : X.A.guards = some []) (hr : Room k X.A) (ha : PAd X c (e :: es) fa)
    (hg : Gl X x := by rfl) (hdb : (x == ("__debug__" : Str)) = false := by decide) (he : starEach (e :: es) X.env = (false, eval e X.env) :: starEach es X.env := by rfl) (hpl : (backTo pos (starEach es X.env)).any (·.1) = false := by rfl) :
    PN X c (.Call (.Name x p) (e :: es) [] pos) (fCallO S fa) := by
  obtain ⟨f, fd, h1, h2, h3, h4⟩ := F
  exact n_callO h1 hG.up hgd hr h2 h3 h4 ha hg hdb he hpl
/-- xs + ys, a new list -/
def fCat (fa fb : SE) : SL := fun ρ Q => fa ρ fun d => fb ρ fun e => match d, e with | .list xs, .list ys => xs.length + ys.length ≤ sizeLine ∧ Q (xs ++ ys) | _, _ => False
theorem n_cat {a b : Expr} {fa fb : SE} {pos : Pos} (ha : PB X c a fa) (hb : PB X c b fb) : PN X c (.BinOp a .Add b pos) (fCat fa fb) := by
  refine ⟨fun ρ Q Q' k h => ha.mono _ _ _ (fun d hd => hb.mono _ _ _ (fun e he => ?_) hd) h, pe_weak (pe_op op_cat ha.pe hb.pe) fun σ H Q ⟨B, ρ, ok, h⟩ => ⟨B, ρ, ok, ha.mono _ _ _ (fun d hd v B1 H1 g1 r1 => ⟨B1, ρ, ok.mono g1, hb.mono _ _ _ (fun e he u B2 H2 g2 r2 => ?_) hd⟩) h⟩⟩
  · cases d <;> cases e <;> first | exact he.elim | exact ⟨he.1, k _ he.2⟩
  · cases d <;> cases e <;> first | exact he.elim | skip
    obtain ⟨x, xs, rfl, h1, h2⟩ := (r1.mono g2).list g2.w
    obtain ⟨y, ys, rfl, h3, h4⟩ := r2.list g2.w
    refine ⟨x, y, xs, ys, rfl, rfl, h1, h3, by rw [rpa_len h2, rpa_len h4]; exact he.1, fun p hp => ?_⟩
    have g3 := Gr.newO (o := .lst (xs ++ ys)) g2.w hp
    exact he.2 p _ B2 _ ((g1.trans ok.w g2).trans ok.w g3) ((g1.trans ok.w g2).back hp) (Evl.fresh_back g2.w.sub hp) upd_same (rpa_app h2 h4)
end
end DL
namespace DL
open PySem L2 PySem.Spec PyProof.Rows
/-! ### is True, is False -/
def isBool (b : Bool) : D → Bool | .bool a => decide (a = b) | _ => false
def gIsB : GC | d, .bool b, Q => Q (isBool b d) | _, _, _ => False
theorem m_IsB : MonoC gIsB := fun d e Q Q' k h => by cases e <;> first | exact k _ h | exact h.elim
section
variable {X : Cx} {c : C}
theorem op_isBA : OpR X (compareOp .Is) fun x y H Q => ∃ b : Bool, y = .bl b ∧ Q (.bl (match x with | .bl a => decide (a = b) | _ => false)) H := by
  intro pins s σ H x y v u Q I rx ry ⟨b, e, q⟩
  subst e
  cases (show u = Value.bool b from ry)
  have no : plainIs v (.bool b) = true → (∀ a, v ≠ Value.bool a) → Q (.bl false) H → wpAny (model X.prog X.w) X.A (compareOp .Is v (.bool b)) (EP X pins σ Q) X.xe s := fun hp hn hq =>
    wpAny_is_other hp (hn b) ⟨.bl false, H, I, rfl, hq⟩
  cases x with
  | bl a =>
    cases (show v = Value.bool a from rx)
    by_cases e : a = b
    · subst e
      exact wpAny_is_self rfl ⟨.bl true, H, I, rfl, by simpa using q⟩
    · exact wpAny_is_other rfl (fun z => e (Value.bool.inj z)) ⟨.bl false, H, I, rfl, by simpa [e] using q⟩
  | non => cases (show v = Value.none from rx); exact no rfl (fun _ z => nomatch z) q
  | int i => obtain ⟨t, e⟩ := rx; subst e; exact no rfl (fun _ z => nomatch z) q
  | str i => obtain ⟨t, e⟩ := rx; subst e; exact no rfl (fun _ z => nomatch z) q
  | byt i => obtain ⟨t, e⟩ := rx; subst e; exact no rfl (fun _ z => nomatch z) q
  | flt i => obtain ⟨t, e⟩ := rx; subst e; exact no rfl (fun _ z => nomatch z) q
  | ref a => cases (show v = Value.ref a from rx); exact no rfl (fun _ z => nomatch z) q
  | ty n => cases (show v = Value.type n from rx); exact no rfl (fun _ z => nomatch z) q
theorem o_isB : CmpD X c .Is gIsB := ⟨m_IsB, opr_weak op_isBA fun x y H Q ⟨B, d, e, w, r1, r2, q⟩ => by
  cases e <;> first | exact q.elim | skip
  rename_i b
  refine ⟨b, r2.bl, ?_⟩
  rcases r1 with r | ⟨p, vs, ds, rfl, rfl, _⟩
  · cases r <;> exact q
  · exact q⟩
/-! ### [x, ..] * n, xs[::-1], a new list either way -/
def fRepL (fa fb : SE) : SL := fun ρ Q => fa ρ fun d => fb ρ fun e => match d, e with | .list xs, .int k => (-(2 ^ 63) ≤ k ∧ k < 2 ^ 63 ∧ xs.length * k.toNat ≤ sizeLine) ∧ Q (List.replicate k.toNat xs).flatten | _, _ => False
theorem rpa_repL {B : Hp} {vs : List V} {ds : List D} (h : RpA B vs ds) : ∀ k : Nat, RpA B (List.replicate k vs).flatten (List.replicate k ds).flatten
  | 0 => .nil
  | k + 1 => by rw [List.replicate_succ, List.replicate_succ, List.flatten_cons, List.flatten_cons]; exact rpa_app h (rpa_repL h k)
theorem n_repL {a b : Expr} {fa fb : SE} {pos : Pos} (ha : PB X c a fa) (hb : PB X c b fb) : PN X c (.BinOp a .Mult b pos) (fRepL fa fb) := by
  refine ⟨fun ρ Q Q' k h => ha.mono _ _ _ (fun d hd => hb.mono _ _ _ (fun e he => ?_) hd) h, pe_weak (pe_op op_rep ha.pe hb.pe) fun σ H Q ⟨B, ρ, ok, h⟩ => ⟨B, ρ, ok, ha.mono _ _ _ (fun d hd v B1 H1 g1 r1 => ⟨B1, ρ, ok.mono g1, hb.mono _ _ _ (fun e he u B2 H2 g2 r2 => ?_) hd⟩) h⟩⟩
  · cases d <;> cases e <;> first | exact he.elim | exact ⟨he.1, k _ he.2⟩
  · cases d <;> cases e <;> first | exact he.elim | skip
    rename_i ds k
    obtain ⟨x, xs, rfl, h1, h2⟩ := (r1.mono g2).list g2.w
    rw [r2.int]
    refine ⟨x, k, xs, rfl, rfl, h1, he.1.1, he.1.2.1, by rw [rpa_len h2]; exact he.1.2.2, fun p hp => ?_⟩
    have g3 := Gr.newO (o := .lst (List.replicate k.toNat xs).flatten) g2.w hp
    exact he.2 p _ B2 _ ((g1.trans ok.w g2).trans ok.w g3) ((g1.trans ok.w g2).back hp) (Evl.fresh_back g2.w.sub hp) upd_same (rpa_repL h2 _)
theorem n_revL {e : Expr} {fa : SE} {k : Nat} {p1 p2 p3 pos : Pos} (ha : PB X c e fa) : PN X c (.Subscript e (.Slice none none (some (.UnaryOp .USub (.Constant (.int 1) k p1) p2)) p3) pos) (fLRev fa) := by
  refine ⟨fun ρ Q Q' k h => ha.mono _ _ _ (fun d hd => ?_) h, pe_weak (pe_revL ha.pe) fun σ H Q ⟨B, ρ, ok, h⟩ => ⟨B, ρ, ok, ha.mono _ _ _ (fun d hd v B1 H1 g1 r1 => ?_) h⟩⟩
  · cases d <;> first | exact hd.elim | exact k _ hd
  · cases d <;> first | exact hd.elim | skip
    obtain ⟨a, xs, rfl, h1, h2⟩ := r1.list g1.w
    refine ⟨a, xs, rfl, SqL.of h1, fun l hl => ?_⟩
    have g2 := Gr.newO (o := .lst xs.reverse) g1.w hl
    exact hd l _ B1 _ (g1.trans ok.w g2) (g1.back hl) (Evl.fresh_back g1.w.sub hl) upd_same (rpa_rev h2)
def fIfN (t : ST) (fa fb : SL) : SL := fun ρ Q => t ρ fun b => if b = true then fa ρ Q else fb ρ Q
theorem n_if {t : ST} {cc a b : Expr} {fa fb : SL} {pos : Pos} (ht : PTd X c cc t) (ha : PN X c a fa) (hb : PN X c b fb) : PN X c (.IfExp cc a b pos) (fIfN t fa fb) := by
  refine ⟨fun ρ Q Q' k h => ht.mono _ _ _ (fun b hd => ?_) h, pe_weak (pe_ifExp ht.pt ha.pe hb.pe) fun σ H Q ⟨B, ρ, ok, h⟩ => ⟨B, ρ, ok, ht.mono _ _ _ (fun d hd B1 H1 g1 => ?_) h⟩⟩
  · cases b with
    | true => exact ha.mono _ _ _ k hd
    | false => exact hb.mono _ _ _ k hd
  · cases d with
    | true => exact ⟨B1, ρ, ok.mono g1, ha.mono _ _ _ (fun ds he p vs B2 H2 g2 h0 h1 h2 r2 => he p vs B2 H2 (g1.trans ok.w g2) (g1.back h0) h1 h2 r2) hd⟩
    | false => exact ⟨B1, ρ, ok.mono g1, hb.mono _ _ _ (fun ds he p vs B2 H2 g2 h0 h1 h2 r2 => he p vs B2 H2 (g1.trans ok.w g2) (g1.back h0) h1 h2 r2) hd⟩
end
end DL
namespace DL
open PySem L2 PySem.Spec PyProof.Rows
/-- a def that is never called so -/
theorem fng_zero {G : C → Prop} {P : Program} {w : World} {K : PySem.W.Frag} {mg : Str → Option Value} {base : Heap} {k : Nat} {f : Addr} {fd : FuncData} {ps : List Str} {S : Spec} (h : ∀ ss Q, ¬ S ss Q) : FnG G P w K mg base k f fd ps S :=
  ⟨fun ss Q _ _ q => (h ss Q q).elim, fun ss Q q => (h ss Q q).elim, fun _ _ _ _ _ _ _ _ _ _ _ _ _ ⟨_, _, _, _, ss, _, q⟩ => (h ss _ q).elim⟩
end DL
namespace DL
open PySem L2 PySem.Spec PyProof.Rows
/-! ### a, b = x, y where a name is seen by a comprehension: by way of the tuple -/
theorem MOk.newO {c : C} {H B' H' : Hp} {p : Addr} {o : HO} (hp : H' p = none) : ∀ {vs : List V} {ss : List Sl}, MOk c H B' H' vs ss → MOk c H B' (upd H' p o) vs ss
  | [], [], _ => trivial
  | _ :: _, .sh _ :: _, h => ⟨h.1, MOk.newO hp h.2⟩
  | _ :: _, .ow _ :: _, h => by
    obtain ⟨⟨q, ws, e, h0, h1, h2, r⟩, h3⟩ := h
    exact ⟨⟨q, ws, e, h0, h1, by rw [upd_ne (ne_of_none h2 hp)]; exact h2, r⟩, MOk.newO hp h3⟩
  | _ :: _, .un :: _, h => h
  | _ :: _, .bg :: _, h => h
  | _ :: _, .ex _ :: _, h => h
  | [], _ :: _, h => h
  | _ :: _, [], h => h
section
variable {X : Cx} {c : C}
theorem s_parG (i j : Nat) {x y : Str} {a b : Expr} {f : SM} {px py pt pos : Pos} {kt k2 : Nat} {pt2 : Pos} (hc : X.calm = true) (hN : X.N.Nodup) (ha : PMd X c [a, b] f) (hi : X.N[i]? = some x := by rfl) (hj : X.N[j]? = some y := by rfl)
    (hx : Loc X.env.scope x := by first | exact Or.inl rfl | exact Or.inr rfl) (hy : Loc X.env.scope y := by first | exact Or.inl rfl | exact Or.inr rfl)
    (fx : X.fn x = true ∨ X.env.scope.names.lookup x = some .local := by first | exact .inl rfl | exact .inr rfl) (fy : X.fn y = true ∨ X.env.scope.names.lookup y = some .local := by first | exact .inl rfl | exact .inr rfl)
    (hw : swappedStores [.Tuple [.Name x px, .Name y py] kt pt] (.Tuple [a, b] k2 pt2) X.env = pure none := by rfl)
    (hs : swapsWithSole [.Tuple [.Name x px, .Name y py] kt pt] (.Tuple [a, b] k2 pt2) pos.line X.env = pure false := by rfl)
    (h1 : (assignEach [.Tuple [.Name x px, .Name y py] kt pt] X.env).map (·.2) = [assign (.Tuple [.Name x px, .Name y py] kt pt) X.env] := by rfl)
    (hn : (assignEach [.Name x px, .Name y py] X.env).length = 2 := by rfl) (hst : (assignEach [.Name x px, .Name y py] X.env).findIdx? (·.1) = none := by rfl)
    (e1 : (assignEach [.Name x px, .Name y py] X.env).map (·.2) = assign (.Name x px) X.env :: (assignEach [.Name y py] X.env).map (·.2) := by rfl) (e2 : (assignEach [.Name y py] X.env).map (·.2) = assign (.Name y py) X.env :: (assignEach [] X.env).map (·.2) := by rfl) :
    PSd X c (.Assign [.Tuple [.Name x px, .Name y py] kt pt] (.Tuple [a, b] k2 pt2) pos) (fPar [i, j] f) := by
  refine ⟨mono_Par ha.mono, ps_weak (ps_asg (pe_tup ha.pa) (pg_tup hc (pgs_cons (pg_name hN hi hx fx) (pgs_cons (pg_name hN hj hy fy) pgs_nil e2) e1) hn hst) hs hw h1) fun D σ H ⟨B, ρ, ok, h⟩ => ⟨B, ρ, ok, ha.mono _ _ _ (fun ss hd vs B' H' g r => ?_) h⟩⟩
  have hv := r.len
  rw [← hd.1] at hv
  refine ⟨by rw [hv]; exact Nat.le_of_lt (small1000 (by show 2 ≤ 1000; decide)), fun p hp => ?_⟩
  have g2 := Gr.newO (o := .tup vs) g.w hp
  have hq := hd.2 _ B' _ (putAll' ok (g.trans ok.w g2) hd.1 (r.newO hp)) g.b
  match vs, hv with
  | [v, w], _ => exact ⟨p, [v, w], rfl, SqT.of upd_same, rfl, v, [w], rfl, w, [], rfl, rfl, hq⟩
theorem s_parG3 (i j l : Nat) {x y z : Str} {a b d : Expr} {f : SM} {px py pz pt pos : Pos} {kt k2 : Nat} {pt2 : Pos} (hc : X.calm = true) (hN : X.N.Nodup) (ha : PMd X c [a, b, d] f) (hi : X.N[i]? = some x := by rfl) (hj : X.N[j]? = some y := by rfl) (hl : X.N[l]? = some z := by rfl)
    (hx : Loc X.env.scope x := by first | exact Or.inl rfl | exact Or.inr rfl) (hy : Loc X.env.scope y := by first | exact Or.inl rfl | exact Or.inr rfl) (hz : Loc X.env.scope z := by first | exact Or.inl rfl | exact Or.inr rfl)
    (fx : X.fn x = true ∨ X.env.scope.names.lookup x = some .local := by first | exact .inl rfl | exact .inr rfl) (fy : X.fn y = true ∨ X.env.scope.names.lookup y = some .local := by first | exact .inl rfl | exact .inr rfl) (fz : X.fn z = true ∨ X.env.scope.names.lookup z = some .local := by first | exact .inl rfl | exact .inr rfl)
    (hw : swappedStores [.Tuple [.Name x px, .Name y py, .Name z pz] kt pt] (.Tuple [a, b, d] k2 pt2) X.env = pure none := by rfl)
    (hs : swapsWithSole [.Tuple [.Name x px, .Name y py, .Name z pz] kt pt] (.Tuple [a, b, d] k2 pt2) pos.line X.env = pure false := by rfl)
    (h1 : (assignEach [.Tuple [.Name x px, .Name y py, .Name z pz] kt pt] X.env).map (·.2) = [assign (.Tuple [.Name x px, .Name y py, .Name z pz] kt pt) X.env] := by rfl)
    (hn : (assignEach [.Name x px, .Name y py, .Name z pz] X.env).length = 3 := by rfl) (hst : (assignEach [.Name x px, .Name y py, .Name z pz] X.env).findIdx? (·.1) = none := by rfl)
    (e1 : (assignEach [.Name x px, .Name y py, .Name z pz] X.env).map (·.2) = assign (.Name x px) X.env :: (assignEach [.Name y py, .Name z pz] X.env).map (·.2) := by rfl) (e2 : (assignEach [.Name y py, .Name z pz] X.env).map (·.2) = assign (.Name y py) X.env :: (assignEach [.Name z pz] X.env).map (·.2) := by rfl) (e3 : (assignEach [.Name z pz] X.env).map (·.2) = assign (.Name z pz) X.env :: (assignEach [] X.env).map (·.2) := by rfl) :
    PSd X c (.Assign [.Tuple [.Name x px, .Name y py, .Name z pz] kt pt] (.Tuple [a, b, d] k2 pt2) pos) (fPar [i, j, l] f) := by
  refine ⟨mono_Par ha.mono, ps_weak (ps_asg (pe_tup ha.pa) (pg_tup hc (pgs_cons (pg_name hN hi hx fx) (pgs_cons (pg_name hN hj hy fy) (pgs_cons (pg_name hN hl hz fz) pgs_nil e3) e2) e1) hn hst) hs hw h1) fun D σ H ⟨B, ρ, ok, h⟩ => ⟨B, ρ, ok, ha.mono _ _ _ (fun ss hd vs B' H' g r => ?_) h⟩⟩
  have hv := r.len
  rw [← hd.1] at hv
  refine ⟨by rw [hv]; exact Nat.le_of_lt (small1000 (by show 3 ≤ 1000; decide)), fun p hp => ?_⟩
  have g2 := Gr.newO (o := .tup vs) g.w hp
  have hq := hd.2 _ B' _ (putAll' ok (g.trans ok.w g2) hd.1 (r.newO hp)) g.b
  match vs, hv with
  | [v, w, u], _ => exact ⟨p, [v, w, u], rfl, SqT.of upd_same, rfl, v, [w, u], rfl, w, [u], rfl, u, [], rfl, rfl, hq⟩
end
end DL
namespace DL.Go
open DL PySem L2 PySem.Spec PyProof.Rows
/-! ### readings step by step -/
section
variable {ρ : Env} {Q : D → Prop} {R : List D → Prop} {E : En}
theorem lc_go {fa : SE} {fl : SL} (h : fa ρ fun d => fl ρ fun ds => R (d :: ds)) : fLC fa fl ρ R := h
theorem ln_go (h : R []) : fLN ρ R := h
theorem c_go {d : D} (h : Q d) : fC d ρ Q := h
theorem v_sh {i : Nat} {d : D} (e : lk ρ i = .sh d) (h : Q d) : fV i ρ Q := by unfold fV; rw [e]; exact h
theorem n_sh {i : Nat} {d : D} (e : lk ρ i = .sh d) (h : Q d) : fN i ρ Q := by unfold fN; rw [e]; exact h
theorem n_ow {i : Nat} {ds : List D} (e : lk ρ i = .ow ds) (h : Q (.list ds)) : fN i ρ Q := by unfold fN; rw [e]; exact h
theorem tup_go {f : SL} (h : f ρ fun ds => Q (.tuple ds)) : fTup f ρ Q := h
theorem nv_go {f : SL} (h : f ρ fun ds => Q (.list ds)) : fNV f ρ Q := h
theorem dict1_go {k : Key} {fa : SE} (h : fa ρ fun d => Q (.dict [(kD k, d)])) : fDict1 k fa ρ Q := h
theorem bin_go {g : G2} {fa fb : SE} (h : fa ρ fun d => fb ρ fun e => g d e Q) : fBin g fa fb ρ Q := h
theorem slT_go {fa : SE} {fl fh : SO} (h : fa ρ fun d => fl ρ fun lo => fh ρ fun hi => match d with | .tuple ds => Q (.tuple (cutD ds lo hi)) | _ => False) : fSlT fa fl fh ρ Q := h
theorem slL_go {fa : SE} {fl fh : SO} (h : fa ρ fun d => fl ρ fun lo => fh ρ fun hi => match d with | .list ds => R (cutD ds lo hi) | _ => False) : fSlL fa fl fh ρ R := h
theorem on_go {Q : Option Int → Prop} (h : Q none) : fON ρ Q := h
theorem os_go {fa : SE} {Q : Option Int → Prop} (h : fa ρ fun d => match d with | .int i => Q (some i) | _ => False) : fOS fa ρ Q := h
theorem sub_go {i j : Int} (h : Q (.int (i - j))) : gSub (.int i) (.int j) Q := h
theorem addI_go {i j : Int} (h : Q (.int (i + j))) : gAdd (.int i) (.int j) Q := h
theorem addT_go {xs ys : List D} (h : xs.length + ys.length ≤ sizeLine) (k : Q (.tuple (xs ++ ys))) : gAdd (.tuple xs) (.tuple ys) Q := ⟨h, k⟩
theorem addL_go {xs ys : List D} (h : xs.length + ys.length ≤ sizeLine) (k : Q (.list (xs ++ ys))) : gAdd (.list xs) (.list ys) Q := ⟨h, k⟩
theorem repT_go {ds : List D} {k : Int} (h1 : ds ≠ []) (h2 : 0 ≤ k) (h3 : k ≤ 1000) (h4 : ds.length ≤ 1000) (h : Q (.tuple (List.replicate k.toNat ds).flatten)) : gRepT (.tuple ds) (.int k) Q := ⟨h1, h2, h3, h4, h⟩
theorem mulI_go {i j : Int} (h : CMulW i j) (k : Q (.int (i * j))) : gMul (.int i) (.int j) Q := ⟨h, k⟩
theorem divI_go {i j : Int} (h : j.natAbs.log2 < 9000) (p : 0 < j) (k : Q (.int (i / j))) : gDiv (.int i) (.int j) Q := ⟨h, by rw [if_pos p]; exact k⟩
theorem modI_go {i j : Int} (p : 0 < j) (k : Q (.int (i % j))) : gMod (.int i) (.int j) Q := by unfold gMod; dsimp only; rw [if_pos p]; exact k
theorem ixT_go {ds : List D} {i : Int} {d : D} (e : atI ds i = some d) (h : Q d) : gIx (.tuple ds) (.int i) Q := by unfold gIx; dsimp only; rw [e]; exact h
theorem ixL_go {ds : List D} {i : Int} {d : D} (e : atI ds i = some d) (h : Q d) : gIx (.list ds) (.int i) Q := by unfold gIx; dsimp only; rw [e]; exact h
theorem neg_go {fa : SE} (h : fa ρ fun d => match d with | .int i => Q (.int (-i)) | _ => False) : fNeg fa ρ Q := h
theorem seqT_go {fa : SE} (h : fa ρ fun d => match seqOf d with | some ds => R ds | none => False) : fSeq fa ρ R := h
theorem call_go {S : Spec} {fa : SA} (h : fa ρ fun ss => S ss Q) : fCall S fa ρ Q := h
theorem callK_go {S : Spec} {is : List Nat} {fa : SA} (h : fa ρ fun ss => S (perm is ss) Q) : fCallK S is fa ρ Q := h
theorem cb_go {g : GB} {fa : SL} (h : fa ρ fun ds => g ds Q) : fCB g fa ρ Q := h
theorem if_go {t : ST} {fa fb : SE} (h : t ρ fun b => if b = true then fa ρ Q else fb ρ Q) : fIf t fa fb ρ Q := h
theorem an_go {J : List Sl → Prop} (h : J []) : fAN ρ J := h
theorem ac_go {fa : SE} {fr : SA} {J : List Sl → Prop} (h : fa ρ fun d => fr ρ fun ss => J (.sh d :: ss)) : fAC fa fr ρ J := h
theorem ab_go {i : Nat} {fr : SA} {J : List Sl → Prop} (e : lk ρ i = .bg) (h : fr ρ fun ss => J (.bg :: ss)) : fAB i fr ρ J := by unfold fAB; rw [e]; exact h
theorem mv_go {fa : SE} {fr : SM} {J : List Sl → Prop} (h : fa ρ fun d => fr ρ fun ss => J (.sh d :: ss)) : fMV fa fr ρ J := h
theorem par_go {js : List Nat} {f : SM} (h : f ρ fun ss => js.length = ss.length ∧ E.nx (setAll ρ js ss)) : fPar js f E ρ := h
theorem sq_go {A B : SS} (h : A { E with nx := B E } ρ) : fSeqS A B E ρ := h
theorem set_go {i : Nat} {fa : SE} (h : fa ρ fun d => E.nx (ρ.set i (.sh d))) : fSet i fa E ρ := h
theorem setN_go {i : Nat} {fl : SL} (h : fl ρ fun ds => E.nx (ρ.set i (.ow ds))) : fSetN i fl E ρ := h
theorem ret_go {fa : SE} (h : fa ρ E.rt) : fRet fa E ρ := h
theorem asg_go {fa : SE} {g : GT} (h : fa ρ fun d => g d ρ E.nx) : fAsg fa g E ρ := h
theorem ifs_go {t : ST} {f g : SS} (h : t ρ fun b => if b = true then f E ρ else g E ρ) : fIfS t f g E ρ := h
theorem next_go (h : E.nx ρ) : fNext E ρ := h
theorem nm_go {i : Nat} {d : D} {J : Env → Prop} (h : J (ρ.set i (.sh d))) : gNm i d ρ J := h
theorem app_go {i : Nat} {fa : SE} {ds : List D} (e : lk ρ i = .ow ds) (h : fa ρ fun d => ds.length < most ∧ E.nx (ρ.set i (.ow (ds ++ [d])))) : fApp i fa E ρ := by unfold fApp; rw [e]; exact h
theorem ext_go {i : Nat} {fa : SE} {ds : List D} (e : lk ρ i = .ow ds) (h : fa ρ fun d => (match d with | .list es => ds.length + es.length ≤ most ∧ E.nx (ρ.set i (.ow (ds ++ es))) | _ => False)) : fExt i fa E ρ := by unfold fExt; rw [e]; exact h
theorem fors_go {fi : SI} {g : GT} {body : SS} (h : fi ρ fun ds => fFor g body ds E ρ) : fForS fi g body E ρ := h
theorem cmp_go {g : GC} {fa fb : SE} {J : Bool → Prop} (h : fa ρ fun d => fb ρ fun e => g d e J) : fCmp g fa fb ρ J := h
theorem tv_go {fa : SE} {J : Bool → Prop} (h : fa ρ fun d => match d with | .bool b => J b | _ => False) : fTV fa ρ J := h
theorem not_go {t : ST} {J : Bool → Prop} (h : t ρ fun b => J (!b)) : fNot t ρ J := h
theorem and_go {s t : ST} {J : Bool → Prop} (h : s ρ fun b => if b = true then t ρ J else J false) : fAnd s t ρ J := h
theorem or_go {s t : ST} {J : Bool → Prop} (h : s ρ fun b => if b = true then J true else t ρ J) : fOr s t ρ J := h
theorem lenT_go {ds : List D} (h : Q (.int (ds.length : Int))) : bLen [.tuple ds] Q := h
theorem lenL_go {ds : List D} (h : Q (.int (ds.length : Int))) : bLen [.list ds] Q := h
theorem absI_go {i : Int} (h : Q (.int (if i < 0 then -i else i))) : bAbs [.int i] Q := h
theorem intI_go {i : Int} (h : Q (.int i)) : bInt [.int i] Q := h
theorem max2_go {i j : Int} (h : Q (.int (if j > i then j else i))) : bMax2 [.int i, .int j] Q := h
theorem min2_go {i j : Int} (h : Q (.int (if j < i then j else i))) : bMin2 [.int i, .int j] Q := h
theorem tupL_go {ds : List D} (h : Q (.tuple ds)) : bTuple [.list ds] Q := h
theorem tupT_go {ds : List D} (h : Q (.tuple ds)) : bTuple [.tuple ds] Q := h
theorem gv_go {g : GC} {d e : D} (h : g d e fun b => Q (.bool b)) : gv g d e Q := h
theorem ltI_go {i j : Int} {J : Bool → Prop} (h : J (decide (i < j))) : gLt (.int i) (.int j) J := h
theorem leI_go {i j : Int} {J : Bool → Prop} (h : J (decide (i ≤ j))) : gLe (.int i) (.int j) J := h
theorem gtI_go {i j : Int} {J : Bool → Prop} (h : J (decide (j < i))) : gGt (.int i) (.int j) J := h
theorem geI_go {i j : Int} {J : Bool → Prop} (h : J (decide (j ≤ i))) : gGe (.int i) (.int j) J := h
theorem eqI_go {i j : Int} {J : Bool → Prop} (h : J (decide (i = j))) : gEq (.int i) (.int j) J := h
theorem neI_go {i j : Int} {J : Bool → Prop} (h : J (!decide (i = j))) : gNe (.int i) (.int j) J := h
theorem eqS_go {i j : Str} {J : Bool → Prop} (h : J (decide (i = j))) : gEq (.str i) (.str j) J := h
theorem rng1_go {fa : SE} (h : fa ρ fun d => match d with | .int j => -(2 ^ 62) ≤ j ∧ j < 2 ^ 62 ∧ R (rng 0 j.toNat) | _ => False) : fRng1 fa ρ R := h
theorem sqT_go {n : Nat} {gs : GTs} {ds : List D} {J : Env → Prop} (h : ds.length = n) (k : gs ds ρ J) : gSq n gs (.tuple ds) ρ J := ⟨h, k⟩
theorem sqL_go {n : Nat} {gs : GTs} {ds : List D} {J : Env → Prop} (h : ds.length = n) (k : gs ds ρ J) : gSq n gs (.list ds) ρ J := ⟨h, k⟩
theorem gsC_go {g : GT} {gs : GTs} {d : D} {ds : List D} {J : Env → Prop} (h : g d ρ fun ρ' => gs ds ρ' J) : gsCons g gs (d :: ds) ρ J := h
theorem gsN_go {J : Env → Prop} (h : J ρ) : gsNil [] ρ J := ⟨rfl, h⟩
theorem frz_go {i : Nat} {f : SS} {ds : List D} (e : lk ρ i = .ow ds) (h : f E (ρ.set i (.sh (.list ds)))) : fFrz i f E ρ := by unfold fFrz; rw [e]; exact h
theorem frz_sh {i : Nat} {f : SS} {d : D} (e : lk ρ i = .sh d) (h : f E ρ) : fFrz i f E ρ := by unfold fFrz; rw [e]; exact h
theorem mn_go {fl : SL} {fr : SM} {J : List Sl → Prop} (h : fl ρ fun ds => fr ρ fun ss => J (.ow ds :: ss)) : fMN fl fr ρ J := h
theorem andV_go {fa fb : SE} (h : fa ρ fun d => match d with | .bool b => if b = true then fb ρ Q else Q (.bool false) | _ => False) : fAndV fa fb ρ Q := h
theorem cat_go {fa fb : SE} (h : fa ρ fun d => fb ρ fun e => match d, e with | .list xs, .list ys => xs.length + ys.length ≤ sizeLine ∧ R (xs ++ ys) | _, _ => False) : fCat fa fb ρ R := h
theorem callO_go {S : Spec} {fa : SA} (h : fa ρ fun ss => S ss fun d => match d with | .list ds => R ds | _ => False) : fCallO S fa ρ R := h
theorem retO_go {i : Nat} {ds : List D} (e : lk ρ i = .ow ds) (h : E.ro ds) : fRetO i E ρ := by unfold fRetO; rw [e]; exact h
theorem retN_go {f : SL} (h : f ρ E.ro) : fRetN f E ρ := h
theorem ifN_go {t : ST} {fa fb : SL} (h : t ρ fun b => if b = true then fa ρ R else fb ρ R) : fIfN t fa fb ρ R := h
theorem yes_go {J : Bool → Prop} (h : J true) : fYes ρ J := h
theorem isI_go {T : String} {fa : SE} (h : fa ρ fun d => Q (.bool (DL.isB (tyN d) T))) : fIsI T fa ρ Q := h
theorem isB_go {d : D} {b : Bool} {J : Bool → Prop} (h : J (isBool b d)) : gIsB d (.bool b) J := h
theorem isN_go {d : D} {J : Bool → Prop} (h : J (isNone d)) : gIsN d .none J := h
theorem notN_go {d : D} {J : Bool → Prop} (h : J (!isNone d)) : gNotN d .none J := h
theorem lrev_go {fa : SE} (h : fa ρ fun d => match d with | .list ds => R ds.reverse | _ => False) : fLRev fa ρ R := h
theorem bk_go (h : E.bk ρ) : fBreak E ρ := h
theorem ct_go (h : E.ct ρ) : fCont E ρ := h
theorem rng2_go {fa fb : SE} (h : fa ρ fun d => fb ρ fun e => match d, e with | .int i, .int j => (-(2 ^ 62) ≤ i ∧ i < 2 ^ 62 ∧ -(2 ^ 62) ≤ j ∧ j < 2 ^ 62) ∧ R (rng i (j - i).toNat) | _, _ => False) : fRng2 fa fb ρ R := h
theorem orV_go {fa fb : SE} (h : fa ρ fun d => match d with | .bool b => if b = true then Q (.bool true) else fb ρ Q | _ => False) : fOrV fa fb ρ Q := h
theorem notV_go {fa : SE} (h : fa ρ fun d => match d with | .bool b => Q (.bool (!b)) | _ => False) : fNotV fa ρ Q := h
theorem setIx_go {i : Nat} {fa fk : SE} {ds : List D} (e : lk ρ i = .ow ds) (h : fa ρ fun d => fk ρ fun j => match j with | .int j => (match ixN ds.length j with | some m => E.nx (ρ.set i (.ow (ds.set m d))) | none => False) | _ => False) : fSetIx i fa fk E ρ := by unfold fSetIx; rw [e]; exact h
theorem ifd {p : Prop} [Decidable p] {A B : Prop} (h : p → A) (k : ¬ p → B) : if decide p = true then A else B := by
  by_cases z : p
  · rw [if_pos (decide_eq_true z)]; exact h z
  · rw [if_neg (by simpa using z)]; exact k z
theorem ifdn {p : Prop} [Decidable p] {A B : Prop} (h : ¬ p → A) (k : p → B) : if (!decide p) = true then A else B := by
  by_cases z : p
  · rw [if_neg (by simpa using z)]; exact k z
  · rw [if_pos (by simpa using z)]; exact h z
theorem ifT {p : Prop} [Decidable p] {A B : Prop} (h : p) (k : A) : if p then A else B := by rw [if_pos h]; exact k
theorem ifF {p : Prop} [Decidable p] {A B : Prop} (h : ¬ p) (k : B) : if p then A else B := by rw [if_neg h]; exact k
end
end DL.Go
namespace DL
namespace T
open PySem L2 PySem.Spec PyProof.Rows
/-! ### specs by one datum -/
def spE {α : Type} (args : α → List Sl) (ok : α → Prop) (F : α → D) : Spec := fun ss Q => ∃ a : α, ss = args a ∧ ok a ∧ Q (F a)
theorem spE_mono {α : Type} {args : α → List Sl} {ok : α → Prop} {F : α → D} : ∀ ss (Q Q' : D → Prop), (∀ d, Q d → Q' d) → spE args ok F ss Q → spE args ok F ss Q' := fun ss Q Q' k ⟨a, e, h, q⟩ => ⟨a, e, h, k _ q⟩
theorem spE_len {α : Type} {args : α → List Sl} {ok : α → Prop} {F : α → D} {n : Nat} (h : ∀ a, (args a).length = n) : ∀ ss (Q : D → Prop), spE args ok F ss Q → ss.length = n := fun ss Q ⟨a, e, _⟩ => by rw [e]; exact h a
def spA {α β : Type} (args : α → List Sl) (ok : α → Prop) (R : α → β → Prop) (F : β → D) : Spec := fun ss Q => ∃ a : α, ss = args a ∧ ok a ∧ ∀ b, R a b → Q (F b)
theorem spA_mono {α β : Type} {args : α → List Sl} {ok : α → Prop} {R : α → β → Prop} {F : β → D} : ∀ ss (Q Q' : D → Prop), (∀ d, Q d → Q' d) → spA args ok R F ss Q → spA args ok R F ss Q' := fun ss Q Q' k ⟨a, e, h, q⟩ => ⟨a, e, h, fun b hb => k _ (q b hb)⟩
theorem spA_len {α β : Type} {args : α → List Sl} {ok : α → Prop} {R : α → β → Prop} {F : β → D} {n : Nat} (h : ∀ a, (args a).length = n) : ∀ ss (Q : D → Prop), spA args ok R F ss Q → ss.length = n := fun ss Q ⟨a, e, _⟩ => by rw [e]; exact h a
/-! ### surds -/
structure S4 where
  a : Int
  b : Int
  c : Int
  d : Int
def S4.D (s : S4) : DL.D := .tuple [.int s.a, .int s.b, .int s.c, .int s.d]
/-- the greatest that divides the three -/
def g3 (a b c : Int) : Int := (Int.gcd (Int.gcd a b) c : Nat)
def nrm (a b c d : Int) : S4 := ⟨a / g3 a b c, b / g3 a b c, c / g3 a b c, if b ≠ 0 then d else 0⟩
def sgn (a b d : Int) : Int := if 0 ≤ a ∧ 0 ≤ b then (if 0 < a + b then 1 else 0) else if a ≤ 0 ∧ b ≤ 0 then -1 else if decide (b * b * d < a * a) = decide (0 < a) then 1 else -1
def mx (i j : Int) : Int := if j > i then j else i
def sumS (s t : S4) : S4 := nrm (s.a * t.c + t.a * s.c) (s.b * t.c + t.b * s.c) (s.c * t.c) (mx s.d t.d)
def mulS (s t : S4) : S4 := nrm (s.a * t.a + s.b * t.b * mx s.d t.d) (s.a * t.b + s.b * t.a) (s.c * t.c) (mx s.d t.d)
def negS (s : S4) : S4 := ⟨-s.a, -s.b, s.c, s.d⟩
def wholeS (s : S4) (r : Int) : Int := if 0 ≤ s.b then (s.a + r) / s.c else (s.a - r - 1) / s.c
/-- sizes -/
structure Bd (m : Nat) (s : S4) : Prop where
  a : Sm m s.a
  b : Sm m s.b
  c : Sm m s.c
  c0 : 0 < s.c
  d0 : 0 ≤ s.d
  d : Sm 20 s.d
theorem Bd.le {m n : Nat} {s : S4} (h : Bd m s) (l : m ≤ n) : Bd n s := ⟨h.a.le l, h.b.le l, h.c.le l, h.c0, h.d0, h.d⟩
theorem Bd.neg {m : Nat} {s : S4} (h : Bd m s) : Bd m (negS s) := ⟨h.a.neg, h.b.neg, h.c, h.c0, h.d0, h.d⟩
theorem g3_pos {a b c : Int} (hc : 0 < c) : 0 < g3 a b c := by
  unfold g3
  have : Int.gcd (Int.gcd a b) c ≠ 0 := fun z => by
    have := (Int.gcd_eq_zero_iff.mp z).2
    omega
  omega
theorem g3_dvd (a b c : Int) : g3 a b c ∣ c := Int.gcd_dvd_right ..
theorem nrm_c {a b c : Int} (hc : 0 < c) : 0 < c / g3 a b c := by
  have h := g3_pos (a := a) (b := b) hc
  obtain ⟨k, e⟩ := g3_dvd a b c
  rw [show c / g3 a b c = k by rw [e]; first | (rw [← e]; exact Int.ediv_eq_of_eq_mul_right (by omega) e) | exact Int.mul_ediv_cancel_left k (by omega)]
  apply Classical.byContradiction
  intro z
  have := Int.mul_nonneg (a := g3 a b c) (b := -k) (by omega) (by omega)
  rw [Int.mul_neg] at this
  omega
theorem nrm_bd {m : Nat} {a b c d : Int} (ha : Sm m a) (hb : Sm m b) (hc : Sm m c) (c0 : 0 < c) (d0 : 0 ≤ d) (hd : Sm 20 d) : Bd m (nrm a b c d) := by
  have g := g3_pos (a := a) (b := b) c0
  refine ⟨ha.div g, hb.div g, hc.div g, nrm_c c0, ?_, ?_⟩
  · show 0 ≤ (if b ≠ 0 then d else 0)
    split <;> omega
  · show Sm 20 (if b ≠ 0 then d else 0)
    split
    · exact hd
    · exact (by decide : (0 : Int).natAbs < 2 ^ 20)
theorem mx_ok {i j : Int} (h0 : 0 ≤ i) (h1 : Sm 20 i) (k0 : 0 ≤ j) (k1 : Sm 20 j) : 0 ≤ mx i j ∧ Sm 20 (mx i j) := by
  unfold mx
  split <;> constructor <;> assumption
theorem Bd.sum {m : Nat} {s t : S4} (h : Bd m s) (k : Bd m t) : Bd (2 * m + 1) (sumS s t) := by
  obtain ⟨d0, d1⟩ := mx_ok h.d0 h.d k.d0 k.d
  exact nrm_bd (((h.a.mul k.c).add (k.a.mul h.c)).le (by omega)) (((h.b.mul k.c).add (k.b.mul h.c)).le (by omega)) ((h.c.mul k.c).le (by omega)) (Int.mul_pos h.c0 k.c0) d0 d1
theorem Bd.mul {m : Nat} {s t : S4} (h : Bd m s) (k : Bd m t) : Bd (2 * m + 21) (mulS s t) := by
  obtain ⟨d0, d1⟩ := mx_ok h.d0 h.d k.d0 k.d
  refine nrm_bd ((((h.a.mul k.a).le (l := 2 * m + 20) (by omega)).add (((h.b.mul k.b).mul d1).le (by omega))).le (by omega)) (((h.a.mul k.b).add ((h.b.mul k.a).le (by omega))).le (by omega)) ((h.c.mul k.c).le (by omega)) (Int.mul_pos h.c0 k.c0) d0 d1
/-- the root that both sides come to -/
def Rn (n r : Int) : Prop := if n < 2 then r = n else Rt n r
theorem rn_unique {n r s : Int} (h : Rn n r) (k : Rn n s) : r = s := by
  unfold Rn at h k
  split at h
  · rw [if_pos (by assumption)] at k; omega
  · rw [if_neg (by assumption)] at k; exact rt_unique h k
theorem rn_ex (n : Int) : ∃ r, Rn n r := by
  unfold Rn
  split
  · exact ⟨n, rfl⟩
  · exact rt_of (by omega)
noncomputable def rF (n : Int) : Int := Classical.choose (rn_ex n)
theorem rF_ok (n : Int) : Rn n (rF n) := Classical.choose_spec (rn_ex n)
/-- no square divides it -/
def SF (d : Int) : Prop := 2 ≤ d ∧ d ≤ 1000001 ∧ ∀ t : Int, 2 ≤ t → ¬ t * t ∣ d
theorem SF.sm {d : Int} (h : SF d) : Sm 20 d := by
  obtain ⟨h0, h1, _⟩ := h
  unfold Sm
  omega
theorem Bd.neg4 {m : Nat} {s : S4} (h : Bd m s) : Bd m (negS s) := h.neg
/-- the surd with a divisor of either sign -/
def nrmZ (a b c d : Int) : S4 := if c < 0 then nrm (-a) (-b) (-c) d else nrm a b c d
/-- the whole part of b times the root of d -/
noncomputable def gF (d b : Int) : Int := if 0 ≤ b then rF (b * b * d) else -rF (b * b * d) - 1
def pl4 (s h : S4) (n : Int) : S4 := ⟨n * s.a * h.c + h.a * s.c, n * s.b * h.c + h.b * s.c, s.c * h.c, mx s.d h.d⟩
noncomputable def wS (s : S4) : Int := wholeS s (rF (s.b * s.b * s.d))
noncomputable def wA (s h : S4) (n : Int) : Int := wS (pl4 s h n)
noncomputable def lA (s h : S4) (n : Int) : Int := -wS (negS (pl4 s h n))
/-- a slope between 0 and 1, over the root of D -/
structure Slp (D : Int) (s : S4) : Prop where
  lo : 0 ≤ s.a + gF D s.b
  hi : s.a + gF D s.b < s.c
  pos : s.b = 0 → 0 < s.a
/-- a slope and a height of one field -/
structure Pr (s h : S4) : Prop where
  sb : Bd 120 s
  hb : Bd 200 h
  fld : (mx s.d h.d = 0 ∧ s.b = 0 ∧ h.b = 0) ∨ SF (mx s.d h.d)
  slp : Slp (mx s.d h.d) s
/-- a slope alone -/
structure Sl1 (s : S4) : Prop where
  sb : Bd 120 s
  fld : (s.d = 0 ∧ s.b = 0) ∨ (s.b ≠ 0 ∧ SF s.d)
  slp : Slp s.d s
theorem shl1 {b : Nat} (h : b ≤ 100000) : CShl 1 ((b : Nat) : Int) := by
  refine ⟨by omega, ?_⟩
  have : Builtin.Int.intBits 1 = 1 := by decide
  rw [this]
  omega
theorem half_bits (n : Int) (h : 2 ≤ n) (hs : Sm 1940 n) {s : Int} (k : Rt n s) : ∃ b : Nat, ((Builtin.Int.intBits n : Nat) + 1 : Int) / 2 = (b : Nat) ∧ b ≤ 970 ∧ s < 2 ^ b := by
  have e : ((n.toNat : Nat) : Int) = n := Int.toNat_of_nonneg (by omega)
  have hb : Builtin.Int.intBits n ≤ 1940 := by
    rw [← e]
    refine bits_le (by decide) ?_
    have : n.natAbs = n.toNat := by omega
    unfold Sm at hs
    rwa [this] at hs
  refine ⟨(Builtin.Int.intBits n + 1) / 2, by omega, by omega, ?_⟩
  rw [← e] at k
  refine rt_first k _ ?_
  rw [e]
  omega
theorem rn_of {n s : Int} (h : ¬ n < 2) (k : Rt n s) : Rn n s := by
  unfold Rn
  rw [if_neg h]
  exact k
theorem rt_sm {n s : Int} (h : Rt n s) (k : Sm 1940 n) : Sm 1940 s := by
  obtain ⟨h0, h1, h2⟩ := h
  have : s ≤ n ∨ s ≤ 1 := by
    by_cases z : s ≤ 1
    · exact .inr z
    · refine .inl ?_
      have := Int.mul_le_mul_of_nonneg_left (a := 1) (b := s) (c := s) (by omega) h0
      omega
  unfold Sm at *
  have : 1 < 2 ^ 1940 := Nat.one_lt_two_pow (by decide)
  omega
theorem D4 (s : S4) : s.D = .tuple [.int s.a, .int s.b, .int s.c, .int s.d] := rfl
theorem seq_go {A B : SS} {E : En} {ρ : Env} (h : A { E with nx := B E } ρ) : fSeqS A B E ρ := h
theorem mw {i j : Int} {k l : Nat} (h : Sm k i) (h' : Sm l j) (hs : k + l + 2 ≤ 1000000 := by omega) : CMulW i j := Sm.mulw h h' hs
theorem abs_gcd (i : Int) : (if i < 0 then -i else i) = (i.natAbs : Int) := by
  split <;> omega
theorem g3_abs (a b c : Int) (hc : 0 < c) : ((Int.gcd ((Int.gcd (if a < 0 then -a else a) (if b < 0 then -b else b) : Nat) : Int) c : Nat) : Int) = g3 a b c := by
  unfold g3
  rw [abs_gcd, abs_gcd]
  simp [Int.gcd]
theorem g3_neg (a b c : Int) : g3 (-a) (-b) (-c) = g3 a b c := by
  unfold g3
  simp [Int.gcd]
theorem g3_log {a b c : Int} (hc : 0 < c) (h : Sm 4000 c) : (g3 a b c).natAbs.log2 < 9000 := by
  have : g3 a b c ≤ c := Int.le_of_dvd hc (g3_dvd a b c)
  have g := g3_pos (a := a) (b := b) hc
  refine Sm.log (k := 4000) ?_
  unfold Sm at *
  omega
theorem fin4 {a b c d : Int} {Q : D → Prop} (hq : Q (nrm a b c d).D) : if ¬b = 0 then Q (.tuple [.int (a / g3 a b c), .int (b / g3 a b c), .int (c / g3 a b c), .int d]) else Q (.tuple [.int (a / g3 a b c), .int (b / g3 a b c), .int (c / g3 a b c), .int 0]) := by
  unfold nrm S4.D at hq
  try simp only at hq
  split
  · rename_i hb
    rw [if_pos hb] at hq
    exact hq
  · rename_i hb
    rw [if_neg hb] at hq
    exact hq
theorem fdiv_neg' (a : Int) {g : Int} (hg : 0 < g) : a.fdiv (-g) = (-a) / g := by
  rw [← Int.fdiv_eq_ediv_of_nonneg (-a) (by omega), ← Int.neg_fdiv_neg a (-g), Int.neg_neg]
theorem nrmZ_pos {a b c d : Int} (h : 0 < c) : nrmZ a b c d = nrm a b c d := by
  unfold nrmZ
  rw [if_neg (by omega)]
theorem sgn_go {a b d : Int} {Q : D → Prop} (hq : Q (.int (sgn a b d))) (m1 : CMulW a a) (m2 : CMulW b b) (m3 : CMulW (b * b) d) : if 0 ≤ a then
    if 0 ≤ b then if 0 < a + b then Q (PyData.int 1) else Q (PyData.int 0)
    else
      if a ≤ 0 then
        if b ≤ 0 then Q (PyData.int (-1))
        else CMulW a a ∧ CMulW b b ∧ CMulW (b * b) d ∧ if decide (b * b * d < a * a) = decide (0 < a) then Q (PyData.int 1) else Q (PyData.int (-1))
      else
        if false = true then Q (PyData.int (-1))
        else CMulW a a ∧ CMulW b b ∧ CMulW (b * b) d ∧ if decide (b * b * d < a * a) = decide (0 < a) then Q (PyData.int 1) else Q (PyData.int (-1))
  else
    if false = true then if 0 < a + b then Q (PyData.int 1) else Q (PyData.int 0)
    else
      if a ≤ 0 then
        if b ≤ 0 then Q (PyData.int (-1))
        else CMulW a a ∧ CMulW b b ∧ CMulW (b * b) d ∧ if decide (b * b * d < a * a) = decide (0 < a) then Q (PyData.int 1) else Q (PyData.int (-1))
      else
        if false = true then Q (PyData.int (-1))
        else CMulW a a ∧ CMulW b b ∧ CMulW (b * b) d ∧ if decide (b * b * d < a * a) = decide (0 < a) then Q (PyData.int 1) else Q (PyData.int (-1)) := by
  have ff : (false = true) = False := eq_false Bool.false_ne_true
  simp only [m1, m2, m3, true_and, ff, if_false]
  have tail : ¬ (0 ≤ a ∧ 0 ≤ b) → ¬ (a ≤ 0 ∧ b ≤ 0) → (if decide (b * b * d < a * a) = decide (0 < a) then Q (PyData.int 1) else Q (PyData.int (-1))) := fun h1 h2 => by
    unfold sgn at hq
    rw [if_neg h1, if_neg h2] at hq
    split
    · rename_i e; rw [if_pos e] at hq; exact hq
    · rename_i e; rw [if_neg e] at hq; exact hq
  have mid : ¬ (0 ≤ a ∧ 0 ≤ b) → a ≤ 0 ∧ b ≤ 0 → Q (PyData.int (-1)) := fun h1 h2 => by
    unfold sgn at hq
    rw [if_neg h1, if_pos h2] at hq
    exact hq
  have top : 0 ≤ a → 0 ≤ b → (if 0 < a + b then Q (PyData.int 1) else Q (PyData.int 0)) := fun h1 h2 => by
    unfold sgn at hq
    rw [if_pos ⟨h1, h2⟩] at hq
    split
    · rename_i e; rw [if_pos e] at hq; exact hq
    · rename_i e; rw [if_neg e] at hq; exact hq
  by_cases p1 : 0 ≤ a
  · rw [if_pos p1]
    by_cases p2 : 0 ≤ b
    · rw [if_pos p2]; exact top p1 p2
    · rw [if_neg p2]
      by_cases p3 : a ≤ 0
      · rw [if_pos p3]
        by_cases p4 : b ≤ 0
        · rw [if_pos p4]; exact mid (by omega) ⟨p3, p4⟩
        · rw [if_neg p4]; exact tail (by omega) (by omega)
      · rw [if_neg p3]; exact tail (by omega) (by omega)
  · rw [if_neg p1]
    by_cases p3 : a ≤ 0
    · rw [if_pos p3]
      by_cases p4 : b ≤ 0
      · rw [if_pos p4]; exact mid (by omega) ⟨p3, p4⟩
      · rw [if_neg p4]; exact tail (by omega) (by omega)
    · rw [if_neg p3]; exact tail (by omega) (by omega)
theorem rF_go {n r : Int} (h : Rn n r) : rF n = r := rn_unique (rF_ok n) h
theorem at_bd {s h : S4} {n : Int} (a : Bd 200 s) (b : Bd 200 h) (k : Sm 110 n) : Bd 600 (pl4 s h n) := by
  obtain ⟨d0, d1⟩ := mx_ok a.d0 a.d b.d0 b.d
  exact ⟨((((k.mul a.a).mul b.c).le (l := 550) (by omega)).add ((b.a.mul a.c).le (by omega))).le (by omega), ((((k.mul a.b).mul b.c).le (l := 550) (by omega)).add ((b.b.mul a.c).le (by omega))).le (by omega), (a.c.mul b.c).le (by omega), Int.mul_pos a.c0 b.c0, d0, d1⟩
theorem sm1 : Sm 1 (1 : Int) := (by decide : (1 : Int).natAbs < 2 ^ 1)
/-- comprehensions -/
theorem lc_map {α : Type} {g : GT} {e : SE} {ρ : Env} {f F : α → D} : ∀ (is : List α) (_ : ∀ i ∈ is, ∀ K : D → Prop, K (F i) → g (f i) ρ fun ρ1 => e ρ1 K) (Q : List D → Prop), Q (is.map F) → lcRun g fYes e ρ (is.map f) Q
  | [], _, Q, h => h
  | i :: is, he, Q, h => he i List.mem_cons_self (fun y => lcRun g fYes e ρ (is.map f) fun ys => Q (y :: ys)) (lc_map is (fun j hj => he j (List.mem_cons_of_mem _ hj)) _ h)
theorem lc_filter {α : Type} {g : GT} {t : ST} {e : SE} {ρ : Env} {f F : α → D} {c : α → Bool} : ∀ (is : List α) (_ : ∀ i ∈ is, ∀ (K : D → Prop) (J : Prop), (c i = true → K (F i)) → (c i = false → J) → g (f i) ρ fun ρ1 => t ρ1 fun b => if b = true then e ρ1 K else J) (Q : List D → Prop), Q ((is.filter c).map F) → lcRun g t e ρ (is.map f) Q
  | [], _, Q, h => h
  | i :: is, he, Q, h => by
    refine he i List.mem_cons_self (fun y => lcRun g t e ρ (is.map f) fun ys => Q (y :: ys)) (lcRun g t e ρ (is.map f) Q) (fun hc => lc_filter is (fun j hj => he j (List.mem_cons_of_mem _ hj)) _ ?_) (fun hc => lc_filter is (fun j hj => he j (List.mem_cons_of_mem _ hj)) _ ?_)
    · rw [List.filter_cons_of_pos hc] at h
      exact h
    · rw [List.filter_cons_of_neg (by rw [hc]; decide)] at h
      exact h
theorem rng_nat (n : Nat) : rng 0 n = (List.range n).map fun i : Nat => PyData.int (i : Int) := by
  unfold rng
  exact List.map_congr_left fun i _ => by rw [Int.zero_add]
theorem smN {n k : Nat} (h : n < 2 ^ k) : Sm k (n : Int) := by
  unfold Sm
  rwa [Int.natAbs_natCast]
/-! ### the whole part of b times the root of D -/
theorem rF_sq {n : Int} (hn : 0 ≤ n) : 0 ≤ rF n ∧ rF n * rF n ≤ n ∧ n < (rF n + 1) * (rF n + 1) := by
  have h := rF_ok n
  unfold Rn at h
  split at h
  · rw [h]
    have : n = 0 ∨ n = 1 := by omega
    rcases this with rfl | rfl <;> decide
  · exact h
theorem sq_le {x y : Int} (hx : 0 ≤ x) (hy : 0 ≤ y) (h : x * x ≤ y * y) : x ≤ y := by
  apply Classical.byContradiction
  intro z
  have h1 : y * y ≤ y * x := Int.mul_le_mul_of_nonneg_left (by omega) hy
  have h2 : y * x < x * x := Int.mul_lt_mul_of_pos_right (by omega) (by omega)
  omega
theorem sq_lt {x y : Int} (hx : 0 ≤ x) (hy : 0 ≤ y) (h : x * x < y * y) : x < y := by
  apply Classical.byContradiction
  intro z
  have h1 : y * y ≤ y * x := Int.mul_le_mul_of_nonneg_left (by omega) hy
  have h2 : y * x ≤ x * x := Int.mul_le_mul_of_nonneg_right (by omega) hx
  omega
theorem le_sq {x y : Int} (hx : 0 ≤ x) (h : x ≤ y) : x * x ≤ y * y := Int.mul_le_mul h h hx (by omega)
theorem mul4 (x y z w : Int) : (x * y) * (z * w) = (x * z) * (y * w) := by
  rw [Int.mul_assoc, Int.mul_assoc]
  congr 1
  rw [← Int.mul_assoc, ← Int.mul_assoc, Int.mul_comm y z]
/-- roots of b1, b2, b1 + b2 -/
theorem root_add {D b1 b2 : Int} (hD : 0 ≤ D) (h1 : 0 ≤ b1) (h2 : 0 ≤ b2) :
    rF (b1 * b1 * D) + rF (b2 * b2 * D) ≤ rF ((b1 + b2) * (b1 + b2) * D) ∧ rF ((b1 + b2) * (b1 + b2) * D) ≤ rF (b1 * b1 * D) + rF (b2 * b2 * D) + 1 := by
  have n1 : 0 ≤ b1 * b1 * D := Int.mul_nonneg (Int.mul_nonneg h1 h1) hD
  have n2 : 0 ≤ b2 * b2 * D := Int.mul_nonneg (Int.mul_nonneg h2 h2) hD
  have n3 : 0 ≤ (b1 + b2) * (b1 + b2) * D := Int.mul_nonneg (Int.mul_nonneg (by omega) (by omega)) hD
  have n12 : 0 ≤ b1 * b2 * D := Int.mul_nonneg (Int.mul_nonneg h1 h2) hD
  obtain ⟨p1, q1, r1⟩ := rF_sq n1
  obtain ⟨p2, q2, r2⟩ := rF_sq n2
  obtain ⟨p3, q3, r3⟩ := rF_sq n3
  have eD : (b1 + b2) * (b1 + b2) * D = b1 * b1 * D + b2 * b2 * D + 2 * (b1 * b2 * D) := by
    rw [Int.add_mul, Int.mul_add, Int.mul_add, Int.mul_comm b2 b1, Int.add_mul, Int.add_mul, Int.add_mul]
    omega
  have e12 : (b1 * b2 * D) * (b1 * b2 * D) = (b1 * b1 * D) * (b2 * b2 * D) := by
    rw [mul4 (b1 * b2) D (b1 * b2) D, mul4 b1 b2 b1 b2, mul4 (b1 * b1) D (b2 * b2) D]
  rw [eD] at p3 q3 r3 ⊢
  generalize b1 * b1 * D = n at *
  generalize b2 * b2 * D = m at *
  generalize b1 * b2 * D = k at *
  generalize rF n = x at *
  generalize rF m = y at *
  generalize rF (n + m + 2 * k) = z at *
  have xy : x * y ≤ k := by
    refine sq_le (Int.mul_nonneg p1 p2) n12 ?_
    rw [e12, mul4 x y x y]
    exact Int.mul_le_mul q1 q2 (Int.mul_nonneg p2 p2) n1
  have xy1 : k ≤ (x + 1) * (y + 1) := by
    refine sq_le n12 (Int.mul_nonneg (by omega) (by omega)) ?_
    rw [e12, mul4 (x + 1) (y + 1) (x + 1) (y + 1)]
    exact Int.mul_le_mul (by omega) (by omega) n2 (Int.mul_nonneg (by omega) (by omega))
  constructor
  · have : x + y < z + 1 := by
      refine sq_lt (by omega) (by omega) ?_
      have e : (x + y) * (x + y) = x * x + y * y + 2 * (x * y) := by
        rw [Int.add_mul, Int.mul_add, Int.mul_add, Int.mul_comm y x]; omega
      omega
    omega
  · have : z < x + y + 2 := by
      refine sq_lt p3 (by omega) ?_
      have e : (x + y + 2) * (x + y + 2) = (x + 1) * (x + 1) + (y + 1) * (y + 1) + 2 * ((x + 1) * (y + 1)) := by
        have a : x + y + 2 = (x + 1) + (y + 1) := by omega
        rw [a]
        generalize x + 1 = u
        generalize y + 1 = v
        rw [Int.add_mul, Int.mul_add, Int.mul_add, Int.mul_comm v u]; omega
      omega
    omega
theorem gF_pos {D b : Int} (h : 0 ≤ b) : gF D b = rF (b * b * D) := by
  unfold gF
  rw [if_pos h]
theorem gF_neg {D b : Int} (h : b < 0) : gF D b = -rF ((-b) * (-b) * D) - 1 := by
  unfold gF
  rw [if_neg (by omega), Int.neg_mul_neg]
theorem gF_zero (D : Int) : gF D 0 = 0 := by
  rw [gF_pos (Int.le_refl _)]
  have : (0 : Int) * 0 * D = 0 := by simp
  rw [this]
  have h := rF_sq (n := 0) (by decide)
  have := sq_lt (x := rF 0) (y := 1) h.1 (by decide) (by omega)
  omega
theorem gF_add {D : Int} (hD : 0 ≤ D) (b1 b2 : Int) : gF D b1 + gF D b2 ≤ gF D (b1 + b2) ∧ gF D (b1 + b2) ≤ gF D b1 + gF D b2 + 1 := by
  have A := fun {x y : Int} (hx : 0 ≤ x) (hy : 0 ≤ y) => root_add hD hx hy
  by_cases h1 : 0 ≤ b1
  · by_cases h2 : 0 ≤ b2
    · rw [gF_pos h1, gF_pos h2, gF_pos (by omega)]
      exact A h1 h2
    · by_cases h3 : 0 ≤ b1 + b2
      · have := A h3 (show 0 ≤ -b2 by omega)
        rw [show b1 + b2 + -b2 = b1 by omega] at this
        rw [gF_pos h1, gF_neg (by omega : b2 < 0), gF_pos h3]
        omega
      · have := A (show 0 ≤ -(b1 + b2) by omega) h1
        rw [show -(b1 + b2) + b1 = -b2 by omega] at this
        rw [gF_pos h1, gF_neg (by omega : b2 < 0), gF_neg (by omega : b1 + b2 < 0)]
        omega
  · by_cases h2 : 0 ≤ b2
    · by_cases h3 : 0 ≤ b1 + b2
      · have := A h3 (show 0 ≤ -b1 by omega)
        rw [show b1 + b2 + -b1 = b2 by omega] at this
        rw [gF_pos h2, gF_neg (by omega : b1 < 0), gF_pos h3]
        omega
      · have := A (show 0 ≤ -(b1 + b2) by omega) h2
        rw [show -(b1 + b2) + b2 = -b1 by omega] at this
        rw [gF_pos h2, gF_neg (by omega : b1 < 0), gF_neg (by omega : b1 + b2 < 0)]
        omega
    · have := A (show 0 ≤ -b1 by omega) (show 0 ≤ -b2 by omega)
      rw [show -b1 + -b2 = -(b1 + b2) by omega] at this
      rw [gF_neg (by omega : b1 < 0), gF_neg (by omega : b2 < 0), gF_neg (by omega : b1 + b2 < 0)]
      omega
theorem gF_opp {D b : Int} (h : b ≠ 0) : gF D (-b) = -gF D b - 1 := by
  by_cases hb : 0 ≤ b
  · rw [gF_pos hb, gF_neg (by omega), Int.neg_neg]
  · rw [gF_pos (by omega), gF_neg (by omega)]
    omega
theorem wS_eq (s : S4) : wS s = (s.a + gF s.d s.b) / s.c := by
  unfold wS wholeS gF
  split
  · rfl
  · have : s.a - rF (s.b * s.b * s.d) - 1 = s.a + (-rF (s.b * s.b * s.d) - 1) := by omega
    rw [this]
/-- the sign by whole parts -/
theorem sgn_ge {a b D : Int} (hD : 0 ≤ D) (hb : b = 0 ∨ 1 ≤ D) : (0 < sgn a b D ∨ sgn a b D = 0) ↔ 0 ≤ a + gF D b := by
  have n : 0 ≤ b * b * D := Int.mul_nonneg (by
    rcases Int.le_total 0 b with h | h
    · exact Int.mul_nonneg h h
    · have := Int.mul_nonneg (a := -b) (b := -b) (by omega) (by omega)
      rwa [Int.neg_mul_neg] at this) hD
  obtain ⟨p, q, r⟩ := rF_sq n
  unfold sgn
  by_cases b0 : b = 0
  · subst b0
    rw [gF_zero]
    by_cases ha : 0 ≤ a
    · rw [if_pos ⟨ha, Int.le_refl _⟩]
      split <;> constructor <;> intro _ <;> omega
    · rw [if_neg (fun z => ha z.1), if_pos ⟨by omega, Int.le_refl _⟩]
      omega
  · by_cases bp : 0 ≤ b
    · rw [gF_pos bp]
      by_cases ha : 0 ≤ a
      · rw [if_pos ⟨ha, bp⟩, if_pos (by omega)]
        omega
      · rw [if_neg (fun z => ha z.1), if_neg (fun z => by omega), decide_eq_false (show ¬ 0 < a by omega)]
        by_cases k : b * b * D < a * a
        · rw [decide_eq_true k, if_neg (by decide)]
          have : rF (b * b * D) < -a := sq_lt p (by omega) (by rw [Int.neg_mul_neg]; omega)
          omega
        · rw [decide_eq_false k, if_pos rfl]
          have : -a < rF (b * b * D) + 1 := sq_lt (by omega) (by omega) (by rw [Int.neg_mul_neg]; omega)
          omega
    · rw [gF_neg (by omega), Int.neg_mul_neg]
      by_cases ha : a ≤ 0
      · rw [if_neg (fun z => bp z.2), if_pos ⟨ha, by omega⟩]
        omega
      · rw [if_neg (fun z => bp z.2), if_neg (fun z => ha z.1), decide_eq_true (show 0 < a by omega)]
        by_cases k : b * b * D < a * a
        · rw [decide_eq_true k, if_pos rfl]
          have : rF (b * b * D) < a := sq_lt p (by omega) (by omega)
          omega
        · rw [decide_eq_false k, if_neg (by decide)]
          have : a < rF (b * b * D) + 1 := sq_lt (by omega) (by omega) (by omega)
          omega
theorem sgn_gt {a b D : Int} (hD : 0 ≤ D) (hb : b = 0 ∨ 1 ≤ D) : 0 < sgn a b D ↔ (if b = 0 then 0 < a else 0 ≤ a + gF D b) := by
  by_cases b0 : b = 0
  · rw [if_pos b0]
    subst b0
    unfold sgn
    by_cases ha : 0 ≤ a
    · rw [if_pos ⟨ha, Int.le_refl _⟩]
      split <;> omega
    · rw [if_neg (fun z => ha z.1), if_pos ⟨by omega, Int.le_refl _⟩]
      omega
  · rw [if_neg b0, ← sgn_ge hD hb]
    constructor
    · exact .inl
    · intro h
      rcases h with h | h
      · exact h
      · exfalso
        unfold sgn at h
        split at h
        · split at h <;> omega
        · split at h
          · omega
          · split at h <;> omega
theorem fmod_small (x : Int) {y : Int} (h : y < 0) : (x.fmod y).natAbs < y.natAbs := by
  have e : x.fmod y = -((-x).fmod (-y)) := by
    have := Int.neg_fmod_neg (a := x) (b := y)
    omega
  have e2 : (-x).fmod (-y) = (-x) % (-y) := Int.fmod_eq_emod_of_nonneg _ (by omega)
  have := Int.emod_nonneg (-x) (b := -y) (by omega)
  have := Int.emod_lt_of_pos (-x) (b := -y) (by omega)
  omega
end T
end DL
/-! DLExA: an own error over LineError over ValueError is made: its __init__ says super().__init__(..), and keeps one field, or none. -/
namespace DL
namespace EX
open PySem PySem.W PySem.Calls PyProof.Rows L2
abbrev veL : List Value := [.type "ValueError", .type "Exception", .type "BaseException", .type "object"]
/-- super().__init__(..) -/
abbrev supS (es : List Expr) (p0 p1 p2 p3 p4 : Pos) : Stmt := .Expr (.Call (.Attribute (.Call (.Name "super" p0) [] [] p1) "__init__" p2) es [] p3) p4
/-- what the written part says of the class C and its __init__ at f -/
structure IniF (prog : Program) (K : Frag) (C f : Addr) (q : Str) (params : Arguments) (body : List Stmt) (sc : Scope) (cda cc : Addr) : Prop where
  cls : OexC K C
  fn : ∃ oc od osl kV doc pm an ct, K.lookup f = some ⟨oc, od, .func (ksFn "__init__" q params body sc .none kV doc pm an (.ref cda) ct cc), osl⟩
  named : codeIn K (.ref cda) q = true
  code : ∃ cl cd vs cs file tf, K.lookup cda = some ⟨cl, cd, .fields vs, cs⟩ ∧ vs[2]? = some (.str file tf) ∧ ((prog.main.file : Str) == file) = true
  cell : ∃ cl cd cs, K.lookup cc = some ⟨cl, cd, .cell (some (.ref C)), cs⟩
  own : ∃ cd, clsIn K C = some cd
  self : mroIn K C (.ref C) = some true
  opq : nsIn K cStatics "thirdparty.any" = some none
  sup : ks_superIn K C C "__init__" = some (some (.builtin "ValueError.__init__"))
  subV : subIn K (.ref C) (.type "ValueError") = some true
  big : excInitIn K C veL "ValueError.__new__" = true
  find : findIn K (.ref C) "__init__" = some (some (.ref f))
  isf : typeIn K (.ref f) = some (.type "function")
  free : (prog.main.scope.names.lookup ("super" : Str)).isSome = false
  kS : sc.names.lookup ("super" : Str) = some .globalImplicit
  kC : sc.names.lookup ("__class__" : Str) = some .free
  kI : sc.kind = .function
  co : sc.isCoroutine = false
  gen : sc.isGenerator = false
section
variable {prog : Program} {w : World} {A : Around} {E : Value → Shared → Prop} {K : Frag} {mg mb m : Str → Option Value} {h₀ : Heap} {C f cda cc L e t0 : Addr} {q : Str} {params : Arguments} {body : List Stmt} {sc : Scope} {s : Shared}
/-- the object of super() -/
theorem sup_obj {news : List (Addr × Obj)} {p0 p1 : Pos} {at_ : Str} {whole : Sem Value} {ar : Arg} {Q : Value → Shared → Prop} (Z : IniF prog K C f q params body sc cda cc) (Fx : Fr h₀ L s.heap m) (KX : K.In h₀) (Nx : News h₀ L s.heap news)
    (gl : h₀.Ns mainGlobals mg) (gn : mg "super" = none) (bu : h₀.Ns builtinsNs mb) (bn : mb "super" = some (.type "super")) (first : (params.posonlyargs ++ params.args).head? = some ar) (loc : sc.names.lookup ar.arg = some .local) (val : m ar.arg = some (.ref e))
    (inst : InstAt s.heap e (excObj C t0 none .none) C none) (hat : (at_ == ("__class__" : Str)) = false)
    (k : ∀ so h', Fr h₀ L h' m → News h₀ L h' ((so, ks_superObj C e C) :: news) → (∀ p ∈ news, p.1 < so) → Q (.ref so) { s with heap := h' }) :
    _root_.PySem.wpAt (model prog w) A (.func body (ksEnv q sc L f (.ref cda) cc)) (attributeBase (.Call (.Name "super" p0) [] [] p1) at_ (ksEnv q sc L f (.ref cda) cc) whole) Q E s := by
  have now : K.In s.heap := KX.keeps Fx.keep
  obtain ⟨hh, gg, dd, tt, oo⟩ := s
  obtain ⟨oc, od, osl, kV, doc, pm, an, ct, lkF⟩ := Z.fn
  obtain ⟨c1, c2, vs, c3, file, tf, lkC, hvs, hfile⟩ := Z.code
  obtain ⟨l1, l2, l3, lkL⟩ := Z.cell
  obtain ⟨cd, hcd⟩ := Z.own
  obtain ⟨oD, hD1, hD2⟩ : ∃ oD, hh.get? C = some oD ∧ oD.data = .cls cd := by
    unfold clsIn at hcd
    split at hcd
    · rename_i ho
      cases hcd
      exact ⟨_, now _ _ ho, rfl⟩
    · cases hcd
  have step1 := @ks_wpAt_super_base prog w A E ⟨hh, gg, dd, tt, oo⟩ (ksEnv q sc L f (.ref cda) cc) body p0 p1 at_ whole f cda _ _ (ksFn "__init__" q params body sc .none kV doc pm an (.ref cda) ct cc) ar vs file tf Q
    Z.kS Z.kC hat rfl (now _ _ lkF) rfl first rfl (now _ _ lkC) rfl hvs hfile Z.free
  refine step1 (ks_loadName_global Z.kI Z.kS (loadGlobal_builtin (env := ksEnv q sc L f (.ref cda) cc) (gl.keeps Fx.keep) gn (bu.keeps Fx.keep) bn ⟨rfl, ?_⟩))
  refine wpAny_loadName_free Z.kI Z.kC rfl ⟨_, now _ _ lkL, rfl⟩ ?_
  refine wpAny_loadName_local Z.kI loc Fx.ns val ?_
  refine ks_wpAny_isType_cls hD1 hD2 ⟨rfl, ?_⟩
  refine ks_wpAny_call_super hD1 hD2 inst.at_ inst.cls (fun c z => nomatch (show Data.fields _ = Data.cls c from z)) (looks_mroIn now Z.self) fun h' z kk => ?_
  obtain ⟨F2, N2, l2⟩ := ks_newsPush (s := ⟨hh, gg, dd, tt, oo⟩) Fx Nx rfl z kk
  exact k _ _ F2 N2 l2
end
end EX
end DL
namespace DL
namespace EX
open PySem PySem.W PySem.Calls PyProof.Rows L2
section
variable {prog : Program} {w : World} {A : Around} {E : Value → Shared → Prop} {K : Frag} {mg mb m : Str → Option Value} {h₀ : Heap} {C f cda cc L e t0 : Addr} {q : Str} {params : Arguments} {body : List Stmt} {sc : Scope} {s : Shared}
/-- the method of super(), called with values -/
theorem sup_call {es : List Expr} {p0 p1 p2 p3 p4 : Pos} {ar : Arg} {Q : Flow → Shared → Prop} {us : List Value} {pl : Sem Bool} (Z : IniF prog K C f q params body sc cda cc) (Fx : Fr h₀ L s.heap m) (KX : K.In h₀) (Nx : News h₀ L s.heap [(e, excObj C t0 none .none)])
    (gl : h₀.Ns mainGlobals mg) (gn : mg "super" = none) (bu : h₀.Ns builtinsNs mb) (bn : mb "super" = some (.type "super")) (first : (params.posonlyargs ++ params.args).head? = some ar) (loc : sc.names.lookup ar.arg = some .local) (val : m ar.arg = some (.ref e))
    (hz : us.length ≤ sizeLine)
    (args : ∀ (u : Addr) (s1 : Shared), Fr h₀ L s1.heap m → s1.heap.get? u = some (kxs_mw "ValueError.__init__" e) → (∀ Q1 : Value → Shared → Prop, wpAny (model prog w) A (call (.ref u) us) Q1 E s1 → wpAny (model prog w) A (callWith p3 (.ref u) [] (backTo p3 (starEach es (ksEnv q sc L f (.ref cda) cc))) []) Q1 E s1))
    (he : eval (.Call (.Attribute (.Call (.Name "super" p0) [] [] p1) "__init__" p2) es [] p3) (ksEnv q sc L f (.ref cda) cc) = (do
      let ov ← attributeBase (.Call (.Name "super" p0) [] [] p1) "__init__" (ksEnv q sc L f (.ref cda) cc) (eval (.Call (.Name "super" p0) [] [] p1) (ksEnv q sc L f (.ref cda) cc))
      standAt p2.atName
      let (fx, fst) ← holding [ov] (getMethod ov "__init__" pl)
      callWith p3 fx fst (backTo p3 (starEach es (ksEnv q sc L f (.ref cda) cc))) []))
    (hi : interactive (ksEnv q sc L f (.ref cda) cc) = false) (hs : swapsWith (.Call (.Attribute (.Call (.Name "super" p0) [] [] p1) "__init__" p2) es [] p3) none p4.line (ksEnv q sc L f (.ref cda) cc) = pure false)
    (k : ∀ t1 h' tk, Fr h₀ L h' m → News h₀ L h' [(e, excObj C t1 none .none)] → Q .next { s with heap := h', toks := tk }) :
    _root_.PySem.wpAt (model prog w) A (.func body (ksEnv q sc L f (.ref cda) cc)) (exec (supS es p0 p1 p2 p3 p4) (ksEnv q sc L f (.ref cda) cc)) Q E s := by
  have mem0 : (e, excObj C t0 none .none) ∈ [(e, excObj C t0 none .none)] := List.mem_singleton.mpr rfl
  refine ks_wpAt_Expr_any (ks_wpAt_MethodCall (pl := pl) (sup_obj Z Fx KX Nx gl gn bu bn first loc val (InstAt.of_exc0 Nx mem0) (by decide) fun so h1 F1 N1 l1 => ?_) he) hi hs
  have inst1 : InstAt h1 e (excObj C t0 none .none) C none := InstAt.of_exc0 N1 (List.mem_cons_of_mem _ mem0)
  refine kxs_method kxs_ValueError (s := { s with heap := h1 }) F1 KX N1 List.mem_cons_self inst1 Z.opq Z.sup Z.subV (by decide) fun u h2 F2 N2 l2 => ?_
  refine args u _ F2 (N2 _ List.mem_cons_self).1 _ ?_
  have lso := l1 _ mem0
  have lu := l2 _ (List.mem_cons_of_mem _ mem0)
  have U : UpdF e (excObj C t0 none .none) [(u, kxs_mw "ValueError.__init__" e), (so, ks_superObj C e C), (e, excObj C t0 none .none)] (fun o' => [(u, kxs_mw "ValueError.__init__" e), (so, ks_superObj C e C), (e, o')]) :=
    .tail (Ne.symm (Nat.ne_of_lt lu)) (.tail (Ne.symm (Nat.ne_of_lt lso)) (.head fun p hp => nomatch hp))
  refine kxs_call (s := { s with heap := h2, toks := s.toks + 1 }) F2 KX N2 PySem.F.excBase_ValueError Z.big List.mem_cons_self U hz fun t1 h3 F3 N3 l3 => ?_
  exact k t1 h3 _ F3 fun p hp => by
    rw [List.mem_singleton.mp hp]
    exact N3 _ (by simp)
/-- .. with nothing -/
theorem sup_args0 {u : Addr} {p3 : Pos} {env : PySem.Env} {Q1 : Value → Shared → Prop} {s1 : Shared} (hu : s1.heap.get? u = some (kxs_mw "ValueError.__init__" e)) (h : wpAny (model prog w) A (call (.ref u) []) Q1 E s1) : wpAny (model prog w) A (callWith p3 (.ref u) [] (backTo p3 (starEach [] env)) []) Q1 E s1 :=
  kxs_callWith (i := "ValueError.__init__") (x := e) rfl (evalArgs_empty ⟨hu, h⟩)
/-- .. with a name's value -/
theorem sup_args1 {u : Addr} {p3 py : Pos} {y : Str} {v : Value} {env : PySem.Env} {Q1 : Value → Shared → Prop} {s1 : Shared} (hu : s1.heap.get? u = some (kxs_mw "ValueError.__init__" e)) (hk : env.scope.kind = .function) (hl : env.kindOf y = some .local) (hn : s1.heap.Ns env.locals m) (hv : m y = some v) (hd : (y == ("__debug__" : Str)) = false)
    (he : starEach [.Name y py] env = [(false, eval (.Name y py) env)]) (h : wpAny (model prog w) A (call (.ref u) [v]) Q1 E s1) : wpAny (model prog w) A (callWith p3 (.ref u) [] (backTo p3 (starEach [.Name y py] env)) []) Q1 E s1 := by
  rw [he]
  refine kxs_callWith (i := "ValueError.__init__") (x := e) rfl (evalArgs_plain (spliced_cons (wpAny_Name (wpAny_loadName_local hk hl hn hv ?_) hd)))
  exact spliced_nil ⟨hu, h⟩
end
end EX
end DL
namespace DL
namespace EX
open PySem PySem.W PySem.Calls PyProof.Rows L2
/-- the object behind the making: its dict's address, or none -/
abbrev excD (C t1 : Addr) (dx : Option Addr) : Obj := { cls := .ref C, dict := dx, data := .fields #[.ref t1, .none, .none, .none, .bool false, .none] }
section
variable {prog : Program} {w : World} {A : Around} {K : Frag} {mg mb : Str → Option Value} {hp : Heap} {C f cda cc e t0 : Addr} {q sf y : Str} {params : Arguments} {body : List Stmt} {sc : Scope} {g : Array GenState} {d : Drawn} {t : Nat} {os : OsState} {R : Result → Shared → Prop} {h2 : Heap} {v : Value}
  {p0 p1 p2 p3 p4 py p6 p7 p8 p9 : Pos}
/-- what stands when the __init__ begins -/
structure Ini0 (K : Frag) (mg mb : Str → Option Value) (hp h2 : Heap) (C e t0 : Addr) : Prop where
  inK : K.In hp
  gl : hp.Ns mainGlobals mg
  gn : mg "super" = none
  bu : hp.Ns builtinsNs mb
  bn : mb "super" = some (.type "super")
  lim : hp.NoLimit
  kk : ∀ b o, hp.get? b = some o → h2.get? b = some o
  at_ : h2.get? e = some (excObj C t0 none .none)
  new : hp.get? e = none
  siz : hp.objs.size ≤ h2.objs.size
/-- the names that the def binds -/
structure IniP (params : Arguments) (sc : Scope) (sf : Str) (us : List Value) (binds : List (Str × Value)) (fdp : Value → Value → Value → Option Addr → Value → FuncData) (e : Addr) : Prop where
  first : ∃ ar, (params.posonlyargs ++ params.args).head? = some ar ∧ ar.arg = sf
  loc : sc.names.lookup sf = some .local
  bind : ∀ kV doc pm an ct, bindArgs (fdp kV doc pm an ct) ⟨.ref e :: us, []⟩ = pure binds
  val : binds.reverse.lookup sf = some (.ref e)
  cell : ∀ x ∈ sc.names, x.2 ≠ .cell
  locs : ∀ x ∈ binds, sc.names.lookup x.1 = some .local
/-- __init__ runs: what its body leaves -/
theorem ini_run {us : List Value} {binds : List (Str × Value)} (Z : IniF prog K C f q params body sc cda cc) (J : Ini0 K mg mb hp h2 C e t0) (hroom : A.depth < recursionLimit)
    (B : IniP params sc sf us binds (fun kV doc pm an ct => ksFn "__init__" q params body sc .none kV doc pm an (.ref cda) ct cc) e)
    (h : ∀ (A' : Around) (E : Value → Shared → Prop) (L : Addr) (h1 : Heap) (tk : Nat) (P : Flow → Shared → Prop), Fr hp L h1 (fun x => binds.reverse.lookup x) → News hp L h1 [(e, excObj C t0 none .none)] →
      (∀ fl s', P fl s' ↔ R (.ok (.ret (match fl with | .ret u => u | _ => .none))) s') →
      _root_.PySem.wpAt (model prog w) A' (.func body (ksEnv q sc L f (.ref cda) cc)) (execs body (ksEnv q sc L f (.ref cda) cc)) P E ⟨h1, g, d, tk, os⟩) :
    codeAny (model prog w) A (.call (.ref f) ⟨.ref e :: us, []⟩) R ⟨h2, g, d, t, os⟩ := by
  obtain ⟨oc, od, osl, kV, doc, pm, an, ct, lkF⟩ := Z.fn
  have in2 : K.In h2 := J.inK.keeps J.kk
  refine ks_codeAny_call_defAt (s := ⟨h2, g, d, t, os⟩) (body := body) (binds := binds) hroom (in2 _ _ lkF) rfl (J.lim.keeps J.kk) (codeRec_of in2 Z.named) rfl (BindsTo.of_eq (B.bind kV doc pm an ct)) B.cell B.locs (fun h1 hn hk => ?_) Z.co Z.gen Z.kI
  refine h _ _ h2.objs.size h1 _ _ ⟨hn, fun b o z => hk b o (J.kk b o z), J.siz⟩ (fun p hp' => ?_) fun fl s' => Iff.rfl
  rw [List.mem_singleton.mp hp']
  exact ⟨hk _ _ J.at_, Nat.ne_of_lt (Heap.lt_size J.at_), J.new⟩
/-- super().__init__() alone -/
theorem ini_zero (Z : IniF prog K C f q params [supS [] p0 p1 p2 p3 p4] sc cda cc) (J : Ini0 K mg mb hp h2 C e t0) (hroom : A.depth < recursionLimit)
    (B : IniP params sc sf [] [(sf, .ref e)] (fun kV doc pm an ct => ksFn "__init__" q params [supS [] p0 p1 p2 p3 p4] sc .none kV doc pm an (.ref cda) ct cc) e) (he : ∀ L : Addr, ∃ pl : Sem Bool, eval (.Call (.Attribute (.Call (.Name "super" p0) [] [] p1) "__init__" p2) [] [] p3) (ksEnv q sc L f (.ref cda) cc) = (do
      let ov ← attributeBase (.Call (.Name "super" p0) [] [] p1) "__init__" (ksEnv q sc L f (.ref cda) cc) (eval (.Call (.Name "super" p0) [] [] p1) (ksEnv q sc L f (.ref cda) cc))
      standAt p2.atName
      let (fx, fst) ← holding [ov] (getMethod ov "__init__" pl)
      callWith p3 fx fst (backTo p3 (starEach [] (ksEnv q sc L f (.ref cda) cc))) []))
    (k : ∀ h3 tk t1, (∀ b o, hp.get? b = some o → h3.get? b = some o) → h3.get? e = some (excD C t1 none) → R (.ok (.ret .none)) ⟨h3, g, d, tk, os⟩) :
    codeAny (model prog w) A (.call (.ref f) ⟨[.ref e], []⟩) R ⟨h2, g, d, t, os⟩ := by
  refine ini_run (us := []) Z J hroom B fun A' E L h1 tk P F1 N1 hP => ?_
  obtain ⟨ar, hfirst, rfl⟩ := B.first
  obtain ⟨pl, hpl⟩ := he L
  refine ks_wpAt_execs_cons (sup_call (s := ⟨h1, g, d, tk, os⟩) (us := []) Z F1 J.inK N1 J.gl J.gn J.bu J.bn hfirst B.loc B.val (Nat.zero_le _) (fun u s1 _ hu Q1 z => sup_args0 hu z) hpl (by unfold interactive; simp [Z.kI]) rfl fun t1 h3 tk3 F3 N3 => ?_)
  refine wpAt_of_wpAny (wpAny_execs_nil ((hP _ _).mpr ?_))
  exact k h3 tk3 t1 F3.keep (N3 _ List.mem_cons_self).1
/-- super().__init__(y), and self.y = y -/
theorem ini_one (Z : IniF prog K C f q params [supS [.Name y py] p0 p1 p2 p3 p4, .Assign [.Attribute (.Name sf p6) y p7] (.Name y p8) p9] sc cda cc) (J : Ini0 K mg mb hp h2 C e t0) (hroom : A.depth < recursionLimit)
    (B : IniP params sc sf [v] [(sf, .ref e), (y, v)] (fun kV doc pm an ct => ksFn "__init__" q params [supS [.Name y py] p0 p1 p2 p3 p4, .Assign [.Attribute (.Name sf p6) y p7] (.Name y p8) p9] sc .none kV doc pm an (.ref cda) ct cc) e)
    (he : ∀ L : Addr, ∃ pl : Sem Bool, eval (.Call (.Attribute (.Call (.Name "super" p0) [] [] p1) "__init__" p2) [.Name y py] [] p3) (ksEnv q sc L f (.ref cda) cc) = (do
      let ov ← attributeBase (.Call (.Name "super" p0) [] [] p1) "__init__" (ksEnv q sc L f (.ref cda) cc) (eval (.Call (.Name "super" p0) [] [] p1) (ksEnv q sc L f (.ref cda) cc))
      standAt p2.atName
      let (fx, fst) ← holding [ov] (getMethod ov "__init__" pl)
      callWith p3 fx fst (backTo p3 (starEach [.Name y py] (ksEnv q sc L f (.ref cda) cc))) []))
    (ly : sc.names.lookup y = some .local) (vy : List.lookup y [(y, v), (sf, .ref e)] = some v) (dy : (y == ("__debug__" : Str)) = false) (ds : (sf == ("__debug__" : Str)) = false) (hno : findIn K (.ref C) y = some none)
    (k : ∀ h3 tk t1 dx, (∀ b o, hp.get? b = some o → h3.get? b = some o) → h3.get? e = some (excD C t1 (some dx)) → hp.objs.size ≤ dx → dx ≠ e → h3.Ns1 dx (fun z => if z = y then some v else none) → R (.ok (.ret .none)) ⟨h3, g, d, tk, os⟩) :
    codeAny (model prog w) A (.call (.ref f) ⟨[.ref e, v], []⟩) R ⟨h2, g, d, t, os⟩ := by
  refine ini_run (us := [v]) Z J hroom B fun A' E L h1 tk P F1 N1 hP => ?_
  obtain ⟨ar, hfirst, rfl⟩ := B.first
  obtain ⟨pl, hpl⟩ := he L
  refine ks_wpAt_execs_cons (sup_call (s := ⟨h1, g, d, tk, os⟩) (us := [v]) Z F1 J.inK N1 J.gl J.gn J.bu J.bn hfirst B.loc B.val (by show 1 ≤ sizeLine; rw [sizeLine_eq]; omega)
    (fun u s1 Fu hu Q1 z => sup_args1 hu Z.kI ly Fu.ns vy dy rfl z) hpl (by unfold interactive; simp [Z.kI]) rfl fun t1 h3 tk3 F3 N3 => ?_)
  refine ks_wpAt_execs_cons (ks_wpAt_Assign_Attr ?_ rfl)
  refine wpAt_of_wpAny (wpAny_Name (wpAny_loadName_local Z.kI ly F3.ns vy ?_) dy)
  refine wpAny_Name (wpAny_loadName_local Z.kI B.loc F3.ns B.val ?_) ds
  have in3 : K.In h3 := J.inK.keeps F3.keep
  obtain ⟨nm, q', N', bs, bm, sn, sub, ab, col, dd, k0, k1, k2, k3, k5, hC, hbm⟩ := Z.cls.cls
  have hcl : clsIn K C = some { name := nm, bases := bs, mro := .ref C :: bm, ns := N', qualname := q', hasDict := true, slotNames := sn, subclasses := sub, abstract := ab, collection := col, hasDel := false } := by
    unfold clsIn
    rw [hC]
  have at3 : h3.get? e = some (excObj C t1 none .none) := (N3 _ List.mem_cons_self).1
  refine set_plain (s := ⟨h3, g, d, tk3, os⟩) in3 (InstAt.of_exc0 N3 List.mem_cons_self) Z.cls.sa ?_
  refine PySem.HandSPX.exc_osa in3 at3 hcl (show PySem.HandSPX.refsVE (.ref C :: bm) = true from hbm) rfl hno fun h4 tk4 dx kk dn dne hx hn => ?_
  refine wpAt_of_wpAny (wpAny_execs_nil ((hP _ _).mpr ?_))
  have nE : ∀ b o, hp.get? b = some o → b ≠ e := fun b o z z2 => by rw [z2, J.new] at z; cases z
  refine k h4 tk4 t1 dx (fun b o z => kk b o (nE b o z) (F3.keep b o z)) hx (Nat.le_trans ?_ dn) dne hn
  exact Nat.le_trans F3.above (Nat.le_of_lt (by obtain ⟨_, _, _, z, _⟩ := F3.ns; exact Heap.lt_size z))
end
end EX
end DL
namespace DL
namespace EX
open PySem PySem.W PySem.Calls PyProof.Rows L2 PySem.Spec
/-- such a class, by how many values its __init__ takes, and by which field it keeps -/
structure Ec0 (P : Program) (K : Frag) (C : Addr) : Prop where
  cls : OexC K C
  run : ∀ (w : World) (A : Around) (mg mb : Str → Option Value) (hp h2 : Heap) (e t0 : Addr) (g : Array GenState) (d : Drawn) (t : Nat) (os : OsState) (R : Result → Shared → Prop), Ini0 K mg mb hp h2 C e t0 → A.depth < recursionLimit →
    (∀ h3 tk t1, (∀ b o, hp.get? b = some o → h3.get? b = some o) → h3.get? e = some (excD C t1 none) → R (.ok (.ret .none)) ⟨h3, g, d, tk, os⟩) →
    ∀ f, findIn K (.ref C) "__init__" = some (some (.ref f)) → codeAny (model P w) A (.call (.ref f) ⟨[.ref e], []⟩) R ⟨h2, g, d, t, os⟩
  ini : ∃ f, findIn K (.ref C) "__init__" = some (some (.ref f)) ∧ typeIn K (.ref f) = some (.type "function")
structure Ec1 (P : Program) (K : Frag) (C : Addr) (y : Str) : Prop where
  cls : OexC K C
  run : ∀ (w : World) (A : Around) (mg mb : Str → Option Value) (hp h2 : Heap) (e t0 : Addr) (g : Array GenState) (d : Drawn) (t : Nat) (os : OsState) (R : Result → Shared → Prop) (v : Value), Ini0 K mg mb hp h2 C e t0 → A.depth < recursionLimit →
    (∀ h3 tk t1 dx, (∀ b o, hp.get? b = some o → h3.get? b = some o) → h3.get? e = some (excD C t1 (some dx)) → hp.objs.size ≤ dx → dx ≠ e → h3.Ns1 dx (fun z => if z = y then some v else none) → R (.ok (.ret .none)) ⟨h3, g, d, tk, os⟩) →
    ∀ f, findIn K (.ref C) "__init__" = some (some (.ref f)) → codeAny (model P w) A (.call (.ref f) ⟨[.ref e, v], []⟩) R ⟨h2, g, d, t, os⟩
  ini : ∃ f, findIn K (.ref C) "__init__" = some (some (.ref f)) ∧ typeIn K (.ref f) = some (.type "function")
/-- C() and C(e) -/
def tMk0 (C : Addr) : L2.St → Hp → XK → Prop := fun σ H Q => Q (.ref C) none H
def tMk1 (C : Addr) (y : Str) (te : TE) : L2.St → Hp → XK → Prop := fun σ H Q => te σ H fun v H1 => ∀ d, H1 d = none → Q (.ref C) (some d) (upd H1 d (.xd [(y, v)]))
section
variable {X : Cx} {C : Addr} {x y : Str} {p pos : Pos} {e : Expr} {te : TE}
theorem boot_super : bootBuiltins "super" = some (.type "super") := by decide +kernel
/-- what call_own leaves ahead of __init__ -/
theorem ini0_of {pins : List (Addr × Obj)} {σ : L2.St} {H : Hp} {hp : Heap} {g : Array GenState} {d : Drawn} {t : Nat} {os : OsState} {us : List Value} (I : Inv X pins σ H ⟨hp, g, d, t, os⟩) (gs : X.mg "super" = none) :
    ∃ mb, Ini0 X.K X.mg mb hp ((hp.push (kdv_tup us)).push (PySem.HandSPX.excO C hp.objs.size)) C (hp.objs.size + 1) hp.objs.size := by
  obtain ⟨mb, hb, hbb⟩ := I.ok.mod.blt
  refine ⟨mb, I.kIn, I.ok.mod.glob.keeps I.bk, gs, hb.keeps I.bk, ?_, I.nolimit, fun b o z => Heap.get?_push_of_some _ (Heap.get?_push_of_some _ z), by heap_get, ?_, ?_⟩
  · rw [hbb _ (by decide)]
    exact boot_super
  · cases z : hp.get? (hp.objs.size + 1) with
    | none => rfl
    | some o => exact absurd (Heap.lt_size z) (Nat.not_lt.mpr (Nat.le_succ _))
  · rw [Heap.size_push, Heap.size_push]
    omega
theorem pmk_zero {k : Nat} (T : Ec0 X.prog X.K C) (hr : Room (k + 1) X.A) (gs : X.mg "super" = none) (hg : Gl X x) (hm : X.mg x = some (.ref C)) (hdb : (x == ("__debug__" : Str)) = false := by decide) (he : starEach [] X.env = [] := by rfl) :
    PMk X (.Call (.Name x p) [] [] pos) (tMk0 C) := by
  intro pins s σ H Q I h
  obtain ⟨nm, q, N, bs, bm, sn, sub, ab, col, dd, k0, k1, k2, k3, k5, hC, hbm⟩ := T.cls.cls
  obtain ⟨fI, iC, tI⟩ := T.ini
  obtain ⟨hp, g, dr, tk, os⟩ := s
  refine wpAny_Call_Name_kw (ld_glob I hg hm ?_ hdb)
  refine callWith_K0 I.kIn T.cls.kC ?_
  obtain ⟨mb, J⟩ := ini0_of (C := C) (us := []) I gs
  refine wpAny_call (PySem.HandSPX.call_own PySem.F.excBase_ValueError (fun Y => PySem.HandSPX.refsVE_contains Y bm hbm) (I.kIn _ _ hC) (looks_findIn I.kIn iC) (fun self => bind_fn I.kIn self tI) (Nat.zero_le _) ?_)
  refine T.run _ _ _ _ _ _ _ _ _ _ _ _ _ J (hr.make C [] []).depth (fun h3 tk3 t1 kk at3 => ?_) fI iC
  refine ⟨rfl, ?_⟩
  refine ⟨hp.objs.size + 1, _, _, ⟨hp, g, dr, tk3, os⟩, H, .ref C, none, rfl, I.tok tk3, kk, J.new, at3, ⟨rfl, rfl⟩, rfl, rfl, I.hok.fresh (by show hp.objs.size ≤ _; omega), rfl, I.bare, raises_own T.cls.exC T.cls.tyC, h⟩
theorem pmk_one {k : Nat} (T : Ec1 X.prog X.K C y) (hr : Room (k + 1) X.A) (gs : X.mg "super" = none) (hg : Gl X x) (hm : X.mg x = some (.ref C)) (ha : PE X e te) (hdb : (x == ("__debug__" : Str)) = false := by decide)
    (he : starEach [e] X.env = (false, eval e X.env) :: starEach [] X.env := by rfl) (hpl : (backTo pos (starEach [] X.env)).any (·.1) = false := by rfl) : PMk X (.Call (.Name x p) [e] [] pos) (tMk1 C y te) := by
  intro pins s σ H Q I h
  obtain ⟨nm, q, N, bs, bm, sn, sub, ab, col, dd, k0, k1, k2, k3, k5, hC, hbm⟩ := T.cls.cls
  obtain ⟨fI, iC, tI⟩ := T.ini
  refine wpAny_Call_Name_kw (ld_glob I hg hm ?_ hdb)
  refine callWith_K (h₀ := X.base) I.ok.mod.kin T.cls.kC ?_ he hpl
  rw [he]
  refine spliced_cons (thn (ha.run pins _ σ H _ I h) fun u s1 ⟨v, H1, I1, rv, q1⟩ => spliced_nil ⟨I1.kIn, ?_⟩)
  obtain ⟨hp, g, dr, tk, os⟩ := s1
  obtain ⟨mb, J⟩ := ini0_of (C := C) (us := [u]) I1 gs
  refine wpAny_call (PySem.HandSPX.call_own PySem.F.excBase_ValueError (fun Y => PySem.HandSPX.refsVE_contains Y bm hbm) (I1.kIn _ _ hC) (looks_findIn I1.kIn iC) (fun self => bind_fn I1.kIn self tI) (by show 1 ≤ sizeLine; rw [sizeLine_eq]; omega) ?_)
  refine T.run _ _ _ _ _ _ _ _ _ _ _ _ _ u J (hr.make C [u] []).depth (fun h3 tk3 t1 dx kk at3 dn dne hns => ?_) fI iC
  refine ⟨rfl, ?_⟩
  obtain ⟨G, g1, g2⟩ := restrict h3 fun b => decide (b ≠ hp.objs.size + 1)
  have gk : ∀ b, b ≠ hp.objs.size + 1 → G.get? b = h3.get? b := fun b hb => g1 b (decide_eq_true hb)
  have ge : G.get? (hp.objs.size + 1) = none := g2 _ (by simp)
  have hd1 : H1 dx = none := I1.hok.fresh dn
  have nE : ∀ b o, hp.get? b = some o → b ≠ hp.objs.size + 1 := fun b o z z2 => by rw [z2, J.new] at z; cases z
  have ok : ObjOk X.prog X.w (upd H1 dx (.xd [(y, v)])) G dx (.xd [(y, v)]) := ⟨_, hns.at fun o z => (gk dx dne).trans z, relO_put (fs := []) rv fun _ => True.intro⟩
  have I2 : Inv X pins σ (upd H1 dx (.xd [(y, v)])) ⟨G, g, dr, tk3, os⟩ := I1.laid (t' := tk3) (fun b o z => (gk b (nE b o z)).trans (kk b o z)) dn ok
  refine ⟨hp.objs.size + 1, _, _, ⟨G, g, dr, tk3, os⟩, _, .ref C, some dx, rfl, I2, fun b o z => ?_, ge, at3, ⟨rfl, rfl⟩, rfl, rfl, ?_, rfl, I1.bare, raises_own T.cls.exC T.cls.tyC, q1 dx hd1⟩
  · rw [← gk b (fun z2 => by rw [z2, ge] at z; cases z)]
    exact z
  · rw [upd_ne (Ne.symm dne)]
    exact I1.hok.fresh (by show hp.objs.size ≤ _; omega)
end
end EX
end DL
namespace DL
open PySem L2 PySem.Spec PyProof.Rows
/-! ### errors: what a def lets out, what a suite holds -/
def errN : List Str := ["Unfit", "TooMany", "BadText", "BadChain", "BadLog", "Refused", "NothingToUndo"]
/-- whether an error of the class a is one of b -/
def subX (a b : Str) : Bool := a == b || b == "LineError" || b == "ValueError"
def IsX (c : C) (K : PySem.W.Frag) (x : Xn) (cls : Value) (d : Option Addr) (B H : Hp) : Prop :=
  x.nm ∈ errN ∧ cls = .ref (He.ga K x.nm) ∧ (x.fl = none → d = none) ∧ ∀ y dv, x.fl = some (y, dv) → ∃ dd v, d = some dd ∧ ¬ c.isBag dd ∧ H dd = some (.xd [(y, v)]) ∧ Rp B v dv
abbrev WE := Xn → Env → Prop
def toW (c : C) (K : PySem.W.Frag) (W : WE) : WX := fun cls d σ H => ∃ B ρ x, EOk c B H σ ρ ∧ IsX c K x cls d B H ∧ W x ρ
abbrev SpecE := List Sl → (D → Prop) → (Xn → Prop) → Prop
def toSpE (G : C → Prop) (K : PySem.W.Frag) (S : SpecE) : Sp := fun vs H Q E => ∃ c : C, G c ∧ c.H0 = H ∧ Wd c c.B0 H ∧ ∃ ss, ArgsOk c c.B0 H vs ss ∧
  S ss (fun d => ∀ v B' H', Gr c c.B0 H B' H' → Rp B' v d → Q v H') (fun x => ∀ cls d B' H', Gr c c.B0 H B' H' → IsX c K x cls d B' H' → E cls d H')
structure FnE (G : C → Prop) (P : Program) (w : World) (K : PySem.W.Frag) (mg : Str → Option Value) (base : Heap) (k : Nat) (f : Addr) (fd : FuncData) (ps : List Str) (S : SpecE) : Prop where
  mono : ∀ ss (Q Q' : D → Prop) (E E' : Xn → Prop), (∀ d, Q d → Q' d) → (∀ x, E x → E' x) → S ss Q E → S ss Q' E'
  len : ∀ ss Q E, S ss Q E → ss.length = ps.length
  run : ∀ (A : Around) (outer : List PySem.Env) (s : Shared) (H : Hp) (args : Args) (us : List Value) (vs : List V) (Q : VK) (E : XK), A.guards = some [] → Room k A → Env0 P w K mg base A outer s H →
    BindsTo s fd args (ps.zip us) → Vals vs us → toSpE G K S vs H Q E → codeAny (model P w) A (.call (.ref f) args) (CR (L2.CX P w) outer P w H s Q E) s
section
variable {G : C → Prop} {P : Program} {w : World} {K : PySem.W.Frag} {mg : Str → Option Value} {base : Heap}
theorem FnE.up {j k : Nat} {f : Addr} {fd : FuncData} {ps : List Str} {S : SpecE} (F : FnE G P w K mg base j f fd ps S) (h : j ≤ k) : FnE G P w K mg base k f fd ps S :=
  ⟨F.mono, F.len, fun A outer s H args us vs Q E hg hr => F.run A outer s H args us vs Q E hg (hr.mono h)⟩
/-- THE RULE for a def that may raise -/
theorem fne_of {x qual : Str} {st : Stmt} {f : Addr} {fd : FuncData} {N ps : List Str} {k : Nat} {S : SpecE} (F : Fun K x qual st f fd) (sc : FnScope N ps (defScope st))
    (mono : ∀ ss (Q Q' : D → Prop) (E E' : Xn → Prop), (∀ d, Q d → Q' d) → (∀ x, E x → E' x) → S ss Q E → S ss Q' E') (len : ∀ ss Q E, S ss Q E → ss.length = ps.length) (g : WE → SS)
    (body : ∀ (cdv : Value) (A : Around) (outer : List PySem.Env) (s : Shared) (c : C) (E : XK) (W : WE), G c → A.guards = some [] → Room k (A.deeper (envOfC qual (defScope st) s.heap.objs.size f cdv)) →
      Takes (cxOf (L2.CX P w) P w K mg base N qual (defScope st) f cdv A outer s c.H0 E) (toW c K W) →
      PassesOwn (model P w) (A.deeper (envOfC qual (defScope st) s.heap.objs.size f cdv)) (envOfC qual (defScope st) s.heap.objs.size f cdv) (cxOf (L2.CX P w) P w K mg base N qual (defScope st) f cdv A outer s c.H0 E).xe →
      PSsd (cxOf (L2.CX P w) P w K mg base N qual (defScope st) f cdv A outer s c.H0 E) c (defBody st) (g W))
    (run : ∀ ss Q E, S ss Q E → g (fun x _ => E x) (endsOf Q) (initE N ss)) : FnE G P w K mg base (k + 1) f fd ps S := by
  obtain ⟨oc, od, kV, doc, pm, an, cdv, ct, osl, rfl, lk', hcd⟩ := F.ex
  refine ⟨mono, len, ?_⟩
  intro A outer s H args us vs Q E hg hr e0 hb r hsp
  obtain ⟨c, hG, hH, wd, ss, ha, hS⟩ := hsp
  subst hH
  have hvl : vs.length = ps.length := by rw [ha.len]; exact len _ _ _ hS
  have stands : ∀ b o, base.get? b = some o → s.heap.get? b = some o := fun b o z => (e0.bs b o z).1
  have KX : K.In s.heap := e0.mod.kin.keeps stands
  refine codeAny_call_function hr.depth (KX _ _ lk') rfl sc.co sc.gen rfl (PySem.W.codeRec_of KX hcd) (hb _ _ _ _ (wpAny_newFunctionEnv_cells sc.kind ?_ ?_))
  · rintro ⟨n, v⟩ hy
    rcases sc.par n (List.of_mem_zip hy).1 with q | q
    · exact Or.inl q
    · exact Or.inr ⟨q, PySem.W.cellsFrom_some _ _ _ (Or.inl q)⟩
  · intro env he s1 x
    subst he
    refine ⟨(e0.mod.nolimit.keeps stands).keeps x.toInCall.keep, codeAny_func ?_⟩
    have tk : Takes (cxOf (L2.CX P w) P w K mg base N qual (defScope st) f cdv A outer s c.H0 E) (toW c K fun x _ => ∀ cls d B' H', Gr c c.B0 c.H0 B' H' → IsX c K x cls d B' H' → E cls d H') :=
      (takes_of rfl rfl rfl rfl).imp fun cls d σ H ⟨B, ρ, x, ok, hx, hw⟩ => hw cls d B H ok.g hx
    have hg1 := body cdv A outer s c E _ hG hg (hr.deeper _) tk (passes_of rfl)
    have I := inv_start (CX := L2.CX P w) (E := E) (qual := qual) sc hr.hd e0 hvl r x
    have ok := EOk.init (N := N) wd ha
    have goal := hg1.ps.run [] s1 (L2.start N vs) c.H0 { nx := fun _ H' => Q .non H', rt := Q } I ⟨c.B0, initE N ss, ok, hg1.mono (endsOf fun d => ∀ v B' H', Gr c c.B0 c.H0 B' H' → Rp B' v d → Q v H') _ _ ⟨fun ρ h σ' B' H' ok' _ => h .non B' H' ok'.g .non, fun _ h => h, fun _ h => h.elim, fun _ h => h.elim, fun _ h => h.elim⟩ (run ss _ _ hS)⟩
    refine wpAny_mono goal (fun fl s' hs => ?_) fun _ _ z => z
    cases fl with
    | ret u =>
      obtain ⟨v, σ', H', J, rv, q⟩ := hs
      exact ⟨v, H', J.os, J.bare, J.base, J.hok, rv, q⟩
    | next =>
      obtain ⟨σ', H', J, q⟩ := hs
      exact ⟨.non, H', J.os, J.bare, J.base, J.hok, rfl, q⟩
    | brk => exact hs.elim fun _ z => z.elim fun _ y => y.2.elim
    | cont => exact hs.elim fun _ z => z.elim fun _ y => y.2.elim
end
end DL
namespace DL
open PySem L2 PySem.Spec PyProof.Rows
/-! ### the guard, with another entry, another error held -/
abbrev C.at (c : C) (b0 h0 : Hp) (a : Addr) (d : Option Addr) (n : Str) : C := { c with B0 := b0, H0 := h0, xa := a, xd := d, xn := n }
section
variable {c : C} {B H b0 h0 : Hp} {a : Addr} {d : Option Addr} {n : Str} {σ : L2.St} {ρ : Env}
theorem Wd.at (w : Wd c B H) : Wd (c.at b0 h0 a d n) B H := ⟨w.sub, ⟨w.bag.out, w.bag.here, w.bag.ok⟩⟩
theorem Wd.of (w : Wd (c.at b0 h0 a d n) B H) : Wd c B H := ⟨w.sub, ⟨w.bag.out, w.bag.here, w.bag.ok⟩⟩
theorem Gr.at {B' H' : Hp} (g : Gr c B H B' H') : Gr (c.at b0 h0 a d n) B H B' H' := ⟨g.b, g.h, g.n, g.w.at⟩
theorem Gr.of {B' H' : Hp} (g : Gr (c.at b0 h0 a d n) B H B' H') : Gr c B H B' H' := ⟨g.b, g.h, g.n, g.w.of⟩
def noOw (ρ : Env) : Bool := ρ.all fun s => match s with | .ow _ => false | _ => true
def noEx (ρ : Env) : Bool := ρ.all fun s => match s with | .ex _ => false | _ => true
theorem noOw_at {i : Nat} {ds : List D} (h : noOw ρ = true) (e : ρ[i]? = some (Sl.ow ds)) : False := by
  have := List.all_eq_true.mp h _ (List.mem_of_getElem? e)
  cases this
theorem noEx_at {i : Nat} {x : Xn} (h : noEx ρ = true) (e : ρ[i]? = some (Sl.ex x)) : False := by
  have := List.all_eq_true.mp h _ (List.mem_of_getElem? e)
  cases this
theorem EOk.conv (ok : EOk c B H σ ρ) (w0 : Wd c b0 h0) (g : Gr c b0 h0 B H) (ho : ∀ (i : Nat) (ds : List D) (p : Addr), ρ[i]? = some (Sl.ow ds) → σ[i]? = some (some (V.ref p)) → h0 p = none) (hx : (a = c.xa ∧ d = c.xd ∧ n = c.xn) ∨ noEx ρ = true) :
    EOk (c.at b0 h0 a d n) B H σ ρ := by
  refine ⟨w0.at, ok.w.at, g.at, ok.len, fun i s hi => ?_, ok.ap⟩
  have o := ok.sl i s hi
  cases s with
  | un => trivial
  | sh _ => exact o
  | bg => exact o
  | ow ds =>
    obtain ⟨p, vs, h1, h2, h3⟩ := o
    exact ⟨p, vs, h1, ho i ds p hi h1, h3⟩
  | ex x =>
    rcases hx with ⟨rfl, rfl, rfl⟩ | hx
    · exact o
    · exact (noEx_at hx hi).elim
/-- a try's body begins -/
theorem EOk.base (ok : EOk c B H σ ρ) (no : noOw ρ = true) : EOk (c.at B H c.xa c.xd c.xn) B H σ ρ :=
  ok.conv ok.w (Gr.refl ok.w) (fun i ds p hi _ => (noOw_at no hi).elim) (.inl ⟨rfl, rfl, rfl⟩)
/-- .. is left -/
theorem EOk.unbase {B' H' : Hp} {σ' : L2.St} {ρ' : Env} (ok : EOk c B H σ ρ) (k : EOk (c.at B H c.xa c.xd c.xn) B' H' σ' ρ') : EOk c B' H' σ' ρ' := by
  refine EOk.conv (c := c.at B H c.xa c.xd c.xn) (b0 := c.B0) (h0 := c.H0) (a := c.xa) (d := c.xd) (n := c.xn) k (ok.w0.at) ((ok.g.trans ok.w0 k.g.of).at) (fun i ds p hi hp => ?_) (.inl ⟨rfl, rfl, rfl⟩)
  obtain ⟨q, vs, h1, h2, h3⟩ := k.sl i _ hi
  rw [hp] at h1
  cases h1
  exact ok.g.back h2
/-- a slot is wiped -/
theorem EOk.wipe (ok : EOk c B H σ ρ) (i : Nat) : EOk c B H (σ.set i none) (ρ.set i .un) := by
  have old : ∀ {j : Nat} {s : Sl}, (ρ.set i .un)[j]? = some s → s ≠ .un → j ≠ i ∧ ρ[j]? = some s := fun {j s} h hs => by
    by_cases e : i = j
    · subst e
      have hl : i < ρ.length := by
        have := (List.getElem?_eq_some_iff.mp h).1
        rw [List.length_set] at this; exact this
      rw [List.getElem?_set_self hl] at h
      cases h
      exact absurd rfl hs
    · rw [List.getElem?_set_ne e] at h
      exact ⟨Ne.symm e, h⟩
  refine ⟨ok.w0, ok.w, ok.g, by rw [List.length_set, List.length_set]; exact ok.len, fun j s hj => ?_, fun j k p ds es hjk h1 h2 h3 h4 => ?_⟩
  · by_cases hs : s = .un
    · subst hs; trivial
    · obtain ⟨ne, h⟩ := old hj hs
      exact (ok.sl j s h).congr (List.getElem?_set_ne (Ne.symm ne))
  · obtain ⟨n1, k1⟩ := old h1 (fun z => nomatch z)
    obtain ⟨n2, k2⟩ := old h2 (fun z => nomatch z)
    rw [List.getElem?_set_ne (Ne.symm n1)] at h3
    rw [List.getElem?_set_ne (Ne.symm n2)] at h4
    exact ok.ap j k p ds es hjk k1 k2 h3 h4
/-- a suite begins: slot i holds the error -/
theorem EOk.enter {x : Xn} (ok : EOk c B H σ ρ) (no : noEx ρ = true) (i : Nat) (hn : x.nm = n) (h0 : x.fl = none → d = none) (hx : ∀ y dv, x.fl = some (y, dv) → ∃ dd v, d = some dd ∧ ¬ c.isBag dd ∧ H dd = some (.xd [(y, v)]) ∧ Rp B v dv) :
    EOk (c.at c.B0 c.H0 a d n) B H (σ.set i (some (.ref a))) (ρ.set i (.ex x)) := by
  have k : EOk (c.at c.B0 c.H0 a d n) B H σ ρ := ok.conv ok.w0 ok.g (fun i ds p hi hp => by
    obtain ⟨q, vs, h1, h2, h3⟩ := ok.sl i _ hi
    rw [hp] at h1
    cases h1
    exact h2) (.inr no)
  exact k.put (fun hi => ⟨List.getElem?_set_self hi, ⟨hn, h0⟩, hx⟩) fun ds p e _ => nomatch e
/-- .. is left -/
theorem EOk.exit {B' H' : Hp} {σ' : L2.St} {ρ' : Env} (ok : EOk c B H σ ρ) (k : EOk (c.at B H a d n) B' H' σ' ρ') (i : Nat) (no : noEx (ρ'.set i .un) = true) : EOk c B' H' (σ'.set i none) (ρ'.set i .un) := by
  have k2 := k.wipe i
  refine EOk.conv (c := c.at B H a d n) (b0 := c.B0) (h0 := c.H0) (a := c.xa) (d := c.xd) (n := c.xn) k2 (ok.w0.at) ((ok.g.trans ok.w0 k.g.of).at) (fun j ds p hj hp => ?_) (.inr no)
  obtain ⟨q, vs, h1, h2, h3⟩ := k2.sl j _ hj
  rw [hp] at h1
  cases h1
  exact ok.g.back h2
end
/-! ### calls -/
def fCallE (W : WE) (S : SpecE) (fa : SA) : SE := fun ρ Q => fa ρ fun ss => S ss Q fun x => W x ρ
def fCallEK (W : WE) (S : SpecE) (is : List Nat) (fa : SA) : SE := fun ρ Q => fa ρ fun ss => S (perm is ss) Q fun x => W x ρ
section
variable {G : C → Prop} {X : Cx} {c : C} {k : Nat} {f : Addr} {fd : FuncData} {ps : List Str} {S : SpecE} {W : WE}
theorem run_fne {pins : List (Addr × Obj)} {σ : L2.St} {H : Hp} {s : Shared} {Q : VK} {E : XK} {Wx : WX} {args : Args} {us : List Value} {vs : List V} (F : FnE G X.prog X.w X.K X.mg X.base k f fd ps S) (hgd : X.A.guards = some []) (hr : Room k X.A) (I : Inv X pins σ H s)
    (hb : BindsTo s fd args (ps.zip us)) (r : Vals vs us) (tk : Takes X Wx) (hE : ∀ cls d H', E cls d H' → Wx cls d σ H') (h : toSpE G X.K S vs H Q E) : codeAny (model X.prog X.w) X.A (.call (.ref f) args) (wants (EP X pins σ Q) X.xe) s := by
  refine codeAny_mono (F.run X.A X.stack s H args us vs Q E hgd hr I.env0 hb r h) fun z s' hq => ?_
  cases z with
  | error e => exact tk _ _ (XE.of_call I hE hq)
  | ok fl => cases fl <;> first | exact I.after hq | exact False.elim hq
theorem ArgsOk.at {B H b0 h0 : Hp} {a : Addr} {d : Option Addr} {n : Str} : ∀ {vs : List V} {ss : List Sl}, ArgsOk c B H vs ss → ArgsOk (c.at b0 h0 a d n) B H vs ss
  | [], [], _ => trivial
  | _ :: _, s :: _, h => ⟨by cases s <;> exact h.1, ArgsOk.at h.2⟩
  | [], _ :: _, h => h.elim
  | _ :: _, [], h => h.elim
theorem toSpE_of {B H B1 H1 : Hp} {σ : L2.St} {ρ : Env} {Q : VK} {vs : List V} {ss : List Sl} (hG : ∀ B1 H1, G { c with B0 := B1, H0 := H1 }) (ok : EOk c B H σ ρ) (g : Gr c B H B1 H1) (F : FnE G X.prog X.w X.K X.mg X.base k f fd ps S) (r : ArgsOk c B1 H1 vs ss)
    (h : S ss (fun d => ∀ v B' H', Gr c B H B' H' → Rp B' v d → Q v H') (fun x => W x ρ)) : toSpE G X.K S vs H1 Q (fun cls d H' => toW c X.K W cls d σ H') :=
  ⟨c.at B1 H1 c.xa c.xd c.xn, hG _ _, rfl, g.w.at, ss, r.at, F.mono _ _ _ _ _ (fun d hd v B' H' g2 r2 => hd v B' H' (g.trans ok.w g2.of) r2)
    (fun x hw cls d B' H' g2 hx => ⟨B', ρ, x, ok.mono (g.trans ok.w g2.of), hx, hw⟩) h⟩
theorem v_callE0 {x : Str} {p pos : Pos} {e : Expr} {es : List Expr} {fa : SA} (F : FnE G X.prog X.w X.K X.mg X.base k f fd ps S) (tk : Takes X (toW c X.K W)) (hG : ∀ B1 H1, G { c with B0 := B1, H0 := H1 }) (hgd : X.A.guards = some []) (hr : Room k X.A) (hm : X.mg x = some (.ref f)) (hk : PySem.W.keepIn X.K (.ref f) = true) (hb : Binds X.K fd ps []) (ha : PAd X c (e :: es) fa)
    (hg : Gl X x := by rfl) (hdb : (x == ("__debug__" : Str)) = false := by decide) (he : starEach (e :: es) X.env = (false, eval e X.env) :: starEach es X.env := by rfl) (hpl : (backTo pos (starEach es X.env)).any (·.1) = false := by rfl) :
    PV X c (.Call (.Name x p) (e :: es) [] pos) (fCallE W S fa) := by
  refine ⟨fun ρ Q Q' k h => ha.mono _ _ _ (fun ss hs => F.mono _ _ _ _ _ k (fun _ z => z) hs) h, ⟨fun pins s σ H Q I ⟨B, ρ, ok, h⟩ => wpAny_Call_Name_kw (ld_glob I hg hm (PySem.W.callWith_K (h₀ := X.base) I.ok.mod.kin hk (wpAny_mono (ha.pa.run pos pins s σ H
    (fun vs H1 => ∃ B1 ss, Gr c B H B1 H1 ∧ ArgsOk c B1 H1 vs ss ∧ S ss (fun d => ∀ v B' H', Gr c B H B' H' → Rp B' v d → Q v H') fun x => W x ρ) I ⟨B, ρ, ok, ha.mono _ _ _ (fun ss hs vs B1 H1 g r => ⟨B1, ss, g, r, hs⟩) h⟩) (fun us s1 hv => ?_) fun _ _ z => z) he hpl) hdb)⟩⟩
  obtain ⟨vs, H1, I1, rv, B1, ss, g, ra, hS⟩ := hv
  have hl : us.length = ps.length := by rw [← rv.length, ra.len]; exact F.len _ _ _ hS
  refine ⟨I1.kIn, wpAny_call (run_fne F hgd hr I1 ?_ rv tk (fun _ _ _ z => z) (toSpE_of hG ok g F ra hS))⟩
  have := hb s1 us I1.kIn (by rw [List.append_nil]; exact hl)
  rw [List.append_nil] at this
  exact this
theorem v_callEK0 {x : Str} {p pos : Pos} {kws : List Keyword} {ks : List Str} {is : List Nat} {fa : SA} (F : FnE G X.prog X.w X.K X.mg X.base k f fd ps S) (tk : Takes X (toW c X.K W)) (hG : ∀ B1 H1, G { c with B0 := B1, H0 := H1 }) (hgd : X.A.guards = some []) (hr : Room k X.A) (hm : X.mg x = some (.ref f)) (hk : PySem.W.keepIn X.K (.ref f) = true) (hb : KwB X.K fd ps ks is) (ha : PKd X c kws fa)
    (hn : kws.length = ks.length := by rfl) (hg : Gl X x := by rfl) (hdb : (x == ("__debug__" : Str)) = false := by decide) (hall : (backToKw pos (keywordEach kws X.env)).all (·.1.isSome) = true := by rfl) (hks : (backToKw pos (keywordEach kws X.env)).filterMap (·.1) = ks := by rfl)
    (hpl : ((backTo pos (starEach [] X.env)).any (·.1) || (backToKw pos (keywordEach kws X.env)).any (·.1.isNone)) = false := by rfl) :
    PV X c (.Call (.Name x p) [] kws pos) (fCallEK W S is fa) := by
  refine ⟨fun ρ Q Q' k h => ha.mono _ _ _ (fun ss hs => F.mono _ _ _ _ _ k (fun _ z => z) hs) h, ⟨fun pins s σ H Q I ⟨B, ρ, ok, h⟩ => wpAny_Call_Name_kw (ld_glob I hg hm (PySem.W.callWith_KW0 (h₀ := X.base) I.ok.mod.kin hk hall (wpAny_mono (ha.pk.run pos pins s σ H
    (fun vs H1 => ∃ B1 ss, Gr c B H B1 H1 ∧ ArgsOk c B1 H1 vs ss ∧ ss.length = kws.length ∧ S (perm is ss) (fun d => ∀ v B' H', Gr c B H B' H' → Rp B' v d → Q v H') fun x => W x ρ) I ⟨B, ρ, ok, ha.mono _ _ _ (fun ss hs vs B1 H1 g r => ⟨B1, ss, g, r, hs.2, hs.1⟩) (ha.len _ _ h)⟩) (fun us s1 hv => ?_) fun _ _ z => z) hpl) hdb)⟩⟩
  obtain ⟨vs, H1, I1, rv, B1, ss, g, ra, hsl, hS⟩ := hv
  rw [hks]
  exact ⟨I1.kIn, wpAny_call (run_fne F hgd hr I1 (hb.to s1 us I1.kIn (by rw [← rv.length, ra.len, hsl, hn])) (perm_vals rv is) tk (fun _ _ _ z => z) (toSpE_of hG ok g F (perm_args ra is) hS))⟩
end
/-! ### by names -/
def KnE (P : Program) (w : World) (K : PySem.W.Frag) (mg : Str → Option Value) (base : Heap) (k : Nat) (x : Str) (ps : List Str) (S : SpecE) : Prop :=
  ∃ f fd, FnE IsLst P w K mg base k f fd ps S ∧ mg x = some (.ref f) ∧ PySem.W.keepIn K (.ref f) = true ∧ Binds K fd ps []
def KnEK (P : Program) (w : World) (K : PySem.W.Frag) (mg : Str → Option Value) (base : Heap) (k : Nat) (x : Str) (ps ks : List Str) (is : List Nat) (S : SpecE) : Prop :=
  ∃ f fd, FnE IsLst P w K mg base k f fd ps S ∧ mg x = some (.ref f) ∧ PySem.W.keepIn K (.ref f) = true ∧ KwB K fd ps ks is
section
variable {P : Program} {w : World} {K : PySem.W.Frag} {mg : Str → Option Value} {base : Heap} {j k : Nat} {x : Str} {ps ks : List Str} {is : List Nat} {S : SpecE} {f : Addr} {fd : FuncData}
theorem KnE.up (h : KnE P w K mg base j x ps S) (l : j ≤ k) : KnE P w K mg base k x ps S := let ⟨f, fd, h1, h2⟩ := h; ⟨f, fd, h1.up l, h2⟩
theorem KnEK.up (h : KnEK P w K mg base j x ps ks is S) (l : j ≤ k) : KnEK P w K mg base k x ps ks is S := let ⟨f, fd, h1, h2⟩ := h; ⟨f, fd, h1.up l, h2⟩
theorem KnE.mk (h : FnE IsLst P w K mg base k f fd ps S) (h1 : mg x = some (.ref f)) (h2 : PySem.W.keepIn K (.ref f) = true) (h3 : Binds K fd ps []) : KnE P w K mg base k x ps S := ⟨f, fd, h, h1, h2, h3⟩
theorem KnEK.mk (h : FnE IsLst P w K mg base k f fd ps S) (h1 : mg x = some (.ref f)) (h2 : PySem.W.keepIn K (.ref f) = true) (h3 : KwB K fd ps ks is) : KnEK P w K mg base k x ps ks is S := ⟨f, fd, h, h1, h2, h3⟩
end
section
variable {X : Cx} {c : C} {k : Nat} {ps : List Str} {S : SpecE} {W : WE}
theorem v_callE {x : Str} {p pos : Pos} {e : Expr} {es : List Expr} {fa : SA} (F : KnE X.prog X.w X.K X.mg X.base k x ps S) (tk : Takes X (toW c X.K W)) (hG : IsLst c) (hgd : X.A.guards = some []) (hr : Room k X.A) (ha : PAd X c (e :: es) fa)
    (hg : Gl X x := by rfl) (hdb : (x == ("__debug__" : Str)) = false := by decide) (he : starEach (e :: es) X.env = (false, eval e X.env) :: starEach es X.env := by rfl) (hpl : (backTo pos (starEach es X.env)).any (·.1) = false := by rfl) :
    PV X c (.Call (.Name x p) (e :: es) [] pos) (fCallE W S fa) := by
  obtain ⟨f, fd, h1, h2, h3, h4⟩ := F
  exact v_callE0 h1 tk hG.up hgd hr h2 h3 h4 ha hg hdb he hpl
theorem v_callEK {x : Str} {p pos : Pos} {kws : List Keyword} {ks : List Str} {is : List Nat} {fa : SA} (F : KnEK X.prog X.w X.K X.mg X.base k x ps ks is S) (tk : Takes X (toW c X.K W)) (hG : IsLst c) (hgd : X.A.guards = some []) (hr : Room k X.A) (ha : PKd X c kws fa)
    (hn : kws.length = ks.length := by rfl) (hg : Gl X x := by rfl) (hdb : (x == ("__debug__" : Str)) = false := by decide) (hall : (backToKw pos (keywordEach kws X.env)).all (·.1.isSome) = true := by rfl) (hks : (backToKw pos (keywordEach kws X.env)).filterMap (·.1) = ks := by rfl)
    (hpl : ((backTo pos (starEach [] X.env)).any (·.1) || (backToKw pos (keywordEach kws X.env)).any (·.1.isNone)) = false := by rfl) :
    PV X c (.Call (.Name x p) [] kws pos) (fCallEK W S is fa) := by
  obtain ⟨f, fd, h1, h2, h3, h4⟩ := F
  exact v_callEK0 h1 tk hG.up hgd hr h2 h3 h4 ha hn hg hdb hall hks hpl
end
end DL
namespace DL
open PySem L2 PySem.Spec PyProof.Rows
/-! ### raise -/
def fRaise0 (W : WE) (nm : Str) : SS := fun D ρ => W ⟨nm, none⟩ ρ
def fRaise1 (W : WE) (nm y : Str) (fe : SE) : SS := fun D ρ => fe ρ fun d => W ⟨nm, some (y, d)⟩ ρ
section
variable {X : Cx} {c : C} {k : Nat} {W : WE} {x y : Str} {p p2 pos : Pos} {e : Expr} {fe : SE}
theorem s_raise0 (hc : X.calm = true) (tk : Takes X (toW c X.K W)) (T : EX.Ec0 X.prog X.K (He.ga X.K x)) (hr : Room (k + 1) X.A) (gs : X.mg "super" = none) (hm : X.mg x = some (.ref (He.ga X.K x))) (hx : x ∈ errN := by decide) (hg : Gl X x := by rfl) (hdb : (x == ("__debug__" : Str)) = false := by decide) (he : starEach [] X.env = [] := by rfl) :
    PSd X c (.Raise (some (.Call (.Name x p) [] [] p2)) none pos) (fRaise0 W x) :=
  ⟨fun _ _ _ _ h => h, ps_weak (ps_raise hc tk (EX.pmk_zero T hr gs hg hm hdb he)) fun D σ H ⟨B, ρ, ok, h⟩ => ⟨B, ρ, ⟨x, none⟩, ok, ⟨hx, rfl, fun _ => rfl, fun y dv z => nomatch z⟩, h⟩⟩
theorem s_raise1 (hc : X.calm = true) (tk : Takes X (toW c X.K W)) (T : EX.Ec1 X.prog X.K (He.ga X.K x) y) (hr : Room (k + 1) X.A) (gs : X.mg "super" = none) (hm : X.mg x = some (.ref (He.ga X.K x))) (ha : PV X c e fe) (hx : x ∈ errN := by decide) (hg : Gl X x := by rfl) (hdb : (x == ("__debug__" : Str)) = false := by decide)
    (he : starEach [e] X.env = (false, eval e X.env) :: starEach [] X.env := by rfl) (hpl : (backTo p2 (starEach [] X.env)).any (·.1) = false := by rfl) : PSd X c (.Raise (some (.Call (.Name x p) [e] [] p2)) none pos) (fRaise1 W x y fe) := by
  refine ⟨fun _ _ _ _ h => h, ps_weak (ps_raise hc tk (EX.pmk_one T hr gs hg hm ha.pe hdb he hpl)) fun D σ H ⟨B, ρ, ok, h⟩ => ⟨B, ρ, ok, ha.mono _ _ _ (fun d hd v B1 H1 g1 r1 a hz => ?_) h⟩⟩
  refine ⟨B1, ρ, ⟨x, some (y, d)⟩, ok.mono (g1.trans ok.w (Gr.newO (o := .xd [(y, v)]) g1.w hz)), ⟨hx, rfl, (fun z => nomatch z), fun y' dv z => ?_⟩, hd⟩
  cases z
  exact ⟨a, v, rfl, fun z => g1.w.there z hz, upd_same, r1⟩
end
/-! ### try: body, except x as n: suite -/
/-- the ends of a suite: the name goes -/
def suiteE (i : Nat) (D : En) : En := { nx := fun ρ => noEx (ρ.set i .un) = true ∧ D.nx (ρ.set i .un), rt := D.rt, bk := fun ρ => noEx (ρ.set i .un) = true ∧ D.bk (ρ.set i .un), ct := fun ρ => noEx (ρ.set i .un) = true ∧ D.ct (ρ.set i .un), ro := fun _ => False }
def fHand (i : Nat) (T : Str) (fs : SS) (Wo : WE) (D : En) (x : Xn) (ρ : Env) : Prop := if subX x.nm T = true then noEx ρ = true ∧ fs (suiteE i D) (ρ.set i (.ex x)) else Wo x ρ
def fTry (i : Nat) (T : Str) (fb : WE → SS) (fs : SS) (Wo : WE) : SS := fun D ρ => noOw ρ = true ∧ ∃ (W : WE) (D0 : En), En.le D0 D ∧ (∀ x ρ1, W x ρ1 → fHand i T fs Wo D x ρ1) ∧ fb W D0 ρ
theorem suiteE_le {i : Nat} {D D' : En} (l : En.le D D') : En.le (suiteE i D) (suiteE i D') := ⟨fun _ h => ⟨h.1, l.nx _ h.2⟩, l.rt, fun _ h => ⟨h.1, l.bk _ h.2⟩, fun _ h => ⟨h.1, l.ct _ h.2⟩, fun _ h => h⟩
theorem En.le.trans {D D' D2 : En} (a : En.le D D') (b : En.le D' D2) : En.le D D2 := ⟨fun _ h => b.nx _ (a.nx _ h), fun _ h => b.rt _ (a.rt _ h), fun _ h => b.bk _ (a.bk _ h), fun _ h => b.ct _ (a.ct _ h), fun _ h => b.ro _ (a.ro _ h)⟩
theorem fHand_mono {i : Nat} {T : Str} {fs : SS} {Wo : WE} (ms : MonoS fs) {D D' : En} (l : En.le D D') {x : Xn} {ρ : Env} (h : fHand i T fs Wo D x ρ) : fHand i T fs Wo D' x ρ := by
  unfold fHand at h ⊢
  by_cases hb : subX x.nm T = true
  · rw [if_pos hb] at h ⊢
    exact ⟨h.1, ms _ _ _ (suiteE_le l) h.2⟩
  · rw [if_neg hb] at h ⊢
    exact h
section
variable {X : Cx} {c : C} {x n : Str} {body suite : List Stmt} {b₀ : Stmt} {np pos pos' : Pos} {fb : WE → SS} {fs : SS} {Wo : WE}
theorem s_try_as (i : Nat) (hN : X.N.Nodup) (hsub : ∀ nm ∈ errN, PySem.W.exmOne X.K (.ref (He.ga X.K nm)) (.ref (He.ga X.K x)) = some (subX nm x)) (hm : X.mg x = some (.ref (He.ga X.K x))) (tk : Takes X (toW c X.K Wo))
    (hb : ∀ (b0 h0 : Hp) (W : WE) (pn : List (Addr × Obj)) (xe : Value → Shared → Prop), Takes (X.tr pn xe) (toW (c.at b0 h0 c.xa c.xd c.xn) X.K W) → PassesOwn (model X.prog X.w) X.A X.env xe → PSsd (X.tr pn xe) (c.at b0 h0 c.xa c.xd c.xn) body (fb W))
    (hsu : ∀ (b0 h0 : Hp) (a : Addr) (oe : Obj) (d : Option Addr) (nm : Str) (pn : List (Addr × Obj)), nm ∈ errN → Zc (.ref (He.ga X.K nm)) d oe → (∃ vs, oe.data = .fields vs) → PSsd (X.suite a ((a, oe) :: pn)) (c.at b0 h0 a d nm) (b₀ :: suite) fs)
    (hs : X.stack = X.env :: X.outer := by rfl) (hf : X.env.frame = some X.env.locals := by rfl) (hi : X.N[i]? = some n := by rfl) (hln : X.env.kindOf n = some .local := by rfl) (hg : Gl X x := by rfl) (hdb : (x == ("__debug__" : Str)) = false := by decide) :
    PSd X c (.Try body [.ExceptHandler (some (.Name x np)) (some n) (b₀ :: suite) pos'] [] [] pos) (fTry i x fb fs Wo) := by
  have ms : MonoS fs := (hsu (fun _ => none) (fun _ => none) 0 { cls := .ref (He.ga X.K "Unfit"), dict := none, data := .fields #[] } none "Unfit" [] (by decide) ⟨rfl, rfl⟩ ⟨_, rfl⟩).mono
  refine ⟨fun D D' ρ l h => ?_, ?_⟩
  · obtain ⟨h1, W, D0, l0, h2, h3⟩ := h
    exact ⟨h1, W, D0, l0.trans l, fun x ρ1 hw => fHand_mono ms l (h2 x ρ1 hw), h3⟩
  · let tb : WX → TS := fun Wx D σ H => ∃ (b0 h0 : Hp) (W : WE), (∀ x ρ σ B H cls d, W x ρ → EOk (c.at b0 h0 c.xa c.xd c.xn) B H σ ρ → IsX c X.K x cls d B H → Wx cls d σ H) ∧ ∃ B ρ D0, EOk (c.at b0 h0 c.xa c.xd c.xn) B H σ ρ ∧ En.le D0 (liftE (c.at b0 h0 c.xa c.xd c.xn) B D) ∧ fb W D0 ρ
    let ts : Addr → Value → Option Addr → TS := fun a cls d D σ H => ∃ (b0 h0 : Hp) (nm : Str), nm ∈ errN ∧ cls = .ref (He.ga X.K nm) ∧ toS (c.at b0 h0 a d nm) fs D σ H
    have main := ps_try_as (X := X) (x := x) (n := n) (c := .ref (He.ga X.K x)) (i := i) (body := body) (suite := suite) (b₀ := b₀) (np := np) (pos := pos) (pos' := pos') (tb := tb) (ts := ts) (Wout := toW c X.K Wo) hs hf hN hi hln ⟨hg, hdb, .inl hm⟩ tk
      (fun Wx pn xe tk' hp' => ⟨fun pins s σ H D I ⟨b0, h0, W, hW, B, ρ, D0, ok, l0, h⟩ =>
        have z := hb b0 h0 W pn xe (tk'.imp fun cls d σ H ⟨B, ρ, x, ok, hx, hw⟩ => hW x ρ σ B H cls d hw ok hx) hp'
        z.ps.run pins s σ H D I ⟨B, ρ, ok, z.mono _ _ _ l0 h⟩⟩)
      (fun a oe cls d pn hz hv => ⟨fun pins s σ H D I ⟨b0, h0, nm, hnm, e, h⟩ => by
        subst e
        exact (hsu b0 h0 a oe d nm pn hnm hz hv).ps.run pins s σ H D I h⟩)
    refine ps_weak main fun D σ H ⟨B, ρ, ok, no, W, D0, l0, hW, h⟩ => ?_
    have okb := ok.base no
    refine ⟨B, H, W, fun x1 ρ1 σ1 B1 H1 cls d hw ok1 hx => ?_, B, ρ, D0, okb, l0.trans ?_, h⟩
    · have hh := hW x1 ρ1 hw
      obtain ⟨hmem, hcls, hf0, hfl⟩ := hx
      subst hcls
      refine ⟨subX x1.nm x, hsub _ hmem, fun hb1 a ha => ?_, fun hb1 => ?_⟩
      · unfold fHand at hh
        rw [if_pos hb1] at hh
        obtain ⟨noE, hh⟩ := hh
        refine ⟨B, H, x1.nm, hmem, rfl, B1, ρ1.set i (.ex x1), ok1.enter noE i rfl hf0 hfl, ms (suiteE i (liftE c B D)) _ _ ⟨fun ρ2 q σ' B' H' ok2 _ => ?_, fun d q v B' H' g r => ?_, fun ρ2 q σ' B' H' ok2 _ => ?_, fun ρ2 q σ' B' H' ok2 _ => ?_, fun _ q => q.elim⟩ hh⟩
        · exact q.2 _ B' H' (ok.exit ok2 i q.1) ok2.g.b
        · exact q v B' H' (ok.g.trans ok.w0 g.of) r
        · exact q.2 _ B' H' (ok.exit ok2 i q.1) ok2.g.b
        · exact q.2 _ B' H' (ok.exit ok2 i q.1) ok2.g.b
      · unfold fHand at hh
        rw [if_neg (by rw [hb1]; exact Bool.false_ne_true)] at hh
        exact ⟨B1, ρ1, x1, ok.unbase ok1, ⟨hmem, rfl, hf0, hfl⟩, hh⟩
    · refine ⟨fun ρ2 q σ' B' H' ok2 e => q σ' B' H' (ok.unbase ok2) e, fun d q v B' H' g r => q v B' H' (ok.g.trans ok.w0 g.of) r, fun ρ2 q σ' B' H' ok2 e => q σ' B' H' (ok.unbase ok2) e, fun ρ2 q σ' B' H' ok2 e => q σ' B' H' (ok.unbase ok2) e, fun ds q p vs B' H' g h0 h1 h2 r => ?_⟩
      exact q p vs B' H' (ok.g.trans ok.w0 g.of) (ok.g.back h0) h1 h2 r
end
end DL
namespace DL
open PySem L2 PySem.Spec PyProof.Rows
/-! ### an except suite: isinstance of its error, its field -/
/-- where the name of a class leads -/
def cvN (K : PySem.W.Frag) (T : Str) : V := if T = "ValueError" then .ty "ValueError" else .ref (He.ga K T)
def cvU (K : PySem.W.Frag) (T : Str) : Value := if T = "ValueError" then .type "ValueError" else .ref (He.ga K T)
theorem cv_rel {K : PySem.W.Frag} {T : Str} : RelV (cvN K T) (cvU K T) := by
  unfold cvN cvU
  split <;> rfl
theorem cv_one {K : PySem.W.Frag} {T : Str} {u : Value} (h : RelV (cvN K T) u) : u = cvU K T := by
  unfold cvN at h
  unfold cvU
  split <;> rename_i e
  · rw [if_pos e] at h; exact h
  · rw [if_neg e] at h; exact h
/-- what the written part says of the classes -/
structure ErC (K : PySem.W.Frag) (C : Addr) : Prop where
  ga : PySem.W.findIn K (.ref C) "__getattribute__" = some (some (.builtin "BaseException.__getattribute__"))
  gg : PySem.W.findIn K (.ref C) "__getattr__" = some none
  ex : PySem.W.subIn K (.ref C) (.type "BaseException") = some true
  hd : PySem.W.hasDictIn K C = true
  cl : (PySem.W.clsIn K C).isSome = true
  ca : PySem.W.findIn K (.ref C) "__class__" = some (some (.builtin "object.__class__"))
  cg : PySem.W.specialIn K (.builtin "object.__class__") "__get__" = some (some (.builtin "getset_descriptor.__get__"))
  ct : PySem.W.takesIn K (.builtin "object.__class__") = some true
  ob : PySem.W.mroIn K C (.type "object") = some true
structure ErF (K : PySem.W.Frag) : Prop where
  cls : ∀ nm ∈ errN, ErC K (He.ga K nm)
  kit : ∀ nm ∈ errN, ∀ T ∈ ("LineError" :: "ValueError" :: errN : List Str), PySem.W.kitOne K (.ref (He.ga K nm)) (cvU K T) = some (subX nm T)
  exm : ∀ nm ∈ errN, ∀ T ∈ ("LineError" :: errN : List Str), PySem.W.exmOne K (.ref (He.ga K nm)) (.ref (He.ga K T)) = some (subX nm T)
def erB (K : PySem.W.Frag) : Bool := errN.all fun nm =>
  let C := He.ga K nm
  decide (PySem.W.findIn K (.ref C) "__getattribute__" = some (some (.builtin "BaseException.__getattribute__"))) && (decide (PySem.W.findIn K (.ref C) "__getattr__" = some none) && (decide (PySem.W.subIn K (.ref C) (.type "BaseException") = some true) && (PySem.W.hasDictIn K C && ((PySem.W.clsIn K C).isSome &&
  (decide (PySem.W.findIn K (.ref C) "__class__" = some (some (.builtin "object.__class__"))) && (decide (PySem.W.specialIn K (.builtin "object.__class__") "__get__" = some (some (.builtin "getset_descriptor.__get__"))) && (decide (PySem.W.takesIn K (.builtin "object.__class__") = some true) && (decide (PySem.W.mroIn K C (.type "object") = some true) &&
  ((("LineError" :: "ValueError" :: errN : List Str).all fun T => decide (PySem.W.kitOne K (.ref C) (cvU K T) = some (subX nm T))) && (("LineError" :: errN : List Str).all fun T => decide (PySem.W.exmOne K (.ref C) (.ref (He.ga K T)) = some (subX nm T))))))))))))
theorem erB_ok {K : PySem.W.Frag} (h : erB K = true) : ErF K := by
  have one := fun nm hn => List.all_eq_true.mp h nm hn
  simp only [Bool.and_eq_true, decide_eq_true_eq, List.all_eq_true] at one
  refine ⟨fun nm hn => ?_, fun nm hn T hT => ?_, fun nm hn T hT => ?_⟩
  · obtain ⟨h1, h2, h3, h4, h5, h6, h7, h8, h9, _⟩ := one nm hn
    exact ⟨h1, h2, h3, h4, h5, h6, h7, h8, h9⟩
  · obtain ⟨_, _, _, _, _, _, _, _, _, h10, _⟩ := one nm hn
    exact h10 T hT
  · obtain ⟨_, _, _, _, _, _, _, _, _, _, h11⟩ := one nm hn
    exact h11 T hT
section
variable {X : Cx} {a D : Addr} {oe : Obj} {d : Option Addr} {pn : List (Addr × Obj)}
theorem inst_of {pins : List (Addr × Obj)} {σ : L2.St} {H : Hp} {s : Shared} (I : Inv (X.suite a ((a, oe) :: pn)) pins σ H s) (hz : Zc (.ref D) d oe) (hv : ∃ vs, oe.data = .fields vs) (hd : ∀ dd, d = some dd → ∃ fs, H dd = some (.xd fs)) :
    ∃ od, PySem.W.InstAt s.heap a oe D od := by
  obtain ⟨hget, _⟩ := I.pin (a, oe) (List.mem_append.mpr (.inl List.mem_cons_self))
  obtain ⟨vs, hv⟩ := hv
  obtain ⟨oc, od, oda, osl⟩ := oe
  obtain ⟨h1, h2⟩ := hz
  dsimp only at h1 h2 hv
  subst h1 h2 hv
  cases od with
  | none => exact ⟨none, hget, rfl, rfl, trivial⟩
  | some dd =>
    obtain ⟨fs, e⟩ := hd dd rfl
    obtain ⟨mA, hns, _⟩ := I.hok dd _ e
    obtain ⟨o, _, _, ho, _⟩ := hns
    exact ⟨some o, hget, rfl, rfl, ho⟩
/-- isinstance(e, c) -/
def rIs1 (K : PySem.W.Frag) (D a : Addr) (d : Option Addr) : List V → Hp → VK → Prop := fun xs H Q => ∃ (cc : V) (cv : Value) (b : Bool), xs = [.ref a, cc] ∧ (∀ u, RelV cc u → u = cv) ∧ PySem.W.kitOne K (.ref D) cv = some b ∧ (∀ dd, d = some dd → ∃ fs, H dd = some (.xd fs)) ∧ Q (.bl b) H
theorem call_is1 (T : ErC X.K D) (hz : Zc (.ref D) d oe) (hv : ∃ vs, oe.data = .fields vs) : CallR (X.suite a ((a, oe) :: pn)) (.builtin "isinstance") (rIs1 X.K D a d) := by
  intro pins s σ H xs us Q I r h
  obtain ⟨cc, cv, b, rfl, hcv, e, hd, q⟩ := h
  obtain ⟨od, J⟩ := inst_of I hz hv hd
  cases r with
  | cons rx rr => cases rr with
    | cons rt rr =>
      cases rr
      cases rx
      have ec := hcv _ rt
      subst ec
      exact PySem.W.kia_one (PySem.W.kitx_exc T.cl T.ga T.gg T.ex T.ca T.cg T.ct T.ob) I.kIn J e (fun z => nomatch z) fun tk => ⟨.bl b, H, I.kept (t' := tk) fun _ _ z => z, rfl, q⟩
/-- isinstance(e, (c, ..)) -/
def rIsT (K : PySem.W.Frag) (D a : Addr) (d : Option Addr) : List V → Hp → VK → Prop := fun xs H Q => ∃ (tp : Addr) (cs : List V) (cvs : List Value) (b : Bool), xs = [.ref a, .ref tp] ∧ H tp = some (.tup cs) ∧ (∀ us, Vals cs us → us = cvs) ∧ PySem.W.kitAny K (.ref D) cvs = some b ∧ (∀ dd, d = some dd → ∃ fs, H dd = some (.xd fs)) ∧ Q (.bl b) H
theorem call_isT (T : ErC X.K D) (hz : Zc (.ref D) d oe) (hv : ∃ vs, oe.data = .fields vs) : CallR (X.suite a ((a, oe) :: pn)) (.builtin "isinstance") (rIsT X.K D a d) := by
  intro pins s σ H xs us Q I r h
  obtain ⟨tp, cs, cvs, b, rfl, htp, hcv, e, hd, q⟩ := h
  obtain ⟨od, J⟩ := inst_of I hz hv hd
  obtain ⟨_, its, rits, ot, ho, hcls, n, hdat⟩ := I.hok tp _ htp
  cases r with
  | cons rx rr => cases rr with
    | cons rt rr =>
      cases rr
      cases rx
      cases rt
      have ec := hcv _ rits
      subst ec
      obtain ⟨oc, od2, oda, osl⟩ := ot
      dsimp only at hcls hdat
      subst hcls hdat
      exact PySem.W.kia_tup (PySem.W.kitx_exc T.cl T.ga T.gg T.ex T.ca T.cg T.ct T.ob) I.kIn J ho e (fun z => nomatch z) fun tk => ⟨.bl b, H, I.kept (t' := tk) fun _ _ z => z, rfl, q⟩
end
end DL
namespace DL
open PySem L2 PySem.Spec PyProof.Rows
def fldN : List Str := ["limit", "place", "error", "word"]
def erfB (K : PySem.W.Frag) : Bool := errN.all fun nm => fldN.all fun y => decide (PySem.W.findIn K (.ref (He.ga K nm)) y = some none)
theorem erfB_ok {K : PySem.W.Frag} (h : erfB K = true) : ∀ nm ∈ errN, ∀ y ∈ fldN, PySem.W.findIn K (.ref (He.ga K nm)) y = some none := fun nm hn y hy => of_decide_eq_true (List.all_eq_true.mp (List.all_eq_true.mp h nm hn) y hy)
/-- isinstance(e, T) of the error that slot i holds -/
def fIs1 (i : Nat) (T : Str) : SE := fun ρ Q => match lk ρ i with | .ex x => Q (.bool (subX x.nm T)) | _ => False
def fIsT (i : Nat) (Ts : List Str) : SE := fun ρ Q => match lk ρ i with | .ex x => Q (.bool (Ts.any fun T => subX x.nm T)) | _ => False
/-- its field -/
def fFld (i : Nat) (y : Str) : SE := fun ρ Q => match lk ρ i with | .ex x => (match x.fl with | some (z, dv) => z = y ∧ Q dv | none => False) | _ => False
/-- names of classes -/
structure PCd (X : Cx) (es : List Expr) (Ts : List Str) : Prop where
  pa : PA X es (fun _ H Q => Q (Ts.map (cvN X.K)) H)
  mem : ∀ T ∈ Ts, T ∈ ("LineError" :: "ValueError" :: errN : List Str)
theorem kit_names {K : PySem.W.Frag} (F : ErF K) {nm : Str} (hn : nm ∈ errN) : ∀ {Ts : List Str}, (∀ T ∈ Ts, T ∈ ("LineError" :: "ValueError" :: errN : List Str)) → PySem.W.kitAny K (.ref (He.ga K nm)) (Ts.map (cvU K)) = some (Ts.any fun T => subX nm T)
  | [], _ => rfl
  | T :: Ts, h => by
    show (match PySem.W.kitOne K (.ref (He.ga K nm)) (cvU K T) with | some true => some true | some false => PySem.W.kitAny K (.ref (He.ga K nm)) (Ts.map (cvU K)) | none => none) = _
    rw [F.kit nm hn T (h T List.mem_cons_self)]
    cases e : subX nm T with
    | true => simp [e]
    | false =>
      show PySem.W.kitAny K (.ref (He.ga K nm)) (Ts.map (cvU K)) = _
      rw [kit_names F hn (fun S hS => h S (List.mem_cons_of_mem _ hS))]
      simp [e]
theorem vals_names {K : PySem.W.Frag} : ∀ {Ts : List Str} {us : List Value}, Vals (Ts.map (cvN K)) us → us = Ts.map (cvU K)
  | [], _, .nil => rfl
  | T :: Ts, _, .cons h r => by
    rw [cv_one h, vals_names r]
    rfl
section
variable {X : Cx} {a : Addr} {oe : Obj} {d : Option Addr} {pn : List (Addr × Obj)} {c : C} {b0 h0 : Hp} {nm n : Str} {p p1 p2 pos : Pos}
theorem pc_nil {X : Cx} : PCd X [] [] := ⟨pa_weak pa_nil fun _ _ _ h => h, fun _ h => nomatch h⟩
theorem pc_cls {X : Cx} {T : Str} {es : List Expr} {Ts : List Str} (hm : X.mg T = some (.ref (He.ga X.K T))) (r : PCd X es Ts) (hg : Gl X T := by rfl) (hmem : T ∈ ("LineError" :: errN : List Str) := by decide) (hne : T ≠ "ValueError" := by decide) (hd : (T == ("__debug__" : Str)) = false := by decide)
    (hs : starEach (.Name T p :: es) X.env = (false, eval (.Name T p) X.env) :: starEach es X.env := by rfl) : PCd X (.Name T p :: es) (T :: Ts) :=
  ⟨pa_weak (pa_cons (pe_glob (v := cvN X.K T) hg hm (by unfold cvN; rw [if_neg hne]; rfl) hd) r.pa hs) fun σ H Q h => h, fun S hS => by
    rcases List.mem_cons.mp hS with e | e
    · rw [e]
      rcases List.mem_cons.mp hmem with e | e
      · rw [e]; exact List.mem_cons_self
      · exact List.mem_cons_of_mem _ (List.mem_cons_of_mem _ e)
    · exact r.mem S e⟩
theorem pc_ve {X : Cx} {es : List Expr} {Ts : List Str} (hm : X.mg "ValueError" = none) (r : PCd X es Ts) (hg : Gl X "ValueError" := by rfl)
    (hs : starEach (.Name "ValueError" p :: es) X.env = (false, eval (.Name "ValueError" p) X.env) :: starEach es X.env := by rfl) : PCd X (.Name "ValueError" p :: es) ("ValueError" :: Ts) :=
  ⟨pa_weak (pa_cons (pe_bltn (v := cvN X.K "ValueError") (u := .type "ValueError") hg hm (by decide +kernel) (by unfold cvN; rw [if_pos rfl]; rfl) (by decide) (by decide)) r.pa hs) fun σ H Q h => h, fun S hS => by
    rcases List.mem_cons.mp hS with e | e
    · rw [e]; decide
    · exact r.mem S e⟩
theorem ex_dict {B H : Hp} {x : Xn} (h : ExOk (c.at b0 h0 a d nm) B H x) : ∀ dd, d = some dd → ∃ fs, H dd = some (.xd fs) := fun dd e => by
  cases q : x.fl with
  | none =>
    have z : d = none := h.1.2 q
    rw [e] at z; cases z
  | some f =>
    obtain ⟨d2, v, h1, _, h3, _⟩ := h.2 f.1 f.2 q
    have z : d = some d2 := h1
    rw [e] at z
    cases z
    exact ⟨_, h3⟩
theorem v_is1 (i : Nat) {T : Str} (F : ErF X.K) (hnm : nm ∈ errN) (hz : Zc (.ref (He.ga X.K nm)) d oe) (hv : ∃ vs, oe.data = .fields vs) (hm : X.mg "isinstance" = none) (ht : PCd (X.suite a ((a, oe) :: pn)) [.Name T p2] [T]) (hN : X.N[i]? = some n := by rfl) (hvs : Vis X.env.scope n := by first | exact Or.inl rfl | exact Or.inr (Or.inl rfl) | exact Or.inr (Or.inr rfl))
    (hd : (n == ("__debug__" : Str)) = false := by decide) (hcd : (n == ("__classdict__" : Str)) = false := by decide) (hg : Gl X "isinstance" := by rfl)
    (hs : starEach [.Name n p1, .Name T p2] X.env = (false, eval (.Name n p1) X.env) :: starEach [.Name T p2] X.env := by rfl) (hpl : (backTo pos (starEach [.Name T p2] X.env)).any (·.1) = false := by rfl) :
    PV (X.suite a ((a, oe) :: pn)) (c.at b0 h0 a d nm) (.Call (.Name "isinstance" p) [.Name n p1, .Name T p2] [] pos) (fIs1 i T) := by
  refine ⟨fun ρ Q Q' k h => ?_, pe_weak (pe_callB (call_is1 (pn := pn) (F.cls nm hnm) hz hv) hg hm (by decide +kernel) (pa_cons (pe_var (i := i) (X := X.suite a ((a, oe) :: pn)) hN hvs hd hcd) ht.pa hs) (by decide) (by decide) hs hpl) fun σ H Q ⟨B, ρ, ok, h⟩ => ?_⟩
  · unfold fIs1 at h ⊢
    cases e : lk ρ i <;> rw [e] at h <;> first | exact h.elim | exact k _ h
  · unfold fIs1 at h
    cases e : lk ρ i with
    | ex x =>
      rw [e] at h
      obtain ⟨h1, h2⟩ := ok.sl i _ (lk_get e (fun z => nomatch z))
      have en : x.nm = nm := h2.1.1
      have h' : ∀ v B' H', Gr (c.at b0 h0 a d nm) B H B' H' → Rp B' v (.bool (subX x.nm T)) → Q v H' := h
      rw [en] at h'
      exact ⟨.ref a, h1, _, _, _, rfl, fun u hu => cv_one hu, F.kit nm hnm T (ht.mem T List.mem_cons_self), ex_dict h2, h' _ B H (Gr.refl ok.w) (.bl _)⟩
    | _ => rw [e] at h; exact h.elim
theorem v_isT (i : Nat) {Ts : List Str} {es : List Expr} {k1 : Nat} {p3 : Pos} (F : ErF X.K) (hnm : nm ∈ errN) (hz : Zc (.ref (He.ga X.K nm)) d oe) (hv : ∃ vs, oe.data = .fields vs) (hm : X.mg "isinstance" = none) (ht : PCd (X.suite a ((a, oe) :: pn)) es Ts) (hlen : Ts.length ≤ sizeLine := by decide) (hN : X.N[i]? = some n := by rfl) (hvs : Vis X.env.scope n := by first | exact Or.inl rfl | exact Or.inr (Or.inl rfl) | exact Or.inr (Or.inr rfl))
    (hd : (n == ("__debug__" : Str)) = false := by decide) (hcd : (n == ("__classdict__" : Str)) = false := by decide) (hg : Gl X "isinstance" := by rfl)
    (hs : starEach [.Name n p1, .Tuple es k1 p3] X.env = (false, eval (.Name n p1) X.env) :: starEach [.Tuple es k1 p3] X.env := by rfl) (hs2 : starEach [.Tuple es k1 p3] X.env = (false, eval (.Tuple es k1 p3) X.env) :: starEach [] X.env := by rfl)
    (hpl : (backTo pos (starEach [.Tuple es k1 p3] X.env)).any (·.1) = false := by rfl) :
    PV (X.suite a ((a, oe) :: pn)) (c.at b0 h0 a d nm) (.Call (.Name "isinstance" p) [.Name n p1, .Tuple es k1 p3] [] pos) (fIsT i Ts) := by
  refine ⟨fun ρ Q Q' k h => ?_, pe_weak (pe_callB (call_isT (pn := pn) (F.cls nm hnm) hz hv) hg hm (by decide +kernel) (pa_cons (pe_var (i := i) (X := X.suite a ((a, oe) :: pn)) hN hvs hd hcd) (pa_cons (pe_tup ht.pa) pa_nil hs2) hs) (by decide) (by decide) hs hpl) fun σ H Q ⟨B, ρ, ok, h⟩ => ?_⟩
  · unfold fIsT at h ⊢
    cases e : lk ρ i <;> rw [e] at h <;> first | exact h.elim | exact k _ h
  · unfold fIsT at h
    cases e : lk ρ i with
    | ex x =>
      rw [e] at h
      obtain ⟨h1, h2⟩ := ok.sl i _ (lk_get e (fun z => nomatch z))
      have en : x.nm = nm := h2.1.1
      have h' : ∀ v B' H', Gr (c.at b0 h0 a d nm) B H B' H' → Rp B' v (.bool (Ts.any fun T => subX x.nm T)) → Q v H' := h
      rw [en] at h'
      refine ⟨.ref a, h1, by rw [List.length_map]; exact hlen, fun q hq => ?_⟩
      have g := Gr.newO (o := .tup (Ts.map (cvN X.K))) ok.w hq
      exact ⟨q, _, _, _, rfl, upd_same, fun us hu => vals_names hu, kit_names F hnm ht.mem, ex_dict (h2.mono g), h' _ B _ g (.bl _)⟩
    | _ => rw [e] at h; exact h.elim
theorem v_fld (i : Nat) {y : Str} (F : ErF X.K) (hf : ∀ nm ∈ errN, ∀ y ∈ fldN, PySem.W.findIn X.K (.ref (He.ga X.K nm)) y = some none) (hnm : nm ∈ errN) (hz : Zc (.ref (He.ga X.K nm)) d oe) (hv : ∃ vs, oe.data = .fields vs) (hy : y ∈ fldN := by decide) (hN : X.N[i]? = some n := by rfl) (hvs : Vis X.env.scope n := by first | exact Or.inl rfl | exact Or.inr (Or.inl rfl) | exact Or.inr (Or.inr rfl))
    (hd : (n == ("__debug__" : Str)) = false := by decide) (hcd : (n == ("__classdict__" : Str)) = false := by decide) (hb : attributeBase (.Name n p1) y X.env (eval (.Name n p1) X.env) = eval (.Name n p1) X.env := by rfl) :
    PV (X.suite a ((a, oe) :: pn)) (c.at b0 h0 a d nm) (.Attribute (.Name n p1) y pos) (fFld i y) := by
  have T := F.cls nm hnm
  refine ⟨fun ρ Q Q' k h => ?_, pe_weak (pe_xf (pn := pn) ⟨T.ga, T.gg, T.ex, T.hd⟩ (hf nm hnm y hy) hz hv (pe_var (i := i) (X := X.suite a ((a, oe) :: pn)) hN hvs hd hcd) hb) fun σ H Q ⟨B, ρ, ok, h⟩ => ?_⟩
  · unfold fFld at h ⊢
    cases e : lk ρ i <;> rw [e] at h <;> first | exact h.elim | skip
    rename_i x
    obtain ⟨xn, xf⟩ := x
    cases xf with
    | none => exact h.elim
    | some f => exact ⟨h.1, k _ h.2⟩
  · unfold fFld at h
    cases e : lk ρ i with
    | ex x =>
      rw [e] at h
      obtain ⟨h1, h2⟩ := ok.sl i _ (lk_get e (fun z => nomatch z))
      obtain ⟨xn, xf⟩ := x
      cases xf with
      | none => exact h.elim
      | some f =>
        obtain ⟨dd, v, m1, m2, m3, m4⟩ := h2.2 f.1 f.2 rfl
        refine ⟨.ref a, h1, rfl, rfl, dd, _, v, m1, m3, ?_, h.2 v B H (Gr.refl ok.w) m4⟩
        rw [h.1]
        simp [List.lookup]
    | _ => rw [e] at h; exact h.elim
end
end DL
namespace DL
namespace EX
open PySem PySem.W PySem.Calls PyProof.Rows L2 PySem.Spec
/-! ### the head's facts of the errors -/
abbrev InV := Option (Str × Str × Arguments × FuncBody × Scope × Addr × List Str × Value × Addr)
def inObs (K : Frag) (x : Str) : InV := match K.lookup (He.ma K (He.ga K x) "__init__") with
  | some ⟨_, _, .func fd, _⟩ => some (fd.name, fd.qualname, fd.params, fd.body, fd.scope, fd.globals, fd.closure.map (·.1), fd.defaults, fd.builtins)
  | _ => none
structure ErD where
  nm : Str
  qual : Str
  params : Arguments
  body : List Stmt
  scope : Scope
def ErD.val (d : ErD) : InV := some ("__init__", d.qual, d.params, .stmts d.body, d.scope, mainGlobals, ["__class__"], .none, builtinsNs)
def codeB (K : Frag) (file q : Str) (v : Value) : Bool := match v with
  | .ref c => (match K.lookup c with
    | some ⟨_, _, .fields vs, _⟩ => (match (vs[2]? : Option Value) with
      | some (.str fl _) => file == fl
      | _ => false)
    | _ => false)
  | _ => false
def cellB (K : Frag) (C : Addr) (cl : List (Str × Addr)) : Bool := match cl with
  | [(_, cc)] => (match K.lookup cc with
    | some ⟨_, _, .cell (some (.ref D)), _⟩ => decide (D = C)
    | _ => false)
  | _ => false
def ErD.fnB (K : Frag) (file : Str) (d : ErD) : Bool := match K.lookup (He.ma K (He.ga K d.nm) "__init__") with
  | some ⟨_, _, .func fd, _⟩ => codeIn K fd.code d.qual && (codeB K file d.qual fd.code && cellB K (He.ga K d.nm) fd.closure)
  | _ => false
def ErD.ok (K : Frag) (file : Str) (d : ErD) : Bool :=
  let C := He.ga K d.nm
  excInitIn K C veL "ValueError.__new__" && (hasDictIn K C && (((clsIn K C).any fun cd => PySem.HandSPX.refsVE (cd.mro.drop 1)) && (He.eqO (findIn K (.ref C) "__setattr__") (some (some (.builtin "object.__setattr__"))) &&
  (decide (subIn K (.ref C) (.type "BaseException") = some true) && (decide (typeIn K (.ref C) = some (.type "type")) && (keepIn K (.ref C) && (He.eqO (findIn K (.ref C) "__init__") (some (some (.ref (He.ma K C "__init__")))) &&
  (decide (typeIn K (.ref (He.ma K C "__init__")) = some (.type "function")) && (d.fnB K file && (decide (mroIn K C (.ref C) = some true) && (He.eqO (nsIn K cStatics "thirdparty.any") (some none) &&
  (He.eqO (ks_superIn K C C "__init__") (some (some (.builtin "ValueError.__init__"))) && decide (subIn K (.ref C) (.type "ValueError") = some true)))))))))))))
theorem oex_cls {K : Frag} {C : Addr} (h : excInitIn K C veL "ValueError.__new__" = true) (hd : hasDictIn K C = true) (hr : ((clsIn K C).any fun cd => PySem.HandSPX.refsVE (cd.mro.drop 1)) = true) :
    ∃ nm q N bs bm sn sub ab col dd k0 k1 k2 k3 k5, K.lookup C = some (excClassObj nm q C N bs bm true sn sub ab col dd k0 k1 k2 k3 k5 "ValueError.__new__") ∧ PySem.HandSPX.refsVE bm = true := by
  unfold excInitIn at h
  split at h
  · rename_i dd cd sl ho
    have hcl : clsIn K C = some cd := by unfold clsIn; rw [ho]
    unfold hasDictIn at hd
    rw [hcl] at hd hr
    split at h
    · rename_i C' bm k0 k1 k2 k3 n k5 hm hs
      simp only [Bool.and_eq_true, beq_iff_eq, Bool.not_eq_true'] at h
      obtain ⟨⟨⟨e1, e2⟩, e3⟩, _⟩ := h
      have esl : sl = #[k0, k1, k2, k3, some (.builtin n), k5] := by
        have z := congrArg List.toArray hs
        simpa using z
      obtain ⟨a1, a2, a3, a4, a5, a6, a7, a8, a9, a10, a11⟩ := cd
      have hd' : a6 = true := by simpa using hd
      have hr' : PySem.HandSPX.refsVE (a3.drop 1) = true := by simpa using hr
      dsimp only at hm e3
      subst hd' esl e1 e2 hm e3
      exact ⟨_, _, _, _, bm, _, _, _, _, _, _, _, _, _, _, ho, hr'⟩
    · cases h
  · cases h
theorem ErD.iniF {P : Program} {K : Frag} {d : ErD} (e : inObs K d.nm = d.val) (ok : d.ok K P.main.file = true) (free : (P.main.scope.names.lookup ("super" : Str)).isSome = false) (kS : d.scope.names.lookup ("super" : Str) = some .globalImplicit)
    (kC : d.scope.names.lookup ("__class__" : Str) = some .free) (kI : d.scope.kind = .function) (co : d.scope.isCoroutine = false) (gen : d.scope.isGenerator = false) :
    ∃ f cda cc, IniF P K (He.ga K d.nm) f d.qual d.params d.body d.scope cda cc := by
  simp only [ErD.ok, Bool.and_eq_true, decide_eq_true_eq] at ok
  obtain ⟨h1, h2, h3, h4, h5, h6, h7, h8, h9, h10, h11, h12, h13, h14⟩ := ok
  have hc := oex_cls h1 h2 h3
  unfold ErD.fnB at h10
  unfold inObs at e
  cases q : K.lookup (He.ma K (He.ga K d.nm) "__init__") with
  | none => rw [q] at h10; cases h10
  | some o =>
    obtain ⟨oc, od, dt, osl⟩ := o
    rw [q] at h10 e
    cases dt with
    | func fd =>
      obtain ⟨n1, n2, n3, n4, n5, n6, n7, n8, n9, n10, n11, n12, n13, n14, n15⟩ := fd
      have e2 : (some (n1, n2, n3, n4, n5, n6, n7.map (·.1), n8, n15) : InV) = d.val := e
      simp only [ErD.val, Option.some.injEq, Prod.mk.injEq] at e2
      obtain ⟨rfl, rfl, rfl, rfl, rfl, rfl, e7, rfl, rfl⟩ := e2
      have h10' : (codeIn K n13 d.qual && (codeB K P.main.file d.qual n13 && cellB K (He.ga K d.nm) n7)) = true := h10
      simp only [Bool.and_eq_true] at h10'
      obtain ⟨hcode, hcb, hcell⟩ := h10'
      match n7, e7, hcell, q with
      | [(z, cc)], e7, hcell, q =>
        have ez : z = "__class__" := by simpa using e7
        subst ez
        match n13, hcode, hcb, q with
        | .ref cda, hcode, hcb, q =>
          refine ⟨_, cda, cc, ⟨hc, He.eqO_ok h4, h5, h6, h7⟩, ⟨oc, od, osl, n9, n10, n11, n12, n14, q⟩, hcode, ?_, ?_, ?_, h11, He.eqO_ok h12, He.eqO_ok h13, h14, h1, He.eqO_ok h8, h9, free, kS, kC, kI, co, gen⟩
          · unfold codeB at hcb
            dsimp only at hcb
            split at hcb
            · rename_i vs sl ho
              split at hcb
              · rename_i fl tf hv
                exact ⟨_, _, vs, _, fl, tf, ho, hv, hcb⟩
              · cases hcb
            · cases hcb
          · unfold cellB at hcell
            dsimp only at hcell
            split at hcell
            · rename_i D sl ho
              have ed : D = He.ga K d.nm := of_decide_eq_true hcell
              subst ed
              exact ⟨_, _, _, ho⟩
            · cases hcell
          · unfold hasDictIn at h2
            cases z : clsIn K (He.ga K d.nm) with
            | none => rw [z] at h2; cases h2
            | some cd => exact ⟨cd, rfl⟩
        | .none, _, hcb, _ => cases hcb
        | .ellipsis, _, hcb, _ => cases hcb
        | .notImplemented, _, hcb, _ => cases hcb
        | .bool _, _, hcb, _ => cases hcb
        | .int _ _, _, hcb, _ => cases hcb
        | .float _ _, _, hcb, _ => cases hcb
        | .str _ _, _, hcb, _ => cases hcb
        | .bytes _ _, _, hcb, _ => cases hcb
        | .type _, _, hcb, _ => cases hcb
        | .builtin _, _, hcb, _ => cases hcb
      | [], e7, hcell, _ => cases hcell
      | _ :: _ :: _, e7, _, _ => simp at e7
    | _ => cases h10
end EX
end DL
namespace DL
namespace EX
open PySem PySem.W PySem.Calls PyProof.Rows L2 PySem.Spec
section
variable {P : Program} {K : Frag} {d : ErD} {sf y : Str} {p0 p1 p2 p3 p4 py p6 p7 p8 p9 : Pos}
theorem ec1_of (hbody : d.body = [supS [.Name y py] p0 p1 p2 p3 p4, .Assign [.Attribute (.Name sf p6) y p7] (.Name y p8) p9]) (hZ : ∃ f cda cc, IniF P K (He.ga K d.nm) f d.qual d.params d.body d.scope cda cc)
    (first : ∃ ar, (d.params.posonlyargs ++ d.params.args).head? = some ar ∧ ar.arg = sf)
    (bind : ∀ (kV doc pm : Value) (an : Option Addr) (ct : Value) (cda cc : Addr) (a v : Value), bindArgs (ksFn "__init__" d.qual d.params d.body d.scope .none kV doc pm an (.ref cda) ct cc) ⟨[a, v], []⟩ = pure [(sf, a), (y, v)])
    (lsf : d.scope.names.lookup sf = some .local) (ly : d.scope.names.lookup y = some .local) (hcell : ∀ x ∈ d.scope.names, x.2 ≠ .cell) (dy : (y == ("__debug__" : Str)) = false) (ds : (sf == ("__debug__" : Str)) = false) (hno : findIn K (.ref (He.ga K d.nm)) y = some none)
    (vs : ∀ a b : Value, List.lookup sf [(y, b), (sf, a)] = some a) (vy : ∀ a b : Value, List.lookup y [(y, b), (sf, a)] = some b)
    (he : ∀ L f cda cc : Addr, ∃ pl : Sem Bool, eval (.Call (.Attribute (.Call (.Name "super" p0) [] [] p1) "__init__" p2) [.Name y py] [] p3) (ksEnv d.qual d.scope L f (.ref cda) cc) = (do
      let ov ← attributeBase (.Call (.Name "super" p0) [] [] p1) "__init__" (ksEnv d.qual d.scope L f (.ref cda) cc) (eval (.Call (.Name "super" p0) [] [] p1) (ksEnv d.qual d.scope L f (.ref cda) cc))
      standAt p2.atName
      let (fx, fst) ← holding [ov] (getMethod ov "__init__" pl)
      callWith p3 fx fst (backTo p3 (starEach [.Name y py] (ksEnv d.qual d.scope L f (.ref cda) cc))) [])) : Ec1 P K (He.ga K d.nm) y := by
  obtain ⟨f, cda, cc, Z⟩ := hZ
  refine ⟨Z.cls, fun w A mg mb hp h2 e t0 g dr t os R v J hroom k f' hf => ?_, ⟨f, Z.find, Z.isf⟩⟩
  rw [Z.find] at hf
  cases hf
  have Z' := Z
  rw [hbody] at Z'
  refine ini_one Z' J hroom ⟨first, lsf, fun kV doc pm an ct => ?_, vs _ _, hcell, fun x hx => ?_⟩ (fun L => he L f cda cc) ly (vy _ _) dy ds hno k
  · rw [← hbody]
    exact bind kV doc pm an ct cda cc _ _
  · rcases List.mem_cons.mp hx with e1 | hx
    · rw [e1]; exact lsf
    · rw [List.mem_singleton.mp hx]; exact ly
theorem ec0_of (hbody : d.body = [supS [] p0 p1 p2 p3 p4]) (hZ : ∃ f cda cc, IniF P K (He.ga K d.nm) f d.qual d.params d.body d.scope cda cc)
    (first : ∃ ar, (d.params.posonlyargs ++ d.params.args).head? = some ar ∧ ar.arg = sf)
    (bind : ∀ (kV doc pm : Value) (an : Option Addr) (ct : Value) (cda cc : Addr) (a : Value), bindArgs (ksFn "__init__" d.qual d.params d.body d.scope .none kV doc pm an (.ref cda) ct cc) ⟨[a], []⟩ = pure [(sf, a)])
    (lsf : d.scope.names.lookup sf = some .local) (hcell : ∀ x ∈ d.scope.names, x.2 ≠ .cell)
    (vs : ∀ a : Value, List.lookup sf [(sf, a)] = some a)
    (he : ∀ L f cda cc : Addr, ∃ pl : Sem Bool, eval (.Call (.Attribute (.Call (.Name "super" p0) [] [] p1) "__init__" p2) [] [] p3) (ksEnv d.qual d.scope L f (.ref cda) cc) = (do
      let ov ← attributeBase (.Call (.Name "super" p0) [] [] p1) "__init__" (ksEnv d.qual d.scope L f (.ref cda) cc) (eval (.Call (.Name "super" p0) [] [] p1) (ksEnv d.qual d.scope L f (.ref cda) cc))
      standAt p2.atName
      let (fx, fst) ← holding [ov] (getMethod ov "__init__" pl)
      callWith p3 fx fst (backTo p3 (starEach [] (ksEnv d.qual d.scope L f (.ref cda) cc))) [])) : Ec0 P K (He.ga K d.nm) := by
  obtain ⟨f, cda, cc, Z⟩ := hZ
  refine ⟨Z.cls, fun w A mg mb hp h2 e t0 g dr t os R J hroom k f' hf => ?_, ⟨f, Z.find, Z.isf⟩⟩
  rw [Z.find] at hf
  cases hf
  have Z' := Z
  rw [hbody] at Z'
  refine ini_zero Z' J hroom ⟨first, lsf, fun kV doc pm an ct => ?_, vs _, hcell, fun x hx => ?_⟩ (fun L => he L f cda cc) k
  · rw [← hbody]
    exact bind kV doc pm an ct cda cc _
  · rw [List.mem_singleton.mp hx]; exact lsf
end
/-! ### the Hook: the defs' facts, the errors' facts -/
abbrev AlX : Type := He.AlD × (Bool × List InV)
def obsX (file : Str) (fa : List He.Fa) (fn : List He.DefD) (er : List ErD) (K : Frag) : AlX := (He.obsD fa fn K, (er.all (fun d => d.ok K file) && (erB K && erfB K), er.map fun d => inObs K d.nm))
def valX (fn : List He.DefD) (er : List ErD) : AlX := (He.valD fn, (true, er.map ErD.val))
def SaysX (file : Str) (fa : List He.Fa) (fn : List He.DefD) (er : List ErD) (K : Frag) : Prop := obsX file fa fn er K = valX fn er
def frX (n : Nat) (g : Addr → Option Obj) : Frag := He.frG g (cStatics :: He.asD g n)
def obsXG (n : Nat) (file : Str) (fa : List He.Fa) (fn : List He.DefD) (er : List ErD) (g : Addr → Option Obj) : AlX := obsX file fa fn er (frX n g)
def hookX (n : Nat) (file : Str) (fa : List He.Fa) (fn : List He.DefD) (er : List ErD) : PySem.W.Hook where
  α := AlX
  obs := fun s => obsXG n file fa fn er s.heap.get?
  val := fun _ => valX fn er
  says := fun _ h => ∃ K : Frag, K.In h ∧ SaysX file fa fn er K
  of := fun _ _ e => ⟨_, He.frG_in, e⟩
  keeps := fun _ _ _ ⟨K, hK, c⟩ k => ⟨K, PySem.W.Frag.In.keeps hK k, c⟩
theorem obsXG_eq {n : Nat} {file : Str} {fa : List He.Fa} {fn : List He.DefD} {er : List ErD} {g : Addr → Option Obj} {s : Shared} (h : ∀ a, g a = s.heap.get? a) : obsXG n file fa fn er g = (hookX n file fa fn er).obs s := by
  rw [show g = s.heap.get? from funext h]
  rfl
section
variable {file : Str} {fa : List He.Fa} {fn : List He.DefD} {er : List ErD} {K : Frag}
theorem SaysX.d (c : SaysX file fa fn er K) : He.SaysD fa fn K := congrArg (fun z : AlX => z.1) c
theorem SaysX.bools (c : SaysX file fa fn er K) : (er.all (fun d => d.ok K file) && (erB K && erfB K)) = true := congrArg (fun z : AlX => z.2.1) c
theorem SaysX.erF (c : SaysX file fa fn er K) : ErF K := by
  have h := c.bools
  simp only [Bool.and_eq_true] at h
  exact erB_ok h.2.1
theorem SaysX.fld (c : SaysX file fa fn er K) : ∀ nm ∈ errN, ∀ y ∈ fldN, findIn K (.ref (He.ga K nm)) y = some none := by
  have h := c.bools
  simp only [Bool.and_eq_true] at h
  exact erfB_ok h.2.2
theorem SaysX.err (c : SaysX file fa fn er K) (i : Nat) {d : ErD} (h : er[i]? = some d := by rfl) : inObs K d.nm = d.val ∧ d.ok K file = true := by
  have b := c.bools
  simp only [Bool.and_eq_true] at b
  refine ⟨?_, List.all_eq_true.mp b.1 d (List.mem_of_getElem? h)⟩
  have e : er.map (fun d => inObs K d.nm) = er.map ErD.val := congrArg (fun z : AlX => z.2.2) c
  have e2 : (er.map fun d => inObs K d.nm)[i]? = (er.map ErD.val)[i]? := by rw [e]
  rw [List.getElem?_map, List.getElem?_map, h] at e2
  exact Option.some.inj e2
end
/-- a class's __init__ -/
def clsIni : Stmt → Stmt
  | .ClassDef (body := b) .. => b.getD 0 (.Pass ⟨0, 0, 0, 0⟩)
  | s => s
end EX
end DL
namespace DL
open PySem L2 PySem.Spec PyProof.Rows
def err1 : List (Str × Str) := [("TooMany", "limit"), ("BadText", "place"), ("BadChain", "error"), ("BadLog", "place"), ("Refused", "word")]
def err0 : List Str := ["Unfit", "NothingToUndo"]
/-- what is known of the errors -/
structure ErH (P : Program) (K : PySem.W.Frag) (mg : Str → Option Value) : Prop where
  er : ErF K
  fl : ∀ nm ∈ errN, ∀ y ∈ fldN, PySem.W.findIn K (.ref (He.ga K nm)) y = some none
  sup : mg "super" = none
  z : ∀ T ∈ ("LineError" :: errN : List Str), mg T = some (.ref (He.ga K T))
  mk1 : ∀ p ∈ err1, EX.Ec1 P K (He.ga K p.1) p.2
  mk0 : ∀ nm ∈ err0, EX.Ec0 P K (He.ga K nm)
/-- n arguments; what they must be; what comes back; what is raised -/
def spX (n : Nat) (pre : List Sl → Prop) (R : List Sl → D → Prop) (E : List Sl → Xn → Prop) : SpecE := fun ss Q Ex => ss.length = n ∧ pre ss ∧ (∀ d, R ss d → Q d) ∧ ∀ x, E ss x → Ex x
theorem spX_mono {n : Nat} {pre : List Sl → Prop} {R : List Sl → D → Prop} {E : List Sl → Xn → Prop} : ∀ ss (Q Q' : D → Prop) (F F' : Xn → Prop), (∀ d, Q d → Q' d) → (∀ x, F x → F' x) → spX n pre R E ss Q F → spX n pre R E ss Q' F' :=
  fun ss Q Q' F F' k l h => ⟨h.1, h.2.1, fun d r => k _ (h.2.2.1 d r), fun x e => l _ (h.2.2.2 x e)⟩
theorem spX_len {n : Nat} {pre : List Sl → Prop} {R : List Sl → D → Prop} {E : List Sl → Xn → Prop} : ∀ ss (Q : D → Prop) (F : Xn → Prop), spX n pre R E ss Q F → ss.length = n := fun ss Q F h => h.1
theorem takes_no {X : Cx} {c : C} {K : PySem.W.Frag} : Takes X (toW c K fun _ _ => False) := fun u s' ⟨_, _, _, _, _, _, _, _, _, _, _, _, _, _, _, _, _, _, _, _, _, z⟩ => z.elim
abbrev XR (P : Program) (w : World) (K : PySem.W.Frag) (mg : Str → Option Value) (base : Heap) (N : List Str) (q : Str) (st : Stmt) (f : Addr) (cdv : Value) (A : Around) (outer : List PySem.Env) (s : Shared) (H : Hp) (E : XK) : Cx :=
  cxOf (L2.CX P w) P w K mg base N q (defScope st) f cdv A outer s H E
namespace Go
variable {ρ : Env}
theorem callE_go {W : WE} {S : SpecE} {fa : SA} {J : D → Prop} (h : fa ρ fun ss => S ss J fun x => W x ρ) : fCallE W S fa ρ J := h
theorem callEK_go {W : WE} {S : SpecE} {is : List Nat} {fa : SA} {J : D → Prop} (h : fa ρ fun ss => S (perm is ss) J fun x => W x ρ) : fCallEK W S is fa ρ J := h
theorem raise0_go {W : WE} {nm : Str} {E : En} (h : W ⟨nm, none⟩ ρ) : fRaise0 W nm E ρ := h
theorem raise1_go {W : WE} {nm y : Str} {fe : SE} {E : En} (h : fe ρ fun d => W ⟨nm, some (y, d)⟩ ρ) : fRaise1 W nm y fe E ρ := h
theorem is1_go {i : Nat} {T : Str} {x : Xn} {J : D → Prop} (e : lk ρ i = .ex x) (h : J (.bool (subX x.nm T))) : fIs1 i T ρ J := by unfold fIs1; rw [e]; exact h
theorem isT_go {i : Nat} {Ts : List Str} {x : Xn} {J : D → Prop} (e : lk ρ i = .ex x) (h : J (.bool (Ts.any fun T => subX x.nm T))) : fIsT i Ts ρ J := by unfold fIsT; rw [e]; exact h
theorem fld_go {i : Nat} {y : Str} {nm : Str} {dv : D} {J : D → Prop} (e : lk ρ i = .ex ⟨nm, some (y, dv)⟩) (h : J dv) : fFld i y ρ J := by unfold fFld; rw [e]; exact ⟨rfl, h⟩
/-- a try: W is what its clause makes of an error -/
theorem try_go {i : Nat} {T : Str} {fb : WE → SS} {fs : SS} {Wo : WE} {E : En} (no : noOw ρ = true) (h : fb (fun x ρ1 => fHand i T fs Wo E x ρ1) E ρ) : fTry i T fb fs Wo E ρ := ⟨no, _, _, En.le.refl E, fun _ _ h => h, h⟩
theorem hand_yes {i : Nat} {T : Str} {fs : SS} {Wo : WE} {E : En} {x : Xn} (e : subX x.nm T = true) (no : noEx ρ = true) (h : fs (suiteE i E) (ρ.set i (.ex x))) : fHand i T fs Wo E x ρ := by unfold fHand; rw [if_pos e]; exact ⟨no, h⟩
end Go
end DL
namespace DL
open PySem L2 PySem.Spec PyProof.Rows
section
variable {X : Cx} {c : C}
/-- {k: a, k2: b} -/
def fDict2 (k k2 : Key) (fa fb : SE) : SE := fun ρ Q => fa ρ fun d => fb ρ fun e => Q (.dict [(kD k, d), (kD k2, e)])
theorem v_dict2 {ke ke2 e e2 : Expr} {k k2 : Key} {fa fb : SE} {pos : Pos} (hk : PE X ke (fun _ H Q => Q (kV k) H)) (hk2 : PE X ke2 (fun _ H Q => Q (kV k2) H)) (he : PV X c e fa) (he2 : PV X c e2 fb)
    (hm : ∀ v v2 : V, mergeK [] [(k, v), (k2, v2)] = [(k, v), (k2, v2)] := by intros; rfl) : PV X c (.Dict [some ke, some ke2] [e, e2] pos) (fDict2 k k2 fa fb) := by
  refine ⟨fun ρ Q Q' j h => he.mono _ _ _ (fun d hd => he2.mono _ _ _ (fun d2 hd2 => j _ hd2) hd) h, pe_weak (pe_disp (pps_cons hk he.pe (pps_cons hk2 he2.pe pps_nil)) rfl rfl (by simp) (by simp)) fun σ H Q ⟨B, ρ, ok, h⟩ p hp => ?_⟩
  have g1 := Gr.newO (o := .dK []) ok.w hp
  have nb : ¬ c.isBag p := fun z => ok.w.there z hp
  have ok1 := ok.mono g1
  refine ⟨B, ρ, ok1, he.mono _ _ _ (fun d hd v B2 H2 g2 r2 => ⟨B2, ρ, ok1.mono g2, he2.mono _ _ _ (fun d2 hd2 v2 B3 H3 g3 r3 => ?_) hd⟩) h⟩
  have g := (g1.trans ok.w g2).trans ok.w g3
  have here : H3 p = some (.dK []) := g3.h p _ nb (g2.h p _ nb upd_same)
  have b3 : B3 p = none := by
    rw [(g2.trans ok1.w g3).n p (by rw [upd_same]; exact fun z => nomatch z)]
    exact Evl.fresh_back ok.w.sub hp
  have G := Gr.redo (o := .dK [(k, v), (k2, v2)]) ok.w g hp b3
  refine ⟨here, [(k, v), (k2, v2)], rfl, by simp, ?_⟩
  rw [hm]
  have x := Evl.Ex.new (o := .dK [(k, v), (k2, v2)]) b3
  exact hd2 _ _ _ G (.dct (kvs := [(k, v), (k2, v2)]) (ds := [d, d2]) upd_same (.cons (rp_mono x (rp_mono g3.b r2)) (.cons (rp_mono x r3) .nil)))
/-- isinstance(e, (S, T)) -/
def fIsI2 (n m : String) (fa : SE) : SE := fun ρ Q => fa ρ fun d => Q (.bool (isB (tyN d) n || isB (tyN d) m))
theorem v_isi2 {e : Expr} {fa : SE} {S T : Str} {n m : String} {p p1 p2 p3 pos : Pos} {k : Nat} (hk : ∀ d : D, kitB (tyN d) n = some (isB (tyN d) n)) (hk2 : ∀ d : D, kitB (tyN d) m = some (isB (tyN d) m)) (hm : X.mg "isinstance" = none) (hmS : X.mg S = none) (hmT : X.mg T = none) (ha : PB X c e fa)
    (hvS : bootBuiltins S = some (.type n) := by decide +kernel) (hvT : bootBuiltins T = some (.type m) := by decide +kernel)
    (hg : Gl X "isinstance" := by rfl) (hgS : Gl X S := by rfl) (hgT : Gl X T := by rfl) (hnS : S ≠ "__name__" := by decide) (hnT : T ≠ "__name__" := by decide) (hdS : (S == ("__debug__" : Str)) = false := by decide) (hdT : (T == ("__debug__" : Str)) = false := by decide)
    (hs : starEach [e, .Tuple [.Name S p1, .Name T p2] k p3] X.env = (false, eval e X.env) :: starEach [.Tuple [.Name S p1, .Name T p2] k p3] X.env := by rfl)
    (hs2 : starEach [.Tuple [.Name S p1, .Name T p2] k p3] X.env = (false, eval (.Tuple [.Name S p1, .Name T p2] k p3) X.env) :: starEach [] X.env := by rfl)
    (hs3 : starEach [.Name S p1, .Name T p2] X.env = (false, eval (.Name S p1) X.env) :: starEach [.Name T p2] X.env := by rfl) (hs4 : starEach [.Name T p2] X.env = (false, eval (.Name T p2) X.env) :: starEach [] X.env := by rfl)
    (hpl : (backTo pos (starEach [.Tuple [.Name S p1, .Name T p2] k p3] X.env)).any (·.1) = false := by rfl) :
    PV X c (.Call (.Name "isinstance" p) [e, .Tuple [.Name S p1, .Name T p2] k p3] [] pos) (fIsI2 n m fa) := by
  have pn := pa_cons (pe_bltn (v := .ty n) (pos := p1) hgS hmS hvS rfl hnS hdS) (pa_cons (pe_bltn (v := .ty m) (pos := p2) hgT hmT hvT rfl hnT hdT) pa_nil hs4) hs3
  refine ⟨fun ρ Q Q' k h => ha.mono _ _ _ (fun d hd => k _ hd) h, pe_weak (pe_callB call_isiT hg hm (by decide +kernel) (pa_cons ha.pe (pa_cons (pe_tup pn) pa_nil hs2) hs) (by decide) (by decide) hs hpl) fun σ H Q ⟨B, ρ, ok, h⟩ => ?_⟩
  refine ⟨B, ρ, ok, ha.mono _ _ _ (fun d hd v B1 H1 g1 r1 => ⟨by show 2 ≤ sizeLine; rw [sizeLine_eq]; omega, fun q hq => ?_⟩) h⟩
  have g2 := Gr.newO (o := .tup [.ty n, .ty m]) g1.w hq
  refine ⟨v, q, [.ty n, .ty m], .type (tyN d), [.type n, .type m], _, rfl, upd_same, .cons (.ty n) (.cons (.ty m) .nil), bw_ty g2.w (r1.mono g2), kitAny_cons (kit_ty (hk d)) (fun hb => kitAny_cons (r := isB (tyN d) n || isB (tyN d) m) (kit_ty (hk2 d)) (fun hb2 => ?_) fun hb2 => ?_) (fun hb => ?_), hd _ B1 _ (g1.trans ok.w g2) (.bl _)⟩
  · rw [hb, hb2]; rfl
  · rw [hb2]; simp
  · rw [hb]; rfl
end
/-! ### l.extend(a tuple) -/
section
open AutoSeq1 (wpAny_loadPart' idx_int)
theorem meets_ext_tup (l : Addr) (its : Array Value) (n : Nat) (b : Addr) (zs : Array Value) (m : Nat) (od : Option Addr) (os2 : Array (Option Value)) (long : ¬ (!its.isEmpty && Builtin.List.listTooLong (its.size + zs.size)) = true) (h1 : its.size ≤ sizeLine) (h2 : its.size + zs.size ≤ sizeLine + 1) :
    Meets (Builtin.«list.extend» ⟨[.ref l, .ref b], []⟩) (fun _ R s => s.heap.get? l = some { cls := .type "list", dict := none, data := .seq its n, slots := #[] } ∧ s.heap.get? b = some { cls := .type "tuple", dict := od, data := .seq zs m, slots := os2 } ∧
      R (.ok (.ret Value.none)) { s with heap := s.heap.update l (Obj.mapSeq fun x => x ++ zs), toks := s.toks }) :=
  .of_wp fun prog w A R s h => by
    obtain ⟨hp, g, d, tk, os⟩ := s
    obtain ⟨hl, hb, h⟩ := h
    have f1 := idx_int
    have f2 := AutoSeq1.sub_tuple_tuple
    have f3 := AutoSeq1.sub_list_list
    have f4 := AutoSeq1.sub_tuple_list
    have f5 := AutoSeq1.sub_list_tuple
    have hz' : (its ++ zs).size ≤ sizeLine + 1 := by rw [Array.size_append]; exact h2
    wp_walk using (wpAny_updateSeq hl rfl (hz := h1) (_hz' := hz')), wpAny_loadPart' hl, wpAny_loadPart' hb
    exact ⟨_, rfl, h⟩
end
section
variable {X : Cx} {c : C}
def rExtT : V → List V → Hp → VK → Prop := fun x vs H Q => ∃ l b xs zs, x = .ref l ∧ vs = [.ref b] ∧ H l = some (.lst xs) ∧ H b = some (.tup zs) ∧ xs.length + zs.length ≤ sizeLine ∧ Q .non (upd H l (.lst (xs ++ zs)))
theorem mt_extT : MtM X "list.extend" rExtT := by
  intro pins s σ H x vs v us Q I rx rv h
  obtain ⟨l, b, xs, zs, rfl, rfl, hH, hB, hz, q⟩ := h
  cases rx
  obtain ⟨u, rfl, ru⟩ := rv.one
  cases ru
  obtain ⟨z, its, n, r, hl, e⟩ := I.lstM hH
  obtain ⟨_, its2, r2, o2, e2, hc2, m2, hd2⟩ := I.hok b _ hB
  obtain ⟨oc, od, oda, osl⟩ := o2
  dsimp only at hc2 hd2
  subst hc2 hd2
  have hl2 := r2.length
  have hsz : its.toArray.size + its2.toArray.size ≤ sizeLine := by rw [List.size_toArray, List.size_toArray, ← hl, ← hl2]; exact hz
  have hlong : ¬ (!its.toArray.isEmpty && Builtin.List.listTooLong (its.toArray.size + its2.toArray.size)) = true := by
    rw [notLongL hsz, Bool.and_false]
    exact Bool.false_ne_true
  refine call_meets PySem.F.slot_list_extend ⟨_, e, rfl⟩ PySem.F.entry_list_extend (PySem.F.args_list_extend_2 _ _) (meets_ext_tup l its.toArray n b its2.toArray m2 od osl hlong (by omega) (by omega)) ⟨e, e2, ?_⟩
  refine ⟨.non, _, I.lset (its' := its ++ its2) hH e (by simp) (r.append r2) ?_, rfl, q⟩
  rw [List.length_append]
  exact hz
def fExtT (i : Nat) (fa : SE) : SS := fun D ρ => match lk ρ i with | .ow ds => fa ρ fun d => (match d with | .tuple es => ds.length + es.length ≤ most ∧ D.nx (ρ.set i (.ow (ds ++ es))) | _ => False) | _ => False
theorem s_extT (i : Nat) {x : Str} {e : Expr} {fa : SE} {p1 p2 pos pos' : Pos} (ha : PB X c e fa) (hN : X.N[i]? = some x := by rfl) (hv : Vis X.env.scope x := by first | exact Or.inl rfl | exact Or.inr (Or.inl rfl) | exact Or.inr (Or.inr rfl))
    (hd : (x == ("__debug__" : Str)) = false := by decide) (hcd : (x == ("__classdict__" : Str)) = false := by decide)
    (hbase : attributeBase (.Name x p1) "extend" X.env (eval (.Name x p1) X.env) = eval (.Name x p1) X.env := by rfl)
    (hfew : ((backTo pos (starEach [e] X.env)).all (fun x => !x.1) && (backToKw pos (keywordEach [] X.env)).all (fun x => x.1.isSome) && decide ([e].length + ([] : List Keyword).length + (if ([] : List Keyword).isEmpty then 0 else 1) < 30)) = true := by rfl)
    (hline : (p2.endLine == pos.line) = true := by rfl) (hst : starEach [e] X.env = (false, eval e X.env) :: starEach [] X.env := by rfl) (hplain : (backTo pos (starEach [] X.env)).any (·.1) = false := by rfl)
    (hs : swapsWith (.Call (.Attribute (.Name x p1) "extend" p2) [e] [] pos) none pos'.line X.env = pure false := by rfl) :
    PSd X c (.Expr (.Call (.Attribute (.Name x p1) "extend" p2) [e] [] pos) pos') (fExtT i fa) := by
  have hpe : PE X (.Call (.Attribute (.Name x p1) "extend" p2) [e] [] pos) (tBM X.K "list" rExtT (tVar i) (tCons (toB c fa) tNil)) := pe_bm PySem.F.plainAttrs_list PySem.F.slot_list_extend PySem.F.type_list_extend mt_extT (pe_var hN hv hd hcd) (pa_cons ha.pe pa_nil hst) hbase hfew hline hst hplain
  refine ⟨fun D D' ρ l q => ?_, ps_weak (ps_expr hpe hs) fun D σ H ⟨B, ρ, ok, q⟩ => ?_⟩
  · unfold fExtT at q ⊢
    split at q <;> first | exact q.elim | skip
    refine ha.mono _ _ _ (fun d hd => ?_) q
    cases d <;> first | exact hd.elim | exact ⟨hd.1, l.nx _ hd.2⟩
  · unfold fExtT at q
    split at q <;> first | exact q.elim | skip
    rename_i ds e1
    obtain ⟨p, vs, k1, k2, k3⟩ := ok.own e1
    refine ⟨_, k1, .inl ⟨rfl, vs, SqL.of k2⟩, B, ρ, ok, ha.mono _ _ _ (fun d hd v B1 H1 g1 r1 => ?_) q⟩
    cases d <;> first | exact hd.elim | skip
    obtain ⟨p', vs1, m1, m2, m3⟩ := (ok.mono g1).own e1
    rw [k1] at m1
    cases m1
    obtain ⟨b, zs, rfl, h1, h2⟩ := r1.tup g1.w
    refine ⟨p, b, vs1, zs, rfl, rfl, m2, h1, ?_, ?_⟩
    · rw [rpa_len m3, rpa_len h2]; exact most_le hd.1
    · exact hd.2 σ B1 _ ((ok.mono g1).chg e1 k1 (rpa_app m3 h2)) g1.b
end
namespace Go
variable {ρ : Env}
theorem isI2_go {n m : String} {fa : SE} {J : D → Prop} (h : fa ρ fun d => J (.bool (isB (tyN d) n || isB (tyN d) m))) : fIsI2 n m fa ρ J := h
theorem dict2_go {k k2 : Key} {fa fb : SE} {J : D → Prop} (h : fa ρ fun d => fb ρ fun e => J (.dict [(kD k, d), (kD k2, e)])) : fDict2 k k2 fa fb ρ J := h
theorem extT_go {i : Nat} {fa : SE} {ds : List D} {E : En} (e : lk ρ i = .ow ds) (h : fa ρ fun d => (match d with | .tuple es => ds.length + es.length ≤ most ∧ E.nx (ρ.set i (.ow (ds ++ es))) | _ => False)) : fExtT i fa E ρ := by unfold fExtT; rw [e]; exact h
end Go
end DL
/-! powers of a wide base -/
namespace DL
open PySem L2 PySem.Spec PyProof.Rows
section
variable {X : Cx} {c : C}
def CPowW (i j : Int) : Prop := 0 ≤ j ∧ j ≤ 1000 ∧ i.natAbs < 2 ^ 1000
theorem powW_ok {i j : Int} (h : CPowW i j) : (Builtin.Int.intBits i : Int) * j ≤ 2 ^ 27 := by
  have hb : Builtin.Int.intBits i ≤ 1000 := intBits_le h.2.2
  have h1 : (Builtin.Int.intBits i : Int) * j ≤ 1000 * j := Int.mul_le_mul_of_nonneg_right (by omega) h.1
  have := h.2.1
  omega
theorem op_powW : OpR X (binaryOp .Pow) (rI CPowW fun i j => .int (i ^ j.toNat)) := opI fun _ _ _ _ _ _ _ hc q => pow_int hc.1 (powW_ok hc) q
def gPowW : G2 | .int i, .int j, Q => CPowW i j ∧ Q (.int (i ^ j.toNat)) | _, _, _ => False
theorem m_PowW : MonoG gPowW := fun d e Q Q' k h => by cases d <;> cases e <;> first | exact ⟨h.1, k _ h.2⟩ | exact h.elim
theorem o_powW : OpD X c (binaryOp .Pow) gPowW := opd_int op_powW (fun d e Q h => by cases d <;> cases e <;> first | exact ⟨_, _, rfl, rfl, h.1, h.2⟩ | exact h.elim) m_PowW
end
namespace Go
theorem powW_go {i j : Int} {Q : D → Prop} (h : CPowW i j) (k : Q (.int (i ^ j.toNat))) : gPowW (.int i) (.int j) Q := ⟨h, k⟩
end Go
end DL
--import DLSurd
--import DLExL
--import DLTwo
--import DLPow
namespace DL
namespace T
open PySem L2 PySem.Spec PyProof.Rows
/-! ### words, changes -/
abbrev Wo := List Int
def Bw (w : Wo) : Prop := ∀ x ∈ w, x = 0 ∨ x = 1
def wdD (w : Wo) : DL.D := .tuple (w.map PyData.int)
abbrev Ch := Wo × Wo
def chD (c : Ch) : DL.D := .tuple [wdD c.1, wdD c.2]
def im (c : Ch) (l : Int) : Wo := if l = 1 then c.2 else c.1
def put (c : Ch) (w : Wo) : Wo := w.flatMap (im c)
def siz (c : Ch) (w : Wo) : Int := w.sum * (c.2.length : Int) + ((w.length : Int) - w.sum) * (c.1.length : Int)
/-- words, changes of at most 2000 letters -/
structure Wv (w : Wo) : Prop where
  b : Bw w
  l : w.length ≤ 2000
structure Cv (c : Ch) : Prop where
  a : Wv c.1
  b : Wv c.2
abbrev T4 := Int × Int × Int × Int
def t4D (t : T4) : DL.D := .tuple [.tuple [.int t.1, .int t.2.1], .tuple [.int t.2.2.1, .int t.2.2.2]]
def tb (c : Ch) : T4 := ((c.1.length : Int) - c.1.sum, c.1.sum, (c.2.length : Int) - c.2.sum, c.2.sum)
def t4M (t u : T4) : T4 := (t.1 * u.1 + t.2.1 * u.2.2.1, t.1 * u.2.1 + t.2.1 * u.2.2.2, t.2.2.1 * u.1 + t.2.2.2 * u.2.2.1, t.2.2.1 * u.2.1 + t.2.2.2 * u.2.2.2)
def Tv (t : T4) : Prop := Sm 40 t.1 ∧ Sm 40 t.2.1 ∧ Sm 40 t.2.2.1 ∧ Sm 40 t.2.2.2
def tmX : Xn := ⟨"TooMany", some ("limit", .int 2000)⟩
/-! ### values of any kind -/
def intB : DL.D → Bool | .int _ => true | _ => false
def whB (lo hi : Int) : DL.D → Bool | .int i => decide (lo ≤ i) && decide (i ≤ hi) | _ => false
def wordB : DL.D → Bool | .tuple ds => ds.all (whB 0 1) | _ => false
def lenD : DL.D → Nat | .tuple ds => ds.length | _ => 0
def imgB (d : DL.D) : Bool := wordB d && (decide (1 ≤ lenD d) && decide (lenD d ≤ 60))
def errF : DL.D → DL.D
  | .tuple [a, b] => if imgB a = true then (if imgB b = true then .none else .tuple [.str "image", .int 1]) else .tuple [.str "image", .int 0]
  | _ => .str "form"
/-- values that may be asked -/
structure Av (d : DL.D) : Prop where
  sh : PyData.showable d = true
  dp : PyData.depth d ≤ 20
  wt : (PyData.shown d).length ≤ 8000000
  kids : ∀ ds, d = .tuple ds → ∀ e ∈ ds, ∀ es, e = .tuple es → es.length ≤ 3000
/-- an item that is put into a word -/
structure Ov (d : DL.D) : Prop where
  sh : PyData.showable d = true
  dp : PyData.depth d ≤ 10
  wt : (PyData.shown d).length ≤ 3000000
  wi : ∀ es, d = .tuple es → es.length ≤ 3000 ∧ ∀ x ∈ es, Ni 5 40000 x
/-- a word, or anything that is none -/
def Wi (e : DL.D) : Prop := ∀ es, e = .tuple es → es.length ≤ 3000 ∧ ∀ d ∈ es, Ni 5 40000 d
def Own : Nat → DL.D → Prop
  | 0, _ => False
  | n + 1, d => match d with
    | .none => True
    | .bool _ => True
    | .int _ => True
    | .str _ => True
    | .tuple ds => ds.length ≤ 3000 ∧ ∀ e ∈ ds, intB e = true ∨ Own n e
    | _ => False
/-! ### specs -/
abbrev iS (i : Int) : Sl := .sh (.int i)
abbrev bS (b : Bool) : Sl := .sh (.bool b)
abbrev wW (w : Wo) : Sl := .sh (wdD w)
abbrev cC (c : Ch) : Sl := .sh (chD c)
def S_is_integer : Spec := spE (fun d : DL.D => [.sh d]) (fun _ => True) fun d => .bool (intB d)
def S_is_whole : Spec := spE (fun x : DL.D × Int × Int => [.sh x.1, iS x.2.1, iS x.2.2]) (fun _ => True) fun x => .bool (whB x.2.1 x.2.2 x.1)
def S_is_tuple : Spec := spE (fun x : DL.D × Nat => [.sh x.1, iS (x.2 : Int)]) (fun _ => True) fun x => .bool (match x.1 with | .tuple ds => decide (ds.length = x.2) | _ => false)
def S_is_any_word : Spec := spE (fun d : DL.D => [.sh d]) (fun d => ∀ es, d = .tuple es → es.length ≤ 3000) fun d => .bool (wordB d)
def S_change_error : Spec := spE (fun d : DL.D => [.sh d]) (fun d => ∀ ds, d = .tuple ds → ∀ e ∈ ds, ∀ es, e = .tuple es → es.length ≤ 3000) errF
abbrev arCW (x : Ch × Wo) : List Sl := [cC x.1, wW x.2]
def S_all_put_through : Spec := spE arCW (fun x => Cv x.1 ∧ Wv x.2 ∧ siz x.1 x.2 ≤ 2000) fun x => wdD (put x.1 x.2)
def S_put_through : SpecE := fun ss Q E => ∃ (c : Ch) (w : Wo), ss = [cC c, wW w] ∧ Cv c ∧ Wv w ∧ (siz c w ≤ 2000 → Q (wdD (put c w))) ∧ (2000 < siz c w → E tmX)
theorem m_put_through : ∀ ss (Q Q' : DL.D → Prop) (E E' : Xn → Prop), (∀ d, Q d → Q' d) → (∀ x, E x → E' x) → S_put_through ss Q E → S_put_through ss Q' E' := fun ss Q Q' E E' k l ⟨c, w, e, a, b, h1, h2⟩ => ⟨c, w, e, a, b, fun z => k _ (h1 z), fun z => l _ (h2 z)⟩
theorem l_put_through : ∀ ss (Q : DL.D → Prop) (E : Xn → Prop), S_put_through ss Q E → ss.length = 2 := fun ss Q E ⟨c, w, e, _⟩ => by rw [e]; rfl
def S_change_behind : SpecE := fun ss Q E => ∃ c o : Ch, ss = [cC c, cC o] ∧ Cv c ∧ Cv o ∧ (siz o c.1 ≤ 2000 → siz o c.2 ≤ 2000 → Q (chD (put o c.1, put o c.2))) ∧ (2000 < siz o c.1 ∨ 2000 < siz o c.2 → E tmX)
theorem m_change_behind : ∀ ss (Q Q' : DL.D → Prop) (E E' : Xn → Prop), (∀ d, Q d → Q' d) → (∀ x, E x → E' x) → S_change_behind ss Q E → S_change_behind ss Q' E' := fun ss Q Q' E E' k l ⟨c, w, e, a, b, h1, h2⟩ => ⟨c, w, e, a, b, fun y z => k _ (h1 y z), fun z => l _ (h2 z)⟩
theorem l_change_behind : ∀ ss (Q : DL.D → Prop) (E : Xn → Prop), S_change_behind ss Q E → ss.length = 2 := fun ss Q E ⟨c, w, e, _⟩ => by rw [e]; rfl
def S_change_table : Spec := spE (fun c : Ch => [cC c]) Cv fun c => t4D (tb c)
def S__law_own_bag : Spec := spOwn
def S__law_draw : Spec := spDraw
def S__law_pick : Spec := spA (fun ds : List DL.D => [.bg, .sh (.list ds)]) (fun ds => ds ≠ [] ∧ ds.length < 1000) (fun ds d => d ∈ ds) fun d => d
def R__law_is_own : Nat := 5
def Sn__law_is_own (n : Nat) : Spec := spE (fun d : DL.D => [.sh d]) (Own n) fun _ => .bool true
def S__law_is_own : Spec := Sn__law_is_own R__law_is_own
theorem z0__law_is_own : ∀ ss (Q : DL.D → Prop), ¬ Sn__law_is_own 0 ss Q := fun ss Q ⟨_, _, h, _⟩ => h
theorem mn__law_is_own (n : Nat) : ∀ ss (Q Q' : DL.D → Prop), (∀ d, Q d → Q' d) → Sn__law_is_own n ss Q → Sn__law_is_own n ss Q' := spE_mono
theorem ln__law_is_own (n : Nat) : ∀ ss (Q : DL.D → Prop), Sn__law_is_own n ss Q → ss.length = 1 := spE_len fun _ => rfl
def S__law_is_same : Spec := spE (fun d : DL.D => [.sh d, .sh d]) (fun d => Own 5 d ∧ Ni 20 8000000 d) fun _ => .bool true
def S__law_own_word : Spec := spA (fun n : Nat => [.bg, iS (n : Int)]) (fun n => n ≤ 600) (fun n w => Bw w ∧ w.length = n) wdD
def S__law_own_change : Spec := spA (fun n : Nat => [.bg, iS (n : Int)]) (fun n => 1 ≤ n ∧ n ≤ 60) (fun n c => (Bw c.1 ∧ 1 ≤ c.1.length ∧ c.1.length ≤ n) ∧ Bw c.2 ∧ 1 ≤ c.2.length ∧ c.2.length ≤ n) chD
def S__law_size : Spec := spE arCW (fun x => Cv x.1 ∧ Wv x.2) fun x => .int (siz x.1 x.2)
def S__law_put : Spec := spE arCW (fun x => Cv x.1 ∧ Wv x.2 ∧ siz x.1 x.2 ≤ 2000) fun x => wdD (put x.1 x.2)
def S__law_table : Spec := spE (fun c : Ch => [cC c]) Cv fun c => t4D (tb c)
def S__law_product : Spec := spE (fun x : T4 × T4 => [.sh (t4D x.1), .sh (t4D x.2)]) (fun x => Tv x.1 ∧ Tv x.2) fun x => t4D (t4M x.1 x.2)
def askP (c : Ch) (w : Wo) : DL.D := if siz c w ≤ 2000 then .list [.int 0, wdD (put c w)] else .list [.int 1, .int 2000, .bool true]
def S__law_ask_put : Spec := spE (fun x : Ch × Wo × Bool => [cC x.1, wW x.2.1, bS x.2.2]) (fun x => Cv x.1 ∧ Wv x.2.1) fun x => askP x.1 x.2.1
def askB (c o : Ch) : DL.D := if siz o c.1 ≤ 2000 ∧ siz o c.2 ≤ 2000 then .list [.int 0, chD (put o c.1, put o c.2)] else .list [.int 1, .int 2000, .bool true]
def S__law_ask_behind : Spec := spE (fun x : Ch × Ch × Bool => [cC x.1, cC x.2.1, bS x.2.2]) (fun x => Cv x.1 ∧ Cv x.2.1) fun x => askB x.1 x.2.1
def S__law_is_put_right : Spec := spE (fun x : Ch × Wo × Bool => [cC x.1, wW x.2.1, bS x.2.2]) (fun x => Cv x.1 ∧ Wv x.2.1) fun _ => .bool true
def S__law_is_behind_right : Spec := spE (fun x : Ch × Ch × Bool => [cC x.1, cC x.2.1, bS x.2.2]) (fun x => Cv x.1 ∧ Cv x.2.1) fun _ => .bool true
def S__law_are_ways_right : Spec := spE (fun x : Ch × Ch × Wo => [cC x.1, cC x.2.1, wW x.2.2]) (fun x => Cv x.1 ∧ Cv x.2.1 ∧ Wv x.2.2) fun _ => .bool true
def S__law_due_error : Spec := spE (fun d : DL.D => [.sh d]) (fun d => ∀ ds, d = .tuple ds → ∀ e ∈ ds, Wi e) errF
def S__law_odd_words : Spec := spA (fun w : Wo => [.bg, wW w]) (fun w => Bw w ∧ 1 ≤ w.length ∧ w.length ≤ 60) (fun _ ds => (∀ d ∈ ds, Ov d) ∧ ds.length = 12) fun ds : List DL.D => .list ds
def S__law_are_errors_right : Spec := spE (fun c : Ch => [.bg, cC c]) (fun c => (Bw c.1 ∧ 1 ≤ c.1.length ∧ c.1.length ≤ 60) ∧ Bw c.2 ∧ 1 ≤ c.2.length ∧ c.2.length ≤ 60) fun _ => .bool true
def S__law_at : Spec := spA (fun x : Nat × Nat => [.bg, iS (x.1 : Int), iS (x.2 : Int)]) (fun x => (x.1 = 500 ∨ x.1 = 60) ∧ 1999 ≤ x.2 ∧ x.2 ≤ 2002) (fun x (y : Ch × Wo) => Bw y.1.1 ∧ y.1.1.length ≤ 60 ∧ Bw y.1.2 ∧ y.1.2.length ≤ 60 ∧ Bw y.2 ∧ 1 ≤ y.2.length ∧ y.2.length ≤ x.1 ∧ siz y.1 y.2 = (x.2 : Int)) fun y => .tuple [chD y.1, wdD y.2]
def S__law_are_limits_right : Spec := spE (fun _ : Unit => [.bg]) (fun _ => True) fun _ => .bool true
end T
end DL
namespace DL
namespace T
open PySem L2 PySem.Spec PyProof.Rows
noncomputable section
def g_is_integer : SS := (fRet (fAndV (fIsI "int" (fN 0)) (fNotV (fIsI "bool" (fN 0)))))
abbrev N_is_integer : List Str := ["value"]
def g_is_tuple : SS := (fRet (fAndV (fIsI "tuple" (fN 0)) (fBin (gv gEq) (fCB bLen (fLC (fN 0) fLN)) (fN 1))))
abbrev N_is_tuple : List Str := ["value", "many"]
def g_all_put_through : SS := (fSeqS (fSetN 2 fLN) (fSeqS (fForS (fSeq (fV 1)) (gNm 3) (fExtT 2 (fBin gIx (fN 0) (fN 3)))) (fRet (fCB bTuple (fLC (fN 2) fLN)))))
abbrev N_all_put_through : List Str := ["change", "word", "found", "letter"]
def g_change_table : SS := (fRet (fCB bTuple (fLC (fNV (fLc [1] (fSeq (fV 0)) (gNm 1) fYes (fTup (fLC (fBin gSub (fCB bLen (fLC (fN 1) fLN)) (fCB bSumT (fLC (fN 1) fLN))) (fLC (fCB bSumT (fLC (fN 1) fLN)) fLN))))) fLN)))
abbrev N_change_table : List Str := ["change", "word"]
def g__law_own_bag : SS := (fSeqS (fSetN 1 (fLc [2] (fSeq (fNV fScr)) (gNm 2) fYes (fCB bAbs (fLC (fN 2) fLN)))) (fSeqS (fSet 3 (fBin gAdd (fC (.int 2468)) (fCB bLen (fLC (fN 1) fLN)))) (fSeqS (fFrz 1 (fForS (fSeq (fV 1)) (gNm 2) (fSet 3 (fBin gMod (fCB bInt (fLC (fBin gAdd (fBin gAdd (fBin gMul (fN 3) (fC (.int 48271))) (fBin gMod (fCB bInt (fLC (fN 2) fLN)) (fC (.int 2147483629)))) (fC (.int 7))) fLN)) (fC (.int 2147483647)))))) (fRet (fNV (fLC (fNV (fLRev (fNV (fSeq (fN 1))))) (fLC (fC (.int 0)) (fLC (fV 3) fLN))))))))
abbrev N__law_own_bag : List Str := ["script", "cells", "cell", "mixed"]
def g__law_size : SS := (fSeqS (fSet 2 (fCB bSumT (fLC (fN 1) fLN))) (fRet (fBin gAdd (fBin gMul (fN 2) (fCB bLen (fLC (fBin gIx (fN 0) (fC (.int 1))) fLN))) (fBin gMul (fBin gSub (fCB bLen (fLC (fN 1) fLN)) (fN 2)) (fCB bLen (fLC (fBin gIx (fN 0) (fC (.int 0))) fLN))))))
abbrev N__law_size : List Str := ["change", "word", "ones"]
def g__law_put : SS := (fSeqS (fSetN 2 fLN) (fSeqS (fForS (fSeq (fV 1)) (gNm 3) (fExt 2 (fNV (fSeq (fBin gIx (fN 0) (fN 3)))))) (fRet (fCB bTuple (fLC (fN 2) fLN)))))
abbrev N__law_put : List Str := ["change", "word", "found", "letter"]
def g__law_table : SS := (fRet (fCB bTuple (fLC (fNV (fLc [1] (fSeq (fV 0)) (gNm 1) fYes (fTup (fLC (fBin gSub (fCB bLen (fLC (fN 1) fLN)) (fCB bSumT (fLC (fN 1) fLN))) (fLC (fCB bSumT (fLC (fN 1) fLN)) fLN))))) fLN)))
abbrev N__law_table : List Str := ["change", "word"]
def g__law_product : SS := (fSeqS (fSetN 2 fLN) (fSeqS (fForS (fSeq (fV 0)) (gSq 2 (gsCons (gNm 3) (gsCons (gNm 4) gsNil))) (fApp 2 (fTup (fLC (fBin gAdd (fBin gMul (fN 3) (fBin gIx (fBin gIx (fN 1) (fC (.int 0))) (fC (.int 0)))) (fBin gMul (fN 4) (fBin gIx (fBin gIx (fN 1) (fC (.int 1))) (fC (.int 0))))) (fLC (fBin gAdd (fBin gMul (fN 3) (fBin gIx (fBin gIx (fN 1) (fC (.int 0))) (fC (.int 1)))) (fBin gMul (fN 4) (fBin gIx (fBin gIx (fN 1) (fC (.int 1))) (fC (.int 1))))) fLN))))) (fRet (fCB bTuple (fLC (fN 2) fLN)))))
abbrev N__law_product : List Str := ["one", "other", "rows", "a", "b"]
def g__law_due_error : SS := (fSeqS (fIfS (fOr (fNot (fTV (fIsI "tuple" (fN 0)))) (fCmp gNe (fCB bLen (fLC (fN 0) fLN)) (fC (.int 2)))) (fRet (fC (.str "form"))) fNext) (fSeqS (fForS (fEnumT (fV 0)) (gSq 2 (gsCons (gNm 1) (gsCons (gNm 2) gsNil))) (fSeqS (fIfS (fOr (fNot (fTV (fIsI "tuple" (fN 2)))) (fOr (fCmp gEq (fN 2) (fTup fLN)) (fCmp gGt (fCB bLen (fLC (fN 2) fLN)) (fC (.int 60))))) (fRet (fTup (fLC (fC (.str "image")) (fLC (fV 1) fLN)))) fNext) (fIfS (fCmp gNe (fNV (fLc [3] (fSeq (fV 2)) (gNm 3) (fOr (fNot (fTV (fIsI "int" (fN 3)))) (fOr (fTV (fIsI "bool" (fN 3))) (fOr (fCmp gLt (fN 3) (fC (.int 0))) (fCmp gGt (fN 3) (fC (.int 1)))))) (fV 3))) (fNV fLN)) (fRet (fTup (fLC (fC (.str "image")) (fLC (fV 1) fLN)))) fNext))) (fRet (fC .none))))
abbrev N__law_due_error : List Str := ["value", "i", "word", "one"]
def g_is_whole : SS := (fRet (fAndV (fCall S_is_integer (fAC (fV 0) fAN)) (fun ρ Q => fChain gLe gLe (fN 1) (fN 0) (fN 2) ρ fun k => Q (.bool k))))
abbrev N_is_whole : List Str := ["value", "low", "high"]
def g_put_through (W : WE) : SS := (fSeqS (fSet 2 (fCB bSumT (fLC (fN 1) fLN))) (fSeqS (fIfS (fCmp gGt (fBin gAdd (fBin gMul (fCB bLen (fLC (fBin gIx (fN 0) (fC (.int 1))) fLN)) (fN 2)) (fBin gMul (fCB bLen (fLC (fBin gIx (fN 0) (fC (.int 0))) fLN)) (fBin gSub (fCB bLen (fLC (fN 1) fLN)) (fN 2)))) (fC (.int 2000))) (fRaise1 W "TooMany" "limit" (fC (.int 2000))) fNext) (fRet (fCall S_all_put_through (fAC (fV 0) (fAC (fV 1) fAN))))))
abbrev N_put_through : List Str := ["change", "word", "ones"]
def g__law_pick : SS := (fRet (fBin gIx (fN 1) (fCall S__law_draw (fAB 0 (fAC (fCB bLen (fLC (fN 1) fLN)) fAN)))))
abbrev N__law_pick : List Str := ["bag", "some"]
def g__law_own_word : SS := (fSeqS (fSet 2 (fCall S__law_draw (fAB 0 (fAC (fC (.int 4)) fAN)))) (fSeqS (fIfS (fCmp gEq (fN 2) (fC (.int 0))) (fSeqS (fPar [3, 4] (fMV (fCall S__law_draw (fAB 0 (fAC (fBin gAdd (fN 1) (fC (.int 1))) fAN))) (fMV (fCall S__law_draw (fAB 0 (fAC (fC (.int 2)) fAN))) fAN))) (fRet (fSlT (fBin gAdd (fBin gAdd (fBin gRepT (fTup (fLC (fV 4) fLN)) (fN 3)) (fTup (fLC (fBin gSub (fC (.int 1)) (fN 4)) fLN))) (fBin gRepT (fTup (fLC (fV 4) fLN)) (fN 1))) fON (fOS (fN 1))))) fNext) (fRet (fCB bTuple (fLC (fNV (fLc [5] (fSeq (fNV (fLRng1 (fN 1)))) (gNm 5) fYes (fCall S__law_draw (fAB 0 (fAC (fC (.int 2)) fAN))))) fLN)))))
abbrev N__law_own_word : List Str := ["bag", "many", "way", "at", "letter", "k"]
def g_is_any_word : SS := (fRet (fAndV (fIsI "tuple" (fN 0)) (fCB bAll (fLC (fNV (fLc [1] (fSeq (fV 0)) (gNm 1) fYes (fCall S_is_whole (fAC (fV 1) (fAC (fC (.int 0)) (fAC (fC (.int 1)) fAN)))))) fLN))))
abbrev N_is_any_word : List Str := ["value", "item"]
def g_change_behind (W : WE) : SS := (fRet (fTup (fLC (fCallE W S_put_through (fAC (fV 1) (fAC (fBin gIx (fN 0) (fC (.int 0))) fAN))) (fLC (fCallE W S_put_through (fAC (fV 1) (fAC (fBin gIx (fN 0) (fC (.int 1))) fAN))) fLN))))
abbrev N_change_behind : List Str := ["one", "other"]
def g__law_own_change : SS := (fSeqS (fSet 2 (fCall S__law_own_word (fAB 0 (fAC (fBin gAdd (fC (.int 1)) (fCall S__law_draw (fAB 0 (fAC (fV 1) fAN)))) fAN)))) (fRet (fTup (fLC (fV 2) (fLC (fCall S__law_own_word (fAB 0 (fAC (fBin gAdd (fC (.int 1)) (fCall S__law_draw (fAB 0 (fAC (fV 1) fAN)))) fAN))) fLN)))))
abbrev N__law_own_change : List Str := ["bag", "most", "first"]
def g__law_ask_put : SS := (fTry 3 "TooMany" (fun W1 => (fRet (fNV (fLC (fC (.int 0)) (fLC (fIf (fTV (fN 2)) (fCallEK W1 S_put_through [1, 0] (fAC (fV 1) (fAC (fV 0) fAN))) (fCallE W1 S_put_through (fAC (fV 0) (fAC (fV 1) fAN)))) fLN))))) (fSeqS (fSet 4 (fAndV (fIs1 3 "LineError") (fIs1 3 "ValueError"))) (fSeqS (fSet 5 (fIsT 3 ["Unfit", "BadText", "BadChain", "BadLog", "Refused", "NothingToUndo"])) (fRet (fNV (fLC (fC (.int 1)) (fLC (fFld 3 "limit") (fLC (fAndV (fN 4) (fNotV (fN 5))) fLN))))))) (fun _ _ => False))
abbrev N__law_ask_put : List Str := ["change", "word", "is_named", "error", "is_plain", "is_odd"]
def g__law_odd_words : SS := (fSeqS (fSet 2 (fCall S__law_draw (fAB 0 (fAC (fCB bLen (fLC (fN 1) fLN)) fAN)))) (fSeqS (fSet 3 (fCall S__law_pick (fAB 0 (fAC (fNV (fLC (fC (.int 2)) (fLC (fNeg (fC (.int 1))) (fLC (fC (.bool true)) (fLC (fC (.bool false)) (fLC (fC .none) (fLC (fC (.str "1")) (fLC (fC (.str "0")) (fLC (fTup (fLC (fC (.int 1)) fLN)) (fLC (fTup fLN) (fLC (fNV (fLC (fC (.int 0)) fLN)) (fLC (fBin gPow (fC (.int 10)) (fC (.int 30))) (fLC (fBin gPowW (fBin gPow (fC (.int 10)) (fC (.int 57))) (fC (.int 7))) fLN))))))))))))) fAN)))) (fSeqS (fSet 4 (fSlT (fBin gRepT (fN 1) (fC (.int 60))) fON (fOS (fC (.int 59))))) (fSeqS (fSetN 5 (fLC (fBin gAdd (fBin gAdd (fSlT (fN 1) fON (fOS (fN 2))) (fTup (fLC (fV 3) fLN))) (fSlT (fN 1) (fOS (fBin gAdd (fN 2) (fC (.int 1)))) fON)) (fLC (fBin gAdd (fSlT (fN 1) fON (fOS (fNeg (fC (.int 1))))) (fTup (fLC (fV 3) fLN))) (fLC (fBin gAdd (fTup (fLC (fV 3) fLN)) (fSlT (fN 1) (fOS (fC (.int 1))) fON)) fLN)))) (fSeqS (fApp 5 (fBin gAdd (fSlT (fN 1) fON (fOS (fNeg (fC (.int 1))))) (fTup (fLC (fBin (gv gEq) (fBin gIx (fN 1) (fNeg (fC (.int 1)))) (fC (.int 1))) fLN)))) (fSeqS (fExt 5 (fNV (fLC (fTup fLN) (fLC (fNV (fSeq (fN 1))) (fLC (fTup (fLC (fV 1) fLN)) (fLC (fBin gAdd (fN 4) (fTup (fLC (fC (.int 1)) fLN))) (fLC (fBin gAdd (fN 4) (fTup (fLC (fC (.int 0)) (fLC (fC (.int 1)) fLN)))) (fLC (fBin gAdd (fN 4) (fTup (fLC (fV 3) fLN))) fLN)))))))) (fSeqS (fApp 5 (fSlT (fBin gRepT (fN 4) (fC (.int 9))) fON (fOS (fCall S__law_draw (fAB 0 (fAC (fC (.int 500)) fAN)))))) (fSeqS (fApp 5 (fCall S__law_pick (fAB 0 (fAC (fNV (fLC (fC .none) (fLC (fC (.bool true)) (fLC (fC (.int 0)) (fLC (fC (.int 1)) (fLC (fC (.str "0")) (fLC (fC (.str "01")) (fLC (fC (.str "")) (fLC (fNV fLN) (fLC (fC (.dict [])) (fLC (fDict1 (.inl 0) (fC (.int 1))) (fLC (fTup (fLC (fTup fLN) fLN)) (fLC (fTup (fLC (fC .none) fLN)) fLN))))))))))))) fAN)))) (fFrz 5 (fRet (fV 5)))))))))))
abbrev N__law_odd_words : List Str := ["bag", "word", "at", "odd", "long", "found"]
def g__law_at : SS := (fSeqS (fSet 3 (fBin gAdd (fBin gDiv (fN 2) (fBin gSub (fN 1) (fC (.int 1)))) (fC (.int 1)))) (fSeqS (fSet 4 (fBin gAdd (fN 3) (fCall S__law_draw (fAB 0 (fAC (fBin gSub (fC (.int 61)) (fN 3)) fAN))))) (fSeqS (fSet 5 (fBin gDiv (fN 2) (fN 4))) (fSeqS (fSet 6 (fBin gSub (fN 2) (fBin gMul (fN 5) (fN 4)))) (fSeqS (fSet 7 (fCall S__law_draw (fAB 0 (fAC (fC (.int 2)) fAN)))) (fSeqS (fPar [8, 9] (fMV (fCall S__law_own_word (fAB 0 (fAC (fV 4) fAN))) (fMV (fCall S__law_own_word (fAB 0 (fAC (fCB bMax2 (fLC (fC (.int 1)) (fLC (fN 6) fLN))) fAN))) fAN))) (fSeqS (fSet 10 (fIf (fCmp gEq (fN 7) (fC (.int 0))) (fTup (fLC (fV 8) (fLC (fV 9) fLN))) (fTup (fLC (fV 9) (fLC (fV 8) fLN))))) (fSeqS (fSet 11 (fCall S__law_pick (fAB 0 (fAC (fNV (fLC (fC (.int 0)) (fLC (fV 5) (fLC (fCall S__law_draw (fAB 0 (fAC (fBin gAdd (fN 5) (fC (.int 1))) fAN))) fLN)))) fAN)))) (fSeqS (fSet 12 (fBin gAdd (fBin gAdd (fBin gRepT (fTup (fLC (fV 7) fLN)) (fN 11)) (fBin gRepT (fTup (fLC (fBin gSub (fC (.int 1)) (fN 7)) fLN)) (fCB bMin2 (fLC (fC (.int 1)) (fLC (fN 6) fLN))))) (fBin gRepT (fTup (fLC (fV 7) fLN)) (fBin gSub (fN 5) (fN 11))))) (fRet (fTup (fLC (fV 10) (fLC (fV 12) fLN)))))))))))))
abbrev N__law_at : List Str := ["bag", "most", "many", "least", "size", "often", "rest", "letter", "usual", "late", "change", "at", "word"]
def g_change_error : SS := (fSeqS (fIfS (fNot (fTV (fCall S_is_tuple (fAC (fV 0) (fAC (fC (.int 2)) fAN))))) (fRet (fC (.str "form"))) fNext) (fSeqS (fSetN 1 (fLc [2, 3] (fEnumT (fV 0)) (gSq 2 (gsCons (gNm 2) (gsCons (gNm 3) gsNil))) (fOr (fNot (fTV (fCall S_is_any_word (fAC (fV 3) fAN)))) (fNot (fChain gLe gLe (fC (.int 1)) (fCB bLen (fLC (fN 3) fLN)) (fC (.int 60))))) (fV 2))) (fRet (fIf (fCmp gNe (fN 1) (fNV fLN)) (fTup (fLC (fC (.str "image")) (fLC (fBin gIx (fN 1) (fC (.int 0))) fLN))) (fC .none)))))
abbrev N_change_error : List Str := ["value", "bad", "i", "own"]
def g__law_ask_behind : SS := (fTry 3 "TooMany" (fun W1 => (fRet (fNV (fLC (fC (.int 0)) (fLC (fIf (fTV (fN 2)) (fCallEK W1 S_change_behind [1, 0] (fAC (fV 1) (fAC (fV 0) fAN))) (fCallE W1 S_change_behind (fAC (fV 0) (fAC (fV 1) fAN)))) fLN))))) (fSeqS (fSet 4 (fAndV (fIs1 3 "LineError") (fIs1 3 "ValueError"))) (fSeqS (fSet 5 (fIsT 3 ["Unfit", "BadText", "BadChain", "BadLog", "Refused", "NothingToUndo"])) (fRet (fNV (fLC (fC (.int 1)) (fLC (fFld 3 "limit") (fLC (fAndV (fN 4) (fNotV (fN 5))) fLN))))))) (fun _ _ => False))
abbrev N__law_ask_behind : List Str := ["one", "other", "is_named", "error", "is_plain", "is_odd"]
def g__law_is_own (Sr : Spec) : SS := (fSeqS (fIfS (fTV (fIsI "tuple" (fN 0))) (fRet (fCB bAll (fLC (fNV (fLc [1] (fSeq (fV 0)) (gNm 1) fYes (fOrV (fIsI "int" (fN 1)) (fCall Sr (fAC (fV 1) fAN))))) fLN))) fNext) (fRet (fOrV (fBin (gv gIsN) (fN 0) (fC .none)) (fIsI2 "int" "str" (fN 0)))))
abbrev N__law_is_own : List Str := ["told", "one"]
def g__law_is_same : SS := (fRet (fAndV (fCall S__law_is_own (fAC (fV 0) fAN)) (fBin (gv gEq) (fCB bReprA (fLC (fN 0) fLN)) (fCB bReprA (fLC (fN 1) fLN)))))
abbrev N__law_is_same : List Str := ["told", "due"]
def g__law_is_put_right : SS := (fSeqS (fSet 3 (fCB bReprA (fLC (fNV (fLC (fV 0) (fLC (fV 1) fLN))) fLN))) (fSeqS (fSet 4 (fCall S__law_ask_put (fAC (fV 0) (fAC (fV 1) (fAC (fV 2) fAN))))) (fSeqS (fIfS (fCmp gGt (fCall S__law_size (fAC (fV 0) (fAC (fV 1) fAN))) (fC (.int 2000))) (fRet (fBin (gv gEq) (fCB bReprA (fLC (fN 4) fLN)) (fCB bReprA (fLC (fNV (fLC (fC (.int 1)) (fLC (fC (.int 2000)) (fLC (fC (.bool true)) fLN)))) fLN)))) fNext) (fRet (fAndV (fBin (gv gEq) (fBin gIx (fN 4) (fC (.int 0))) (fC (.int 0))) (fAndV (fCall S__law_is_same (fAC (fBin gIx (fN 4) (fC (.int 1))) (fAC (fCall S__law_put (fAC (fV 0) (fAC (fV 1) fAN))) fAN))) (fBin (gv gEq) (fCB bReprA (fLC (fNV (fLC (fV 0) (fLC (fV 1) fLN))) fLN)) (fN 3))))))))
abbrev N__law_is_put_right : List Str := ["change", "word", "is_named", "kept", "found"]
def g__law_is_behind_right : SS := (fSeqS (fSet 3 (fCB bReprA (fLC (fNV (fLC (fV 0) (fLC (fV 1) fLN))) fLN))) (fSeqS (fSet 4 (fCall S__law_ask_behind (fAC (fV 0) (fAC (fV 1) (fAC (fV 2) fAN))))) (fSeqS (fIfS (fCmp gGt (fCB bMaxL (fLC (fNV (fLc [5] (fSeq (fV 0)) (gNm 5) fYes (fCall S__law_size (fAC (fV 1) (fAC (fV 5) fAN))))) fLN)) (fC (.int 2000))) (fRet (fBin (gv gEq) (fCB bReprA (fLC (fN 4) fLN)) (fCB bReprA (fLC (fNV (fLC (fC (.int 1)) (fLC (fC (.int 2000)) (fLC (fC (.bool true)) fLN)))) fLN)))) fNext) (fSeqS (fSet 6 (fTup (fLC (fCall S__law_put (fAC (fV 1) (fAC (fBin gIx (fN 0) (fC (.int 0))) fAN))) (fLC (fCall S__law_put (fAC (fV 1) (fAC (fBin gIx (fN 0) (fC (.int 1))) fAN))) fLN)))) (fSeqS (fIfS (fOr (fCmp gNe (fBin gIx (fN 4) (fC (.int 0))) (fC (.int 0))) (fOr (fNot (fTV (fCall S__law_is_same (fAC (fBin gIx (fN 4) (fC (.int 1))) (fAC (fV 6) fAN))))) (fCmp gNe (fCB bReprA (fLC (fNV (fLC (fV 0) (fLC (fV 1) fLN))) fLN)) (fN 3)))) (fRet (fC (.bool false))) fNext) (fSeqS (fSet 7 (fIf (fTV (fN 2)) (fCall S_change_table (fAC (fBin gIx (fN 4) (fC (.int 1))) fAN)) (fCallK S_change_table [0] (fAC (fBin gIx (fN 4) (fC (.int 1))) fAN)))) (fSeqS (fIfS (fNot (fTV (fCall S__law_is_same (fAC (fV 7) (fAC (fCall S__law_table (fAC (fV 6) fAN)) fAN))))) (fRet (fC (.bool false))) fNext) (fRet (fCall S__law_is_same (fAC (fV 7) (fAC (fCall S__law_product (fAC (fCall S_change_table (fAC (fV 0) fAN)) (fAC (fCall S_change_table (fAC (fV 1) fAN)) fAN))) fAN)))))))))))
abbrev N__law_is_behind_right : List Str := ["one", "other", "is_named", "kept", "found", "word", "due", "told"]
def g__law_are_ways_right : SS := (fSeqS (fIfS (fOr (fCmp gGt (fCall S__law_size (fAC (fV 0) (fAC (fV 2) fAN))) (fC (.int 2000))) (fCmp gGt (fCB bMaxL (fLC (fNV (fLc [3] (fSeq (fV 0)) (gNm 3) fYes (fCall S__law_size (fAC (fV 1) (fAC (fV 3) fAN))))) fLN)) (fC (.int 2000)))) (fRet (fC (.bool true))) fNext) (fSeqS (fPar [4, 5] (fMV (fCallE (fun _ _ => False) S_change_behind (fAC (fV 0) (fAC (fV 1) fAN))) (fMV (fCallE (fun _ _ => False) S_put_through (fAC (fV 0) (fAC (fV 2) fAN))) fAN))) (fSeqS (fIfS (fAnd (fCmp gLe (fCall S__law_size (fAC (fV 1) (fAC (fV 5) fAN))) (fC (.int 2000))) (fCmp gNe (fCB bReprA (fLC (fCallE (fun _ _ => False) S_put_through (fAC (fV 4) (fAC (fV 2) fAN))) fLN)) (fCB bReprA (fLC (fCallE (fun _ _ => False) S_put_through (fAC (fV 1) (fAC (fV 5) fAN))) fLN)))) (fRet (fC (.bool false))) fNext) (fSeqS (fSet 6 (fTup (fLC (fTup (fLC (fC (.int 0)) fLN)) (fLC (fTup (fLC (fC (.int 1)) fLN)) fLN)))) (fSeqS (fIfS (fOr (fNot (fTV (fCall S__law_is_same (fAC (fCallE (fun _ _ => False) S_change_behind (fAC (fV 6) (fAC (fV 0) fAN))) (fAC (fV 0) fAN))))) (fNot (fTV (fCall S__law_is_same (fAC (fCallE (fun _ _ => False) S_change_behind (fAC (fV 0) (fAC (fV 6) fAN))) (fAC (fV 0) fAN)))))) (fRet (fC (.bool false))) fNext) (fSeqS (fSet 7 (fTup (fLC (fTup (fLC (fC (.int 1)) fLN)) (fLC (fTup (fLC (fC (.int 0)) fLN)) fLN)))) (fSeqS (fSet 8 (fCallE (fun _ _ => False) S_change_behind (fAC (fV 7) (fAC (fV 0) fAN)))) (fSeqS (fIfS (fNot (fTV (fCall S__law_is_same (fAC (fV 8) (fAC (fTup (fLC (fBin gIx (fN 0) (fC (.int 1))) (fLC (fBin gIx (fN 0) (fC (.int 0))) fLN))) fAN))))) (fRet (fC (.bool false))) fNext) (fRet (fBin (gv gEq) (fCB bReprA (fLC (fCallE (fun _ _ => False) S_change_behind (fAC (fV 7) (fAC (fV 4) fAN))) fLN)) (fCB bReprA (fLC (fCallE (fun _ _ => False) S_change_behind (fAC (fV 8) (fAC (fV 1) fAN))) fLN))))))))))))
abbrev N__law_are_ways_right : List Str := ["one", "other", "word", "image", "both", "middle", "same", "swap", "late"]
def g__law_are_errors_right : SS := (fSeqS (fSetN 2 (fLC (fV 1) (fLC (fNV (fSeq (fN 1))) (fLC (fSlT (fN 1) fON (fOS (fC (.int 1)))) (fLC (fBin gAdd (fN 1) (fTup (fLC (fBin gIx (fN 1) (fC (.int 0))) fLN))) (fLC (fBin gAdd (fN 1) (fTup (fLC (fTup fLN) fLN))) (fLC (fTup fLN) (fLC (fTup (fLC (fV 1) fLN)) fLN)))))))) (fSeqS (fApp 2 (fTup (fLC (fV 1) (fLC (fV 1) fLN)))) (fSeqS (fSet 3 (fNV (fLC (fC .none) (fLC (fC (.bool true)) (fLC (fC (.int 0)) (fLC (fC (.str "01")) (fLC (fC (.str "form")) (fLC (fNV fLN) (fLC (fC (.dict [])) (fLC (fDict2 (.inl 0) (.inl 1) (fTup (fLC (fC (.int 0)) fLN)) (fTup (fLC (fC (.int 1)) fLN))) (fLC (fTup (fLC (fC (.int 0)) (fLC (fC (.int 1)) fLN))) (fLC (fTup (fLC (fTup (fLC (fC (.int 0)) fLN)) (fLC (fC (.int 1)) fLN))) (fLC (fNV (fLC (fTup (fLC (fC (.int 0)) fLN)) (fLC (fTup (fLC (fC (.int 1)) fLN)) fLN))) fLN))))))))))))) (fSeqS (fApp 2 (fCall S__law_pick (fAB 0 (fAC (fV 3) fAN)))) (fSeqS (fForS (fSeq (fNV (fLRng1 (fC (.int 2))))) (gNm 4) (fForS (fSeq (fCall S__law_odd_words (fAB 0 (fAC (fBin gIx (fN 1) (fN 4)) fAN)))) (gNm 5) (fApp 2 (fIf (fCmp gEq (fN 4) (fC (.int 0))) (fTup (fLC (fV 5) (fLC (fBin gIx (fN 1) (fC (.int 1))) fLN))) (fTup (fLC (fBin gIx (fN 1) (fC (.int 0))) (fLC (fV 5) fLN))))))) (fSeqS (fSet 3 (fCall S__law_odd_words (fAB 0 (fAC (fBin gIx (fN 1) (fC (.int 0))) fAN)))) (fSeqS (fApp 2 (fTup (fLC (fCall S__law_pick (fAB 0 (fAC (fV 3) fAN))) (fLC (fCall S__law_pick (fAB 0 (fAC (fV 3) fAN))) fLN)))) (fSeqS (fApp 2 (fTup (fLC (fCall S__law_pick (fAB 0 (fAC (fV 3) fAN))) (fLC (fCall S__law_pick (fAB 0 (fAC (fV 3) fAN))) (fLC (fBin gIx (fN 1) (fC (.int 1))) fLN))))) (fSeqS (fApp 2 (fNV (fLC (fCall S__law_pick (fAB 0 (fAC (fV 3) fAN))) (fLC (fBin gIx (fN 1) (fC (.int 1))) fLN)))) (fSeqS (fFrz 2 (fForS (fEnum (fV 2)) (gSq 2 (gsCons (gNm 6) (gsCons (gNm 7) gsNil))) (fSeqS (fPar [8, 9] (fMV (fCall S__law_due_error (fAC (fV 7) fAN)) (fMV (fCB bReprA (fLC (fN 7) fLN)) fAN))) (fSeqS (fSet 10 (fIf (fCmp gEq (fBin gMod (fCB bInt (fLC (fN 6) fLN)) (fC (.int 2))) (fC (.int 0))) (fCallK S_change_error [0] (fAC (fV 7) fAN)) (fCall S_change_error (fAC (fV 7) fAN)))) (fIfS (fOr (fNot (fTV (fCall S__law_is_same (fAC (fV 10) (fAC (fV 8) fAN))))) (fCmp gNe (fCB bReprA (fLC (fN 7) fLN)) (fN 9))) (fRet (fC (.bool false))) fNext))))) (fRet (fC (.bool true)))))))))))))
abbrev N__law_are_errors_right : List Str := ["bag", "change", "values", "some", "i", "word", "turn", "value", "due", "kept", "told"]
def g__law_are_limits_right : SS := (fSeqS (fSet 1 (fCall S__law_pick (fAB 0 (fAC (fNV (fLC (fC (.int 1999)) (fLC (fC (.int 2000)) (fLC (fC (.int 2000)) (fLC (fC (.int 2000)) (fLC (fC (.int 2001)) (fLC (fC (.int 2001)) (fLC (fC (.int 2002)) fLN)))))))) fAN)))) (fSeqS (fAsg (fCall S__law_at (fAB 0 (fAC (fC (.int 500)) (fAC (fV 1) fAN)))) (gSq 2 (gsCons (gNm 2) (gsCons (gNm 3) gsNil)))) (fSeqS (fIfS (fOr (fCmp gNe (fCall S__law_size (fAC (fV 2) (fAC (fV 3) fAN))) (fN 1)) (fNot (fTV (fCall S__law_is_put_right (fAC (fV 2) (fAC (fV 3) (fAC (fBin (gv gEq) (fCall S__law_draw (fAB 0 (fAC (fC (.int 2)) fAN))) (fC (.int 0))) fAN))))))) (fRet (fC (.bool false))) fNext) (fSeqS (fAsg (fCall S__law_at (fAB 0 (fAC (fC (.int 60)) (fAC (fV 1) fAN)))) (gSq 2 (gsCons (gNm 2) (gsCons (gNm 3) gsNil)))) (fSeqS (fSet 4 (fCall S__law_own_word (fAB 0 (fAC (fBin gAdd (fC (.int 1)) (fCall S__law_draw (fAB 0 (fAC (fC (.int 4)) fAN)))) fAN)))) (fSeqS (fSet 5 (fIf (fCmp gEq (fCall S__law_draw (fAB 0 (fAC (fC (.int 2)) fAN))) (fC (.int 0))) (fTup (fLC (fV 3) (fLC (fV 4) fLN))) (fTup (fLC (fV 4) (fLC (fV 3) fLN))))) (fSeqS (fIfS (fNot (fTV (fCall S__law_is_behind_right (fAC (fV 5) (fAC (fV 2) (fAC (fBin (gv gEq) (fCall S__law_draw (fAB 0 (fAC (fC (.int 2)) fAN))) (fC (.int 0))) fAN)))))) (fRet (fC (.bool false))) fNext) (fSeqS (fIfS (fCmp gGt (fN 1) (fC (.int 2000))) (fRet (fC (.bool true))) fNext) (fSeqS (fSet 6 (fCallE (fun _ _ => False) S_change_behind (fAC (fV 5) (fAC (fV 2) fAN)))) (fSeqS (fIfS (fOr (fNot (fTV (fCall S__law_is_behind_right (fAC (fV 6) (fAC (fTup (fLC (fTup (fLC (fC (.int 1)) fLN)) (fLC (fTup (fLC (fC (.int 0)) fLN)) fLN))) (fAC (fC (.bool false)) fAN)))))) (fNot (fTV (fCall S__law_is_put_right (fAC (fV 6) (fAC (fTup (fLC (fC (.int 0)) fLN)) (fAC (fC (.bool true)) fAN))))))) (fRet (fC (.bool false))) fNext) (fSeqS (fSet 7 (fCall S__law_pick (fAB 0 (fAC (fNV (fLC (fTup (fLC (fTup (fLC (fC (.int 0)) (fLC (fC (.int 0)) fLN))) (fLC (fTup (fLC (fC (.int 1)) fLN)) fLN))) (fLC (fTup (fLC (fTup (fLC (fC (.int 0)) fLN)) (fLC (fTup (fLC (fC (.int 1)) (fLC (fC (.int 0)) fLN))) fLN))) (fLC (fTup (fLC (fTup (fLC (fC (.int 0)) fLN)) (fLC (fTup (fLC (fC (.int 1)) fLN)) fLN))) (fLC (fTup (fLC (fTup (fLC (fC (.int 1)) (fLC (fC (.int 1)) fLN))) (fLC (fTup (fLC (fC (.int 0)) (fLC (fC (.int 0)) fLN))) fLN))) fLN))))) fAN)))) (fSeqS (fIfS (fOr (fNot (fTV (fCall S__law_is_behind_right (fAC (fV 6) (fAC (fV 7) (fAC (fC (.bool true)) fAN)))))) (fNot (fTV (fCall S__law_is_behind_right (fAC (fTup (fLC (fTup (fLC (fC (.int 0)) fLN)) (fLC (fTup (fLC (fC (.int 1)) fLN)) fLN))) (fAC (fV 6) (fAC (fC (.bool false)) fAN))))))) (fRet (fC (.bool false))) fNext) (fRet (fCall S__law_is_put_right (fAC (fV 6) (fAC (fCall S__law_pick (fAB 0 (fAC (fNV (fLC (fTup (fLC (fC (.int 1)) fLN)) (fLC (fTup (fLC (fC (.int 0)) (fLC (fC (.int 1)) fLN))) (fLC (fTup (fLC (fC (.int 0)) (fLC (fC (.int 0)) fLN))) (fLC (fTup (fLC (fC (.int 1)) (fLC (fC (.int 1)) fLN))) (fLC (fTup fLN) fLN)))))) fAN))) (fAC (fC (.bool false)) fAN)))))))))))))))))
abbrev N__law_are_limits_right : List Str := ["bag", "many", "change", "word", "short", "one", "told", "other"]
def g_law : SS := (fSeqS (fSet 2 (fCall S__law_pick (fAB 1 (fAC (fNV (fLC (fC (.int 1)) (fLC (fC (.int 3)) (fLC (fC (.int 6)) (fLC (fC (.int 6)) (fLC (fC (.int 6)) (fLC (fC (.int 60)) fLN))))))) fAN)))) (fSeqS (fPar [3, 4, 5] (fMV (fCall S__law_own_change (fAB 1 (fAC (fV 2) fAN))) (fMV (fCall S__law_own_change (fAB 1 (fAC (fC (.int 6)) fAN))) (fMV (fCall S__law_own_change (fAB 1 (fAC (fC (.int 3)) fAN))) fAN)))) (fSeqS (fIfS (fCmp gEq (fCall S__law_draw (fAB 1 (fAC (fC (.int 2)) fAN))) (fC (.int 0))) (fPar [3, 4] (fMV (fV 4) (fMV (fV 3) fAN))) fNext) (fSeqS (fSet 6 (fCB bReprA (fLC (fNV (fLC (fV 3) (fLC (fV 4) (fLC (fV 5) fLN)))) fLN))) (fSeqS (fSetN 7 (fLC (fTup fLN) (fLC (fTup (fLC (fC (.int 0)) fLN)) (fLC (fTup (fLC (fC (.int 1)) fLN)) (fLC (fCall S__law_own_word (fAB 1 (fAC (fCall S__law_draw (fAB 1 (fAC (fC (.int 30)) fAN))) fAN))) (fLC (fCall S__law_own_word (fAB 1 (fAC (fCall S__law_draw (fAB 1 (fAC (fC (.int 9)) fAN))) fAN))) fLN)))))) (fSeqS (fIfS (fCmp gEq (fCall S__law_draw (fAB 1 (fAC (fC (.int 6)) fAN))) (fC (.int 0))) (fApp 7 (fCall S__law_own_word (fAB 1 (fAC (fCall S__law_pick (fAB 1 (fAC (fNV (fLC (fC (.int 500)) (fLC (fC (.int 499)) (fLC (fCall S__law_draw (fAB 1 (fAC (fC (.int 501)) fAN))) fLN)))) fAN))) fAN)))) fNext) (fSeqS (fFrz 7 (fForS (fEnum (fV 7)) (gSq 2 (gsCons (gNm 8) (gsCons (gNm 9) gsNil))) (fForS (fSeq (fNV (fLC (fV 3) (fLC (fV 4) (fLC (fV 5) fLN))))) (gNm 10) (fIfS (fNot (fTV (fCall S__law_is_put_right (fAC (fV 10) (fAC (fV 9) (fAC (fBin (gv gEq) (fBin gMod (fCB bInt (fLC (fN 8) fLN)) (fC (.int 2))) (fC (.int 0))) fAN)))))) (fRet (fC (.bool false))) fNext)))) (fSeqS (fForS (fEnum (fNV (fLC (fTup (fLC (fV 3) (fLC (fV 4) fLN))) (fLC (fTup (fLC (fV 4) (fLC (fV 5) fLN))) (fLC (fTup (fLC (fV 5) (fLC (fV 3) fLN))) (fLC (fTup (fLC (fV 4) (fLC (fV 3) fLN))) (fLC (fTup (fLC (fV 3) (fLC (fV 3) fLN))) fLN))))))) (gSq 2 (gsCons (gNm 8) (gsCons (gSq 2 (gsCons (gNm 11) (gsCons (gNm 12) gsNil))) gsNil))) (fIfS (fNot (fTV (fCall S__law_is_behind_right (fAC (fV 11) (fAC (fV 12) (fAC (fBin (gv gEq) (fBin gMod (fCB bInt (fLC (fN 8) fLN)) (fC (.int 2))) (fC (.int 0))) fAN)))))) (fRet (fC (.bool false))) fNext)) (fSeqS (fFrz 7 (fForS (fSeq (fV 7)) (gNm 9) (fIfS (fOr (fNot (fTV (fCall S__law_are_ways_right (fAC (fV 3) (fAC (fV 4) (fAC (fV 9) fAN)))))) (fNot (fTV (fCall S__law_are_ways_right (fAC (fV 4) (fAC (fV 5) (fAC (fV 9) fAN))))))) (fRet (fC (.bool false))) fNext))) (fSeqS (fForS (fSeq (fNV (fLC (fV 3) (fLC (fV 5) fLN)))) (gNm 10) (fSeqS (fSet 13 (fCallK S_change_table [0] (fAC (fV 10) fAN))) (fIfS (fOr (fNot (fTV (fCall S__law_is_same (fAC (fV 13) (fAC (fCall S__law_table (fAC (fV 10) fAN)) fAN))))) (fNot (fTV (fCall S__law_are_errors_right (fAB 1 (fAC (fV 10) fAN)))))) (fRet (fC (.bool false))) fNext))) (fSeqS (fIfS (fAnd (fCmp gEq (fCall S__law_draw (fAB 1 (fAC (fC (.int 3)) fAN))) (fC (.int 0))) (fNot (fTV (fCall S__law_are_limits_right (fAB 1 fAN))))) (fRet (fC (.bool false))) fNext) (fSeqS (fIfS (fOr (fNot (fTV (fCall S__law_is_behind_right (fAC (fV 3) (fAC (fV 4) (fAC (fC (.bool true)) fAN)))))) (fNot (fTV (fCall S__law_is_put_right (fAC (fV 3) (fAC (fBin gIx (fN 7) (fC (.int 3))) (fAC (fC (.bool false)) fAN))))))) (fRet (fC (.bool false))) fNext) (fRet (fBin (gv gEq) (fCB bReprA (fLC (fNV (fLC (fV 3) (fLC (fV 4) (fLC (fV 5) fLN)))) fLN)) (fN 6)))))))))))))))
abbrev N_law : List Str := ["script", "bag", "most", "one", "other", "third", "kept", "words", "turn", "word", "change", "first", "second", "told"]
end
end T
end DL
namespace DL
namespace T
open PySem L2 PySem.Spec PyProof.Rows
local macro_rules
  | `(tactic| get_elem_tactic_extensible) => `(tactic| (repeat (first | with_reducible refine Go.lc_go ?_ | with_reducible refine Go.ln_go ?_ | ((with_reducible apply Go.v_sh); exact rfl) | ((with_reducible apply Go.n_sh); exact rfl) | ((with_reducible apply Go.n_ow); exact rfl) | ((with_reducible apply Go.ab_go); exact rfl) | ((with_reducible apply Go.app_go); exact rfl) | ((with_reducible apply Go.ext_go); exact rfl) | with_reducible refine Go.c_go ?_ | with_reducible refine Go.tup_go ?_ | with_reducible refine Go.nv_go ?_ | with_reducible refine Go.bin_go ?_ | with_reducible refine Go.slT_go ?_ | with_reducible refine Go.slL_go ?_ | with_reducible refine Go.on_go ?_ | with_reducible refine Go.os_go ?_ | with_reducible refine Go.neg_go ?_ | with_reducible refine Go.sub_go ?_ | with_reducible refine Go.addI_go ?_ | with_reducible refine Go.seqT_go ?_ | with_reducible refine Go.call_go ?_ | with_reducible refine Go.callK_go ?_ | with_reducible refine Go.cb_go ?_ | with_reducible refine Go.dict1_go ?_ | with_reducible refine Go.if_go ?_ | with_reducible refine Go.an_go ?_ | with_reducible refine Go.ac_go ?_ | with_reducible refine Go.mv_go ?_ | with_reducible refine Go.par_go ?_ | with_reducible refine Go.sq_go ?_ | with_reducible refine Go.set_go ?_ | with_reducible refine Go.setN_go ?_ | with_reducible refine Go.ret_go ?_ | with_reducible refine Go.asg_go ?_ | with_reducible refine Go.ifs_go ?_ | with_reducible refine Go.next_go ?_ | with_reducible refine Go.nm_go ?_ | with_reducible refine Go.cmp_go ?_ | with_reducible refine Go.tv_go ?_ | with_reducible refine Go.not_go ?_ | with_reducible refine Go.and_go ?_ | with_reducible refine Go.or_go ?_ | with_reducible refine Go.lenT_go ?_ | with_reducible refine Go.lenL_go ?_ | with_reducible refine Go.absI_go ?_ | with_reducible refine Go.intI_go ?_ | with_reducible refine Go.max2_go ?_ | with_reducible refine Go.min2_go ?_ | with_reducible refine Go.tupL_go ?_ | with_reducible refine Go.tupT_go ?_ | with_reducible refine Go.gv_go ?_ | with_reducible refine Go.ltI_go ?_ | with_reducible refine Go.leI_go ?_ | with_reducible refine Go.gtI_go ?_ | with_reducible refine Go.geI_go ?_ | with_reducible refine Go.eqI_go ?_ | with_reducible refine Go.neI_go ?_ | with_reducible refine Go.eqS_go ?_ | with_reducible refine Go.rng1_go ?_ | ((first | with_reducible apply Go.ixL_go | with_reducible apply Go.ixT_go); first | exact DL.at0 _ _ | exact DL.at1 _ _ _ | exact DL.at2 _ _ _ _ | exact DL.at3 _ _ _ _ _ | exact DL.at4 _ _ _ _ _ _) | ((with_reducible apply Go.frz_go); exact rfl) | ((with_reducible apply Go.frz_sh); exact rfl) | with_reducible refine Go.mn_go ?_ | with_reducible refine Go.andV_go ?_ | ((first | with_reducible apply Go.sqT_go | with_reducible apply Go.sqL_go); exact rfl) | with_reducible refine Go.gsC_go ?_ | with_reducible refine Go.gsN_go ?_ | with_reducible refine Go.ifT (by decide +kernel) ?_ | with_reducible refine Go.ifF (by decide +kernel) ?_ | with_reducible refine Go.cat_go ?_ | with_reducible refine Go.callO_go ?_ | ((with_reducible apply Go.retO_go); exact rfl) | with_reducible refine Go.retN_go ?_ | with_reducible refine Go.ifN_go ?_ | with_reducible refine Go.yes_go ?_ | with_reducible refine Go.isI_go ?_ | with_reducible refine Go.isB_go ?_ | with_reducible refine Go.isN_go ?_ | with_reducible refine Go.notN_go ?_ | with_reducible refine Go.lrev_go ?_ | with_reducible refine Go.bk_go ?_ | with_reducible refine Go.ct_go ?_ | with_reducible refine Go.rng2_go ?_ | with_reducible refine Go.orV_go ?_ | with_reducible refine Go.notV_go ?_ | ((with_reducible apply Go.extT_go); exact rfl) | with_reducible refine Go.isI2_go ?_ | with_reducible refine Go.dict2_go ?_ | with_reducible refine Go.callE_go ?_ | with_reducible refine Go.callEK_go ?_ | with_reducible refine Go.raise0_go ?_ | with_reducible refine Go.raise1_go ?_ | ((with_reducible apply Go.is1_go); exact rfl) | ((with_reducible apply Go.isT_go); exact rfl) | ((with_reducible apply Go.fld_go); exact rfl) | ((with_reducible apply Go.setIx_go); exact rfl) | unfold fForS | unfold fLc | dsimp only [seqOf, List.set_cons_zero, List.set_cons_succ, setAll, wipeE])))
theorem isTup_of {d : D} (h : isB (tyN d) "tuple" = true) : ∃ ds, d = .tuple ds := by
  cases d <;> first | exact ⟨_, rfl⟩ | (revert h; simp [isB, tyN])
theorem isTup_tup (ds : List D) : isB (tyN (.tuple ds)) "tuple" = true := by
  show isB "tuple" "tuple" = true
  decide
theorem isTup_no {d : D} (h : ¬ isB (tyN d) "tuple" = true) (ds : List D) : d ≠ .tuple ds := fun e => h (by rw [e]; exact isTup_tup ds)
theorem isInt_intB (d : D) : (isB (tyN d) "int" && !isB (tyN d) "bool") = intB d := by
  cases d <;> simp [isB, tyN, intB]
theorem r_is_integer : ∀ ss (Q : D → Prop), S_is_integer ss Q → g_is_integer (endsOf Q) (initE N_is_integer ss) := by
  rintro ss Q ⟨d, rfl, _, hq⟩
  have hq : Q (.bool (intB d)) := hq
  rw [← isInt_intB] at hq
  simp only [N_is_integer, initE, List.length_cons, List.length_nil, Nat.reduceAdd, Nat.reduceSub, List.replicate, List.cons_append, List.nil_append, List.append_nil]
  simp only [g_is_integer, fSeqS, fSet, fSetN, fRet, fIfS, fNext, fBreak, fCont, fNever, fBin, fCmp, fV, fN, fC, lk, lk_z, lk_s, gAdd, gSub, gMul, gDiv, gMod, gPow, gShl, gShlW, gShr, gv, gLt, gLe, gGt, gGe, gEq, gNe, gIx, fNeg, fTV, fNot, fAnd, fOr, fAndV, fOrV, fNotV, fIf, fLN, fLC, fAN, fAC, fAB, fNV, fTup, fCB, bInt, bAbs, bLen, bMax2, bMin2, bTuple, fSeq, seqOf, fCall, fCallK, fAsg, gNm, gsNil, gsCons, gTpl, gSq, fPar, fMV, fMN, setAll, fApp, fExt, fSetIx, fFrz, fForS, fRng1, fRng2, fBits, fON, fOS, fSlT, fSlL, List.set_cons_zero, List.set_cons_succ, List.length_cons, List.length_nil, endsOf, decide_eq_true_eq, true_and, and_true, at0, at1, at2, at3, at4, Bool.not_eq_true', decide_eq_false_iff_not, lg2, Int.reduceLT, ↓reduceIte, fIsI]
  generalize isB (tyN d) "int" = x at hq ⊢
  generalize isB (tyN d) "bool" = y at hq ⊢
  cases x <;> cases y <;> exact hq
theorem go_is_integer {d : D} {Q : D → Prop} (hq : Q (.bool (intB d))) : S_is_integer [.sh d] Q := ⟨d, rfl, trivial, hq⟩
theorem r_is_whole : ∀ ss (Q : D → Prop), S_is_whole ss Q → g_is_whole (endsOf Q) (initE N_is_whole ss) := by
  rintro ss Q ⟨⟨d, lo, hi⟩, rfl, _, hq⟩
  have hq : Q (.bool (whB lo hi d)) := hq
  simp only [N_is_whole, initE, List.length_cons, List.length_nil, Nat.reduceAdd, Nat.reduceSub, List.replicate, List.cons_append, List.nil_append, List.append_nil]
  simp only [g_is_whole, fSeqS, fSet, fSetN, fRet, fIfS, fNext, fBreak, fCont, fNever, fBin, fCmp, fV, fN, fC, lk, lk_z, lk_s, gAdd, gSub, gMul, gDiv, gMod, gPow, gShl, gShlW, gShr, gv, gLt, gLe, gGt, gGe, gEq, gNe, gIx, fNeg, fTV, fNot, fAnd, fOr, fAndV, fOrV, fNotV, fIf, fLN, fLC, fAN, fAC, fAB, fNV, fTup, fCB, bInt, bAbs, bLen, bMax2, bMin2, bTuple, fSeq, seqOf, fCall, fCallK, fAsg, gNm, gsNil, gsCons, gTpl, gSq, fPar, fMV, fMN, setAll, fApp, fExt, fSetIx, fFrz, fForS, fRng1, fRng2, fBits, fON, fOS, fSlT, fSlL, List.set_cons_zero, List.set_cons_succ, List.length_cons, List.length_nil, endsOf, decide_eq_true_eq, true_and, and_true, at0, at1, at2, at3, at4, Bool.not_eq_true', decide_eq_false_iff_not, lg2, Int.reduceLT, ↓reduceIte]
  refine go_is_integer ?_
  cases d with
  | int i =>
    rw [show intB (.int i) = true from rfl]
    simp only [fSeqS, fSet, fSetN, fRet, fIfS, fNext, fBreak, fCont, fNever, fBin, fCmp, fV, fN, fC, lk, lk_z, lk_s, gAdd, gSub, gMul, gDiv, gMod, gPow, gShl, gShlW, gShr, gv, gLt, gLe, gGt, gGe, gEq, gNe, gIx, fNeg, fTV, fNot, fAnd, fOr, fAndV, fOrV, fNotV, fIf, fLN, fLC, fAN, fAC, fAB, fNV, fTup, fCB, bInt, bAbs, bLen, bMax2, bMin2, bTuple, fSeq, seqOf, fCall, fCallK, fAsg, gNm, gsNil, gsCons, gTpl, gSq, fPar, fMV, fMN, setAll, fApp, fExt, fSetIx, fFrz, fForS, fRng1, fRng2, fBits, fON, fOS, fSlT, fSlL, List.set_cons_zero, List.set_cons_succ, List.length_cons, List.length_nil, endsOf, decide_eq_true_eq, true_and, and_true, at0, at1, at2, at3, at4, Bool.not_eq_true', decide_eq_false_iff_not, lg2, Int.reduceLT, ↓reduceIte, fChain]
    have hb : whB lo hi (.int i) = (decide (lo ≤ i) && decide (i ≤ hi)) := rfl
    rw [hb] at hq
    split
    · rename_i p
      rw [decide_eq_true p, Bool.true_and] at hq
      exact hq
    · rename_i p
      rw [decide_eq_false p, Bool.false_and] at hq
      exact hq
  | _ => exact hq
theorem go_is_whole {d : D} {lo hi : Int} {Q : D → Prop} (hq : Q (.bool (whB lo hi d))) : S_is_whole [.sh d, iS lo, iS hi] Q := ⟨(d, lo, hi), rfl, trivial, hq⟩
def twoB (m : Nat) : D → Bool | .tuple ds => decide (ds.length = m) | _ => false
theorem r_is_tuple : ∀ ss (Q : D → Prop), S_is_tuple ss Q → g_is_tuple (endsOf Q) (initE N_is_tuple ss) := by
  rintro ss Q ⟨⟨d, m⟩, rfl, _, hq⟩
  have hq : Q (.bool (twoB m d)) := hq
  simp only [N_is_tuple, initE, List.length_cons, List.length_nil, Nat.reduceAdd, Nat.reduceSub, List.replicate, List.cons_append, List.nil_append, List.append_nil]
  simp only [g_is_tuple, fSeqS, fSet, fSetN, fRet, fIfS, fNext, fBreak, fCont, fNever, fBin, fCmp, fV, fN, fC, lk, lk_z, lk_s, gAdd, gSub, gMul, gDiv, gMod, gPow, gShl, gShlW, gShr, gv, gLt, gLe, gGt, gGe, gEq, gNe, gIx, fNeg, fTV, fNot, fAnd, fOr, fAndV, fOrV, fNotV, fIf, fLN, fLC, fAN, fAC, fAB, fNV, fTup, fCB, bInt, bAbs, bLen, bMax2, bMin2, bTuple, fSeq, seqOf, fCall, fCallK, fAsg, gNm, gsNil, gsCons, gTpl, gSq, fPar, fMV, fMN, setAll, fApp, fExt, fSetIx, fFrz, fForS, fRng1, fRng2, fBits, fON, fOS, fSlT, fSlL, List.set_cons_zero, List.set_cons_succ, List.length_cons, List.length_nil, endsOf, decide_eq_true_eq, true_and, and_true, at0, at1, at2, at3, at4, Bool.not_eq_true', decide_eq_false_iff_not, lg2, Int.reduceLT, ↓reduceIte, fIsI]
  by_cases h : isB (tyN d) "tuple" = true
  · obtain ⟨ds, rfl⟩ := isTup_of h
    rw [h]
    simp only [fSeqS, fSet, fSetN, fRet, fIfS, fNext, fBreak, fCont, fNever, fBin, fCmp, fV, fN, fC, lk, lk_z, lk_s, gAdd, gSub, gMul, gDiv, gMod, gPow, gShl, gShlW, gShr, gv, gLt, gLe, gGt, gGe, gEq, gNe, gIx, fNeg, fTV, fNot, fAnd, fOr, fAndV, fOrV, fNotV, fIf, fLN, fLC, fAN, fAC, fAB, fNV, fTup, fCB, bInt, bAbs, bLen, bMax2, bMin2, bTuple, fSeq, seqOf, fCall, fCallK, fAsg, gNm, gsNil, gsCons, gTpl, gSq, fPar, fMV, fMN, setAll, fApp, fExt, fSetIx, fFrz, fForS, fRng1, fRng2, fBits, fON, fOS, fSlT, fSlL, List.set_cons_zero, List.set_cons_succ, List.length_cons, List.length_nil, endsOf, decide_eq_true_eq, true_and, and_true, at0, at1, at2, at3, at4, Bool.not_eq_true', decide_eq_false_iff_not, lg2, Int.reduceLT, ↓reduceIte]
    have e : twoB m (.tuple ds) = decide (((ds.length : Nat) : Int) = (m : Int)) := by
      unfold twoB
      by_cases q : ds.length = m <;> simp [q]
      omega
    rw [e] at hq
    exact hq
  · have hf : twoB m d = false := by
      cases d <;> first | rfl | exact absurd rfl (isTup_no h _)
    rw [hf] at hq
    have h : isB (tyN d) "tuple" = false := by simpa using h
    rw [h]
    exact hq
theorem go_is_tuple {d : D} {m : Nat} {Q : D → Prop} (hq : Q (.bool (twoB m d))) : S_is_tuple [.sh d, iS (m : Int)] Q := ⟨(d, m), rfl, trivial, hq⟩
theorem all_bools (bs : List Bool) : blsOf (.list (bs.map PyData.bool)) = some bs := asBls_map bs
theorem r_is_any_word : ∀ ss (Q : D → Prop), S_is_any_word ss Q → g_is_any_word (endsOf Q) (initE N_is_any_word ss) := by
  rintro ss Q ⟨d, rfl, hl, hq⟩
  have hl : ∀ es, d = .tuple es → es.length ≤ 3000 := hl
  have hq : Q (.bool (wordB d)) := hq
  simp only [N_is_any_word, initE, List.length_cons, List.length_nil, Nat.reduceAdd, Nat.reduceSub, List.replicate, List.cons_append, List.nil_append, List.append_nil]
  simp only [g_is_any_word, fSeqS, fSet, fSetN, fRet, fIfS, fNext, fBreak, fCont, fNever, fBin, fCmp, fV, fN, fC, lk, lk_z, lk_s, gAdd, gSub, gMul, gDiv, gMod, gPow, gShl, gShlW, gShr, gv, gLt, gLe, gGt, gGe, gEq, gNe, gIx, fNeg, fTV, fNot, fAnd, fOr, fAndV, fOrV, fNotV, fIf, fLN, fLC, fAN, fAC, fAB, fNV, fTup, fCB, bInt, bAbs, bLen, bMax2, bMin2, bTuple, fSeq, seqOf, fCall, fCallK, fAsg, gNm, gsNil, gsCons, gTpl, gSq, fPar, fMV, fMN, setAll, fApp, fExt, fSetIx, fFrz, fForS, fRng1, fRng2, fBits, fON, fOS, fSlT, fSlL, List.set_cons_zero, List.set_cons_succ, List.length_cons, List.length_nil, endsOf, decide_eq_true_eq, true_and, and_true, at0, at1, at2, at3, at4, Bool.not_eq_true', decide_eq_false_iff_not, lg2, Int.reduceLT, ↓reduceIte, fIsI]
  by_cases h : isB (tyN d) "tuple" = true
  · obtain ⟨ds, rfl⟩ := isTup_of h
    have hl := hl ds rfl
    rw [h]
    simp only [fSeqS, fSet, fSetN, fRet, fIfS, fNext, fBreak, fCont, fNever, fBin, fCmp, fV, fN, fC, lk, lk_z, lk_s, gAdd, gSub, gMul, gDiv, gMod, gPow, gShl, gShlW, gShr, gv, gLt, gLe, gGt, gGe, gEq, gNe, gIx, fNeg, fTV, fNot, fAnd, fOr, fAndV, fOrV, fNotV, fIf, fLN, fLC, fAN, fAC, fAB, fNV, fTup, fCB, bInt, bAbs, bLen, bMax2, bMin2, bTuple, fSeq, seqOf, fCall, fCallK, fAsg, gNm, gsNil, gsCons, gTpl, gSq, fPar, fMV, fMN, setAll, fApp, fExt, fSetIx, fFrz, fForS, fRng1, fRng2, fBits, fON, fOS, fSlT, fSlL, List.set_cons_zero, List.set_cons_succ, List.length_cons, List.length_nil, endsOf, decide_eq_true_eq, true_and, and_true, at0, at1, at2, at3, at4, Bool.not_eq_true', decide_eq_false_iff_not, lg2, Int.reduceLT, ↓reduceIte, fLc, wipeE]
    refine ⟨by unfold most; omega, ?_⟩
    have e : ds = ds.map id := by simp
    rw [e]
    refine lc_map (F := fun d => PyData.bool (whB 0 1 d)) ds (fun x _ K hK => ?_) _ ?_
    · simp only [fSeqS, fSet, fSetN, fRet, fIfS, fNext, fBreak, fCont, fNever, fBin, fCmp, fV, fN, fC, lk, lk_z, lk_s, gAdd, gSub, gMul, gDiv, gMod, gPow, gShl, gShlW, gShr, gv, gLt, gLe, gGt, gGe, gEq, gNe, gIx, fNeg, fTV, fNot, fAnd, fOr, fAndV, fOrV, fNotV, fIf, fLN, fLC, fAN, fAC, fAB, fNV, fTup, fCB, bInt, bAbs, bLen, bMax2, bMin2, bTuple, fSeq, seqOf, fCall, fCallK, fAsg, gNm, gsNil, gsCons, gTpl, gSq, fPar, fMV, fMN, setAll, fApp, fExt, fSetIx, fFrz, fForS, fRng1, fRng2, fBits, fON, fOS, fSlT, fSlL, List.set_cons_zero, List.set_cons_succ, List.length_cons, List.length_nil, endsOf, decide_eq_true_eq, true_and, and_true, at0, at1, at2, at3, at4, Bool.not_eq_true', decide_eq_false_iff_not, lg2, Int.reduceLT, ↓reduceIte]
      exact go_is_whole hK
    · have e2 : (ds.map fun d => PyData.bool (whB 0 1 d)) = (ds.map (whB 0 1)).map PyData.bool := by rw [List.map_map]; rfl
      rw [e2]
      unfold bAll
      simp only [all_bools]
      have e3 : (ds.map (whB 0 1)).all id = wordB (.tuple ds) := by
        show _ = ds.all (whB 0 1)
        rw [List.all_map]
        rfl
      rw [e3]
      exact hq
  · have hf : wordB d = false := by
      cases d <;> first | rfl | exact absurd rfl (isTup_no h _)
    rw [hf] at hq
    have h : isB (tyN d) "tuple" = false := by simpa using h
    rw [h]
    exact hq
theorem go_is_any_word {d : D} {Q : D → Prop} (hl : ∀ es, d = .tuple es → es.length ≤ 3000) (hq : Q (.bool (wordB d))) : S_is_any_word [.sh d] Q := ⟨d, rfl, hl, hq⟩
theorem wordB_tup {d : D} (h : wordB d = true) : ∃ es, d = .tuple es := by
  cases d <;> first | exact ⟨_, rfl⟩ | cases h
theorem imgB_ne {d : D} (h : ¬ wordB d = true) : imgB d = false := by
  unfold imgB
  rw [show wordB d = false by simpa using h, Bool.false_and]
theorem ifb {b : Bool} {A B : Prop} (h : if b = true then A else B) (e : b = true) : A := by rw [if_pos e] at h; exact h
theorem ifp {p : Prop} [Decidable p] {A B : Prop} (h : p) (k : A) : if p then A else B := by rw [if_pos h]; exact k
theorem ifn {p : Prop} [Decidable p] {A B : Prop} (h : ¬ p) (k : B) : if p then A else B := by rw [if_neg h]; exact k
theorem r_change_error : ∀ ss (Q : D → Prop), S_change_error ss Q → g_change_error (endsOf Q) (initE N_change_error ss) := by
  rintro ss Q ⟨d, rfl, hl, hq⟩
  have hl : ∀ ds, d = .tuple ds → ∀ e ∈ ds, ∀ es, e = .tuple es → es.length ≤ 3000 := hl
  have hq : Q (errF d) := hq
  simp only [N_change_error, initE, List.length_cons, List.length_nil, Nat.reduceAdd, Nat.reduceSub, List.replicate, List.cons_append, List.nil_append, List.append_nil]
  unfold g_change_error
  refine seq_go ?_
  simp only [fSeqS, fSet, fSetN, fRet, fIfS, fNext, fBreak, fCont, fNever, fBin, fCmp, fV, fN, fC, lk, lk_z, lk_s, gAdd, gSub, gMul, gDiv, gMod, gPow, gShl, gShlW, gShr, gv, gLt, gLe, gGt, gGe, gEq, gNe, gIx, fNeg, fTV, fNot, fAnd, fOr, fAndV, fOrV, fNotV, fIf, fLN, fLC, fAN, fAC, fAB, fNV, fTup, fCB, bInt, bAbs, bLen, bMax2, bMin2, bTuple, fSeq, seqOf, fCall, fCallK, fAsg, gNm, gsNil, gsCons, gTpl, gSq, fPar, fMV, fMN, setAll, fApp, fExt, fSetIx, fFrz, fForS, fRng1, fRng2, fBits, fON, fOS, fSlT, fSlL, List.set_cons_zero, List.set_cons_succ, List.length_cons, List.length_nil, endsOf, decide_eq_true_eq, true_and, and_true, at0, at1, at2, at3, at4, Bool.not_eq_true', decide_eq_false_iff_not, lg2, Int.reduceLT, ↓reduceIte]
  refine go_is_tuple (m := 2) ?_
  by_cases h : twoB 2 d = true
  · rw [h]
    simp only [fSeqS, fSet, fSetN, fRet, fIfS, fNext, fBreak, fCont, fNever, fBin, fCmp, fV, fN, fC, lk, lk_z, lk_s, gAdd, gSub, gMul, gDiv, gMod, gPow, gShl, gShlW, gShr, gv, gLt, gLe, gGt, gGe, gEq, gNe, gIx, fNeg, fTV, fNot, fAnd, fOr, fAndV, fOrV, fNotV, fIf, fLN, fLC, fAN, fAC, fAB, fNV, fTup, fCB, bInt, bAbs, bLen, bMax2, bMin2, bTuple, fSeq, seqOf, fCall, fCallK, fAsg, gNm, gsNil, gsCons, gTpl, gSq, fPar, fMV, fMN, setAll, fApp, fExt, fSetIx, fFrz, fForS, fRng1, fRng2, fBits, fON, fOS, fSlT, fSlL, List.set_cons_zero, List.set_cons_succ, List.length_cons, List.length_nil, endsOf, decide_eq_true_eq, true_and, and_true, at0, at1, at2, at3, at4, Bool.not_eq_true', decide_eq_false_iff_not, lg2, Int.reduceLT, ↓reduceIte]
    obtain ⟨a, b, rfl⟩ : ∃ a b, d = .tuple [a, b] := by
      cases d with
      | tuple ds =>
        have h2 : ds.length = 2 := of_decide_eq_true h
        match ds, h2 with
        | [a, b], _ => exact ⟨a, b, rfl⟩
      | _ => cases h
    have ha := hl _ rfl a (by simp)
    have hb := hl _ rfl b (by simp)
    have one : ∀ (x : D) (s0 s1 s2 : Sl) (_ : ∀ es, x = .tuple es → es.length ≤ 3000) (K : Bool → Prop), K (!imgB x) → (fOr (fNot (fTV (fCall S_is_any_word (fAC (fV 3) fAN)))) (fNot (fChain gLe gLe (fC (.int 1)) (fCB bLen (fLC (fN 3) fLN)) (fC (.int 60))))) [s0, s1, s2, .sh x] K := by
      intro x s0 s1 s2 hx K hK
      simp only [fSeqS, fSet, fSetN, fRet, fIfS, fNext, fBreak, fCont, fNever, fBin, fCmp, fV, fN, fC, lk, lk_z, lk_s, gAdd, gSub, gMul, gDiv, gMod, gPow, gShl, gShlW, gShr, gv, gLt, gLe, gGt, gGe, gEq, gNe, gIx, fNeg, fTV, fNot, fAnd, fOr, fAndV, fOrV, fNotV, fIf, fLN, fLC, fAN, fAC, fAB, fNV, fTup, fCB, bInt, bAbs, bLen, bMax2, bMin2, bTuple, fSeq, seqOf, fCall, fCallK, fAsg, gNm, gsNil, gsCons, gTpl, gSq, fPar, fMV, fMN, setAll, fApp, fExt, fSetIx, fFrz, fForS, fRng1, fRng2, fBits, fON, fOS, fSlT, fSlL, List.set_cons_zero, List.set_cons_succ, List.length_cons, List.length_nil, endsOf, decide_eq_true_eq, true_and, and_true, at0, at1, at2, at3, at4, Bool.not_eq_true', decide_eq_false_iff_not, lg2, Int.reduceLT, ↓reduceIte]
      refine go_is_any_word hx ?_
      by_cases hw : wordB x = true
      · obtain ⟨es, rfl⟩ := wordB_tup hw
        rw [hw]
        simp only [fSeqS, fSet, fSetN, fRet, fIfS, fNext, fBreak, fCont, fNever, fBin, fCmp, fV, fN, fC, lk, lk_z, lk_s, gAdd, gSub, gMul, gDiv, gMod, gPow, gShl, gShlW, gShr, gv, gLt, gLe, gGt, gGe, gEq, gNe, gIx, fNeg, fTV, fNot, fAnd, fOr, fAndV, fOrV, fNotV, fIf, fLN, fLC, fAN, fAC, fAB, fNV, fTup, fCB, bInt, bAbs, bLen, bMax2, bMin2, bTuple, fSeq, seqOf, fCall, fCallK, fAsg, gNm, gsNil, gsCons, gTpl, gSq, fPar, fMV, fMN, setAll, fApp, fExt, fSetIx, fFrz, fForS, fRng1, fRng2, fBits, fON, fOS, fSlT, fSlL, List.set_cons_zero, List.set_cons_succ, List.length_cons, List.length_nil, endsOf, decide_eq_true_eq, true_and, and_true, at0, at1, at2, at3, at4, Bool.not_eq_true', decide_eq_false_iff_not, lg2, Int.reduceLT, ↓reduceIte, fChain]
        have e : imgB (.tuple es) = (decide ((1 : Int) ≤ (es.length : Int)) && decide ((es.length : Int) ≤ 60)) := by
          unfold imgB lenD
          rw [hw, Bool.true_and]
          congr 1
          · by_cases q : 1 ≤ es.length <;> simp [q] <;> omega
          · by_cases q : es.length ≤ 60 <;> simp [q] <;> omega
        rw [e] at hK
        rw [if_neg (by decide)]
        by_cases p : (1 : Int) ≤ (es.length : Int)
        · rw [decide_eq_true p, Bool.true_and] at hK
          rw [if_pos p]
          exact hK
        · rw [decide_eq_false p, Bool.false_and] at hK
          rw [if_neg p]
          exact hK
      · rw [imgB_ne hw] at hK
        rw [show wordB x = false by simpa using hw]
        simp only [fSeqS, fSet, fSetN, fRet, fIfS, fNext, fBreak, fCont, fNever, fBin, fCmp, fV, fN, fC, lk, lk_z, lk_s, gAdd, gSub, gMul, gDiv, gMod, gPow, gShl, gShlW, gShr, gv, gLt, gLe, gGt, gGe, gEq, gNe, gIx, fNeg, fTV, fNot, fAnd, fOr, fAndV, fOrV, fNotV, fIf, fLN, fLC, fAN, fAC, fAB, fNV, fTup, fCB, bInt, bAbs, bLen, bMax2, bMin2, bTuple, fSeq, seqOf, fCall, fCallK, fAsg, gNm, gsNil, gsCons, gTpl, gSq, fPar, fMV, fMN, setAll, fApp, fExt, fSetIx, fFrz, fForS, fRng1, fRng2, fBits, fON, fOS, fSlT, fSlL, List.set_cons_zero, List.set_cons_succ, List.length_cons, List.length_nil, endsOf, decide_eq_true_eq, true_and, and_true, at0, at1, at2, at3, at4, Bool.not_eq_true', decide_eq_false_iff_not, lg2, Int.reduceLT, ↓reduceIte]
        exact hK
    have e : errF (.tuple [a, b]) = if imgB a = true then (if imgB b = true then .none else .tuple [.str "image", .int 1]) else .tuple [.str "image", .int 0] := rfl
    rw [e] at hq
    unfold fLc
    simp only [fEnumT, wipeE, List.set_cons_zero, List.set_cons_succ, fSeqS, fSetN, fV, lk_z, lk_s, lk]
    refine ⟨by rw [enumD_len]; unfold most; simp, ?_⟩
    simp only [enumD, lcRun, gSq, gsCons, gNm, gsNil, seqOf, List.length_cons, List.length_nil, true_and, List.set_cons_zero, List.set_cons_succ]
    refine one a _ _ _ ha _ ?_
    by_cases ia : imgB a = true
    · rw [if_pos ia] at hq
      rw [ia, if_neg (by decide)]
      refine one b _ _ _ hb _ ?_
      by_cases ib : imgB b = true
      · rw [if_pos ib] at hq
        rw [ib, if_neg (by decide)]
        refine ⟨rfl, rfl, ?_⟩
        refine ifn (by decide) ?_
        exact hq
      · rw [if_neg ib] at hq
        rw [show imgB b = false by simpa using ib, if_pos (by decide)]
        refine ⟨rfl, rfl, ?_⟩
        refine ifp (by first | rfl | decide) ?_
        exact hq
    · rw [if_neg ia] at hq
      rw [show imgB a = false by simpa using ia, if_pos (by decide)]
      refine one b _ _ _ hb _ ?_
      by_cases ib : imgB b = true
      · rw [ib, if_neg (by decide)]
        refine ⟨rfl, rfl, ?_⟩
        refine ifp (by first | rfl | decide) ?_
        exact hq
      · rw [show imgB b = false by simpa using ib, if_pos (by decide)]
        refine ⟨rfl, rfl, ?_⟩
        refine ifp (by first | rfl | decide) ?_
        exact hq
  · rw [show twoB 2 d = false by simpa using h]
    simp only [fSeqS, fSet, fSetN, fRet, fIfS, fNext, fBreak, fCont, fNever, fBin, fCmp, fV, fN, fC, lk, lk_z, lk_s, gAdd, gSub, gMul, gDiv, gMod, gPow, gShl, gShlW, gShr, gv, gLt, gLe, gGt, gGe, gEq, gNe, gIx, fNeg, fTV, fNot, fAnd, fOr, fAndV, fOrV, fNotV, fIf, fLN, fLC, fAN, fAC, fAB, fNV, fTup, fCB, bInt, bAbs, bLen, bMax2, bMin2, bTuple, fSeq, seqOf, fCall, fCallK, fAsg, gNm, gsNil, gsCons, gTpl, gSq, fPar, fMV, fMN, setAll, fApp, fExt, fSetIx, fFrz, fForS, fRng1, fRng2, fBits, fON, fOS, fSlT, fSlL, List.set_cons_zero, List.set_cons_succ, List.length_cons, List.length_nil, endsOf, decide_eq_true_eq, true_and, and_true, at0, at1, at2, at3, at4, Bool.not_eq_true', decide_eq_false_iff_not, lg2, Int.reduceLT, ↓reduceIte]
    have e : errF d = .str "form" := by
      cases d with
      | tuple ds =>
        match ds with
        | [] => rfl
        | [_] => rfl
        | [_, _] => exact absurd rfl h
        | _ :: _ :: _ :: _ => rfl
      | _ => rfl
    rw [e] at hq
    exact hq
end T
end DL
namespace DL
namespace T
open PySem L2 PySem.Spec PyProof.Rows
local macro_rules
  | `(tactic| get_elem_tactic_extensible) => `(tactic| (repeat (first | with_reducible refine Go.lc_go ?_ | with_reducible refine Go.ln_go ?_ | ((with_reducible apply Go.v_sh); exact rfl) | ((with_reducible apply Go.n_sh); exact rfl) | ((with_reducible apply Go.n_ow); exact rfl) | ((with_reducible apply Go.ab_go); exact rfl) | ((with_reducible apply Go.app_go); exact rfl) | ((with_reducible apply Go.ext_go); exact rfl) | with_reducible refine Go.c_go ?_ | with_reducible refine Go.tup_go ?_ | with_reducible refine Go.nv_go ?_ | with_reducible refine Go.bin_go ?_ | with_reducible refine Go.slT_go ?_ | with_reducible refine Go.slL_go ?_ | with_reducible refine Go.on_go ?_ | with_reducible refine Go.os_go ?_ | with_reducible refine Go.neg_go ?_ | with_reducible refine Go.sub_go ?_ | with_reducible refine Go.addI_go ?_ | with_reducible refine Go.seqT_go ?_ | with_reducible refine Go.call_go ?_ | with_reducible refine Go.callK_go ?_ | with_reducible refine Go.cb_go ?_ | with_reducible refine Go.dict1_go ?_ | with_reducible refine Go.if_go ?_ | with_reducible refine Go.an_go ?_ | with_reducible refine Go.ac_go ?_ | with_reducible refine Go.mv_go ?_ | with_reducible refine Go.par_go ?_ | with_reducible refine Go.sq_go ?_ | with_reducible refine Go.set_go ?_ | with_reducible refine Go.setN_go ?_ | with_reducible refine Go.ret_go ?_ | with_reducible refine Go.asg_go ?_ | with_reducible refine Go.ifs_go ?_ | with_reducible refine Go.next_go ?_ | with_reducible refine Go.nm_go ?_ | with_reducible refine Go.cmp_go ?_ | with_reducible refine Go.tv_go ?_ | with_reducible refine Go.not_go ?_ | with_reducible refine Go.and_go ?_ | with_reducible refine Go.or_go ?_ | with_reducible refine Go.lenT_go ?_ | with_reducible refine Go.lenL_go ?_ | with_reducible refine Go.absI_go ?_ | with_reducible refine Go.intI_go ?_ | with_reducible refine Go.max2_go ?_ | with_reducible refine Go.min2_go ?_ | with_reducible refine Go.tupL_go ?_ | with_reducible refine Go.tupT_go ?_ | with_reducible refine Go.gv_go ?_ | with_reducible refine Go.ltI_go ?_ | with_reducible refine Go.leI_go ?_ | with_reducible refine Go.gtI_go ?_ | with_reducible refine Go.geI_go ?_ | with_reducible refine Go.eqI_go ?_ | with_reducible refine Go.neI_go ?_ | with_reducible refine Go.eqS_go ?_ | with_reducible refine Go.rng1_go ?_ | ((first | with_reducible apply Go.ixL_go | with_reducible apply Go.ixT_go); first | exact DL.at0 _ _ | exact DL.at1 _ _ _ | exact DL.at2 _ _ _ _ | exact DL.at3 _ _ _ _ _ | exact DL.at4 _ _ _ _ _ _) | ((with_reducible apply Go.frz_go); exact rfl) | ((with_reducible apply Go.frz_sh); exact rfl) | with_reducible refine Go.mn_go ?_ | with_reducible refine Go.andV_go ?_ | ((first | with_reducible apply Go.sqT_go | with_reducible apply Go.sqL_go); exact rfl) | with_reducible refine Go.gsC_go ?_ | with_reducible refine Go.gsN_go ?_ | with_reducible refine Go.ifT (by decide +kernel) ?_ | with_reducible refine Go.ifF (by decide +kernel) ?_ | with_reducible refine Go.cat_go ?_ | with_reducible refine Go.callO_go ?_ | ((with_reducible apply Go.retO_go); exact rfl) | with_reducible refine Go.retN_go ?_ | with_reducible refine Go.ifN_go ?_ | with_reducible refine Go.yes_go ?_ | with_reducible refine Go.isI_go ?_ | with_reducible refine Go.isB_go ?_ | with_reducible refine Go.isN_go ?_ | with_reducible refine Go.notN_go ?_ | with_reducible refine Go.lrev_go ?_ | with_reducible refine Go.bk_go ?_ | with_reducible refine Go.ct_go ?_ | with_reducible refine Go.rng2_go ?_ | with_reducible refine Go.orV_go ?_ | with_reducible refine Go.notV_go ?_ | ((with_reducible apply Go.extT_go); exact rfl) | with_reducible refine Go.isI2_go ?_ | with_reducible refine Go.dict2_go ?_ | with_reducible refine Go.callE_go ?_ | with_reducible refine Go.callEK_go ?_ | with_reducible refine Go.raise0_go ?_ | with_reducible refine Go.raise1_go ?_ | ((with_reducible apply Go.is1_go); exact rfl) | ((with_reducible apply Go.isT_go); exact rfl) | ((with_reducible apply Go.fld_go); exact rfl) | ((with_reducible apply Go.setIx_go); exact rfl) | unfold fForS | unfold fLc | dsimp only [seqOf, List.set_cons_zero, List.set_cons_succ, setAll, wipeE])))
/-! ### what words become -/
theorem sum_le : ∀ {w : Wo}, Bw w → 0 ≤ w.sum ∧ w.sum ≤ (w.length : Int)
  | [], _ => by simp
  | x :: w, h => by
    have := sum_le (w := w) fun y hy => h y (List.mem_cons_of_mem _ hy)
    have := h x List.mem_cons_self
    rw [List.sum_cons, List.length_cons]
    omega
theorem siz_cons (c : Ch) {x : Int} (w : Wo) (h : x = 0 ∨ x = 1) : siz c (x :: w) = ((im c x).length : Int) + siz c w := by
  unfold siz im
  rw [List.sum_cons, List.length_cons]
  rcases h with rfl | rfl
  · rw [if_neg (by decide)]
    push_cast
    grind
  · rw [if_pos rfl]
    push_cast
    grind
theorem put_nil (c : Ch) : put c [] = [] := rfl
theorem put_cons (c : Ch) (x : Int) (w : Wo) : put c (x :: w) = im c x ++ put c w := by
  unfold put
  rw [List.flatMap_cons]
theorem put_app (c : Ch) (v w : Wo) : put c (v ++ w) = put c v ++ put c w := by
  unfold put
  rw [List.flatMap_append]
theorem put_len (c : Ch) : ∀ {w : Wo}, Bw w → ((put c w).length : Int) = siz c w
  | [], _ => by simp [put, siz]
  | x :: w, h => by
    rw [put_cons, siz_cons c w (h x List.mem_cons_self), List.length_append, ← put_len c fun y hy => h y (List.mem_cons_of_mem _ hy)]
    push_cast
    rfl
theorem Bw.app {v w : Wo} (h : Bw v) (k : Bw w) : Bw (v ++ w) := fun x hx => by
  rcases List.mem_append.mp hx with hx | hx
  · exact h x hx
  · exact k x hx
theorem bw_im {c : Ch} (h : Cv c) (x : Int) : Bw (im c x) := by
  unfold im
  split
  · exact h.b.b
  · exact h.a.b
theorem put_bw {c : Ch} (h : Cv c) : ∀ w : Wo, Bw (put c w)
  | [] => fun x hx => nomatch hx
  | x :: w => by
    rw [put_cons]
    exact (bw_im h x).app (put_bw h w)
theorem put_wv {c : Ch} {w : Wo} (h : Cv c) (k : Bw w) (hs : siz c w ≤ 2000) : Wv (put c w) := ⟨put_bw h w, by have := put_len c k; omega⟩
theorem sum_app (v w : Wo) : (v ++ w).sum = v.sum + w.sum := by
  induction v with
  | nil => simp
  | cons x v ih => rw [List.cons_append, List.sum_cons, List.sum_cons, ih]; omega
/-- how many 1 -/
theorem put_sum (c : Ch) : ∀ {w : Wo}, Bw w → (put c w).sum = w.sum * c.2.sum + ((w.length : Int) - w.sum) * c.1.sum
  | [], _ => by simp [put]
  | x :: w, h => by
    rw [put_cons, sum_app, put_sum c (w := w) fun y hy => h y (List.mem_cons_of_mem _ hy), List.sum_cons, List.length_cons]
    unfold im
    rcases h x List.mem_cons_self with rfl | rfl
    · rw [if_neg (by decide)]
      push_cast
      grind
    · rw [if_pos rfl]
      push_cast
      grind
theorem tb_put {c o : Ch} (h : Cv c) : tb (put o c.1, put o c.2) = t4M (tb c) (tb o) := by
  have l1 := put_len o h.a.b
  have l2 := put_len o h.b.b
  have s1 := put_sum o h.a.b
  have s2 := put_sum o h.b.b
  unfold tb t4M
  dsimp only
  rw [l1, l2, s1, s2]
  unfold siz
  refine Prod.ext ?_ (Prod.ext ?_ (Prod.ext ?_ ?_)) <;> dsimp only <;> grind
/-- a word through both -/
theorem put_put (c o : Ch) (w : Wo) : put (put o c.1, put o c.2) w = put o (put c w) := by
  induction w with
  | nil => rfl
  | cons x w ih =>
    rw [put_cons, put_cons, put_app, ih]
    congr 1
    unfold im
    split <;> rfl
theorem put_same {w : Wo} (h : Bw w) : put ([0], [1]) w = w := by
  induction w with
  | nil => rfl
  | cons x w ih =>
    rw [put_cons, ih fun y hy => h y (List.mem_cons_of_mem _ hy)]
    unfold im
    rcases h x List.mem_cons_self with rfl | rfl
    · rw [if_neg (by decide)]; rfl
    · rw [if_pos rfl]; rfl
end T
end DL
namespace DL
namespace T
open PySem L2 PySem.Spec PyProof.Rows
local macro_rules
  | `(tactic| get_elem_tactic_extensible) => `(tactic| (repeat (first | with_reducible refine Go.lc_go ?_ | with_reducible refine Go.ln_go ?_ | ((with_reducible apply Go.v_sh); exact rfl) | ((with_reducible apply Go.n_sh); exact rfl) | ((with_reducible apply Go.n_ow); exact rfl) | ((with_reducible apply Go.ab_go); exact rfl) | ((with_reducible apply Go.app_go); exact rfl) | ((with_reducible apply Go.ext_go); exact rfl) | with_reducible refine Go.c_go ?_ | with_reducible refine Go.tup_go ?_ | with_reducible refine Go.nv_go ?_ | with_reducible refine Go.bin_go ?_ | with_reducible refine Go.slT_go ?_ | with_reducible refine Go.slL_go ?_ | with_reducible refine Go.on_go ?_ | with_reducible refine Go.os_go ?_ | with_reducible refine Go.neg_go ?_ | with_reducible refine Go.sub_go ?_ | with_reducible refine Go.addI_go ?_ | with_reducible refine Go.seqT_go ?_ | with_reducible refine Go.call_go ?_ | with_reducible refine Go.callK_go ?_ | with_reducible refine Go.cb_go ?_ | with_reducible refine Go.dict1_go ?_ | with_reducible refine Go.if_go ?_ | with_reducible refine Go.an_go ?_ | with_reducible refine Go.ac_go ?_ | with_reducible refine Go.mv_go ?_ | with_reducible refine Go.par_go ?_ | with_reducible refine Go.sq_go ?_ | with_reducible refine Go.set_go ?_ | with_reducible refine Go.setN_go ?_ | with_reducible refine Go.ret_go ?_ | with_reducible refine Go.asg_go ?_ | with_reducible refine Go.ifs_go ?_ | with_reducible refine Go.next_go ?_ | with_reducible refine Go.nm_go ?_ | with_reducible refine Go.cmp_go ?_ | with_reducible refine Go.tv_go ?_ | with_reducible refine Go.not_go ?_ | with_reducible refine Go.and_go ?_ | with_reducible refine Go.or_go ?_ | with_reducible refine Go.lenT_go ?_ | with_reducible refine Go.lenL_go ?_ | with_reducible refine Go.absI_go ?_ | with_reducible refine Go.intI_go ?_ | with_reducible refine Go.max2_go ?_ | with_reducible refine Go.min2_go ?_ | with_reducible refine Go.tupL_go ?_ | with_reducible refine Go.tupT_go ?_ | with_reducible refine Go.gv_go ?_ | with_reducible refine Go.ltI_go ?_ | with_reducible refine Go.leI_go ?_ | with_reducible refine Go.gtI_go ?_ | with_reducible refine Go.geI_go ?_ | with_reducible refine Go.eqI_go ?_ | with_reducible refine Go.neI_go ?_ | with_reducible refine Go.eqS_go ?_ | with_reducible refine Go.rng1_go ?_ | ((first | with_reducible apply Go.ixL_go | with_reducible apply Go.ixT_go); first | exact DL.at0 _ _ | exact DL.at1 _ _ _ | exact DL.at2 _ _ _ _ | exact DL.at3 _ _ _ _ _ | exact DL.at4 _ _ _ _ _ _) | ((with_reducible apply Go.frz_go); exact rfl) | ((with_reducible apply Go.frz_sh); exact rfl) | with_reducible refine Go.mn_go ?_ | with_reducible refine Go.andV_go ?_ | ((first | with_reducible apply Go.sqT_go | with_reducible apply Go.sqL_go); exact rfl) | with_reducible refine Go.gsC_go ?_ | with_reducible refine Go.gsN_go ?_ | with_reducible refine Go.ifT (by decide +kernel) ?_ | with_reducible refine Go.ifF (by decide +kernel) ?_ | with_reducible refine Go.cat_go ?_ | with_reducible refine Go.callO_go ?_ | ((with_reducible apply Go.retO_go); exact rfl) | with_reducible refine Go.retN_go ?_ | with_reducible refine Go.ifN_go ?_ | with_reducible refine Go.yes_go ?_ | with_reducible refine Go.isI_go ?_ | with_reducible refine Go.isB_go ?_ | with_reducible refine Go.isN_go ?_ | with_reducible refine Go.notN_go ?_ | with_reducible refine Go.lrev_go ?_ | with_reducible refine Go.bk_go ?_ | with_reducible refine Go.ct_go ?_ | with_reducible refine Go.rng2_go ?_ | with_reducible refine Go.orV_go ?_ | with_reducible refine Go.notV_go ?_ | ((with_reducible apply Go.extT_go); exact rfl) | with_reducible refine Go.isI2_go ?_ | with_reducible refine Go.dict2_go ?_ | with_reducible refine Go.callE_go ?_ | with_reducible refine Go.callEK_go ?_ | with_reducible refine Go.raise0_go ?_ | with_reducible refine Go.raise1_go ?_ | ((with_reducible apply Go.is1_go); exact rfl) | ((with_reducible apply Go.isT_go); exact rfl) | ((with_reducible apply Go.fld_go); exact rfl) | ((with_reducible apply Go.setIx_go); exact rfl) | unfold fForS | unfold fLc | dsimp only [seqOf, List.set_cons_zero, List.set_cons_succ, setAll, wipeE])))
theorem ix_im (c : Ch) {x : Int} (h : x = 0 ∨ x = 1) : atI [wdD c.1, wdD c.2] x = some (wdD (im c x)) := by
  rcases h with rfl | rfl
  · exact at0 _ _
  · exact at1 _ _ _
theorem siz_nn {c : Ch} {w : Wo} (h : Bw w) : 0 ≤ siz c w := by rw [← put_len c h]; omega
theorem Bw.tail {x : Int} {w : Wo} (h : Bw (x :: w)) : Bw w := fun y hy => h y (List.mem_cons_of_mem _ hy)
theorem map_app (v w : Wo) : v.map PyData.int ++ w.map PyData.int = (v ++ w).map PyData.int := (List.map_append ..).symm
theorem r_all_put_through : ∀ ss (Q : D → Prop), S_all_put_through ss Q → g_all_put_through (endsOf Q) (initE N_all_put_through ss) := by
  rintro ss Q ⟨⟨c, w⟩, rfl, ⟨hc, hw, hs⟩, hq⟩
  have hc : Cv c := hc
  have hw : Wv w := hw
  have hs : siz c w ≤ 2000 := hs
  have hq : Q (wdD (put c w)) := hq
  simp only [N_all_put_through, initE, List.length_cons, List.length_nil, Nat.reduceAdd, Nat.reduceSub, List.replicate, List.cons_append, List.nil_append, List.append_nil]
  unfold g_all_put_through
  get_elem_tactic_extensible
  refine for_of (fun ds ρ => ∃ (v u : Wo) (s3 : Sl), ds = u.map PyData.int ∧ Bw u ∧ put c w = v ++ put c u ∧ (v.length : Int) + siz c u ≤ 2000 ∧ ρ = [cC c, wW w, .ow (v.map PyData.int), s3]) ?_ ?_ _ _ ⟨[], w, .un, rfl, hw.b, rfl, by simpa using hs, rfl⟩
  · rintro d ds _ ⟨v, u, s3, e, bu, ep, hl, rfl⟩ K hK
    cases u with
    | nil => cases e
    | cons x u =>
      cases e
      have hx := bu x List.mem_cons_self
      have hn := siz_nn (c := c) bu.tail
      rw [siz_cons c u hx] at hl
      get_elem_tactic_extensible
      refine Go.ixT_go (ix_im c hx) ?_
      refine ⟨by unfold most; simp only [List.length_map]; omega, ?_⟩
      get_elem_tactic_extensible
      rw [map_app]
      refine hK _ ⟨v ++ im c x, u, .sh (.int x), rfl, bu.tail, ?_, ?_, rfl⟩
      · rw [ep, put_cons, List.append_assoc]
      · rw [List.length_append]
        push_cast
        omega
  · rintro _ ⟨v, u, s3, e, bu, ep, hl, rfl⟩
    cases u with
    | cons x u => cases e
    | nil =>
      rw [put_nil, List.append_nil] at ep
      rw [ep] at hq
      get_elem_tactic_extensible
      exact hq
theorem go_all {c : Ch} {w : Wo} {Q : D → Prop} (hc : Cv c) (hw : Wv w) (hs : siz c w ≤ 2000) (hq : Q (wdD (put c w))) : S_all_put_through [cC c, wW w] Q := ⟨(c, w), rfl, ⟨hc, hw, hs⟩, hq⟩
theorem sum_ints (w : Wo) {Q : D → Prop} (hq : Q (.int w.sum)) : bSumT [wdD w] Q := by
  unfold bSumT wdD
  simp only [asInts_map]
  exact hq
theorem sm_len {w : Wo} (h : Wv w) : Sm 12 (w.length : Int) := smN (Nat.lt_of_le_of_lt h.l (by decide))
theorem sm_sum {w : Wo} (h : Wv w) : Sm 12 w.sum := by
  have := sum_le h.b
  have := h.l
  show w.sum.natAbs < 2 ^ 12
  omega
theorem r_put_through : ∀ ss (Q : D → Prop) (E : Xn → Prop), S_put_through ss Q E → g_put_through (fun x _ => E x) (endsOf Q) (initE N_put_through ss) := by
  rintro ss Q E ⟨c, w, rfl, hc, hw, h1, h2⟩
  simp only [N_put_through, initE, List.length_cons, List.length_nil, Nat.reduceAdd, Nat.reduceSub, List.replicate, List.cons_append, List.nil_append, List.append_nil]
  unfold g_put_through
  get_elem_tactic_extensible
  refine sum_ints w ?_
  get_elem_tactic_extensible
  refine Go.ixT_go (at1 _ _ _) ?_
  get_elem_tactic_extensible
  refine Go.lenT_go ?_
  get_elem_tactic_extensible
  simp only [List.length_map]
  refine Go.mulI_go (mw (sm_len hc.b) (sm_sum hw)) ?_
  get_elem_tactic_extensible
  have ss' := sum_le hw.b
  have := hw.l
  refine Go.ixT_go (at0 _ _) ?_
  get_elem_tactic_extensible
  refine Go.lenT_go ?_
  get_elem_tactic_extensible
  refine Go.lenT_go ?_
  get_elem_tactic_extensible
  simp only [List.length_map]
  refine Go.mulI_go (mw (k := 12) (l := 12) (sm_len hc.a) (by show (_ : Int).natAbs < 2 ^ 12; omega)) ?_
  get_elem_tactic_extensible
  have e : (c.2.length : Int) * w.sum + (c.1.length : Int) * ((w.length : Int) - w.sum) = siz c w := by
    unfold siz
    grind
  rw [e]
  refine Go.ifd (fun h => ?_) (fun h => ?_)
  · get_elem_tactic_extensible
    exact h2 (by omega)
  · get_elem_tactic_extensible
    exact go_all hc hw (by omega) (h1 (by omega))
theorem go_put {c : Ch} {w : Wo} {Q : D → Prop} {E : Xn → Prop} (hc : Cv c) (hw : Wv w) (h1 : siz c w ≤ 2000 → Q (wdD (put c w))) (h2 : 2000 < siz c w → E tmX) : S_put_through [cC c, wW w] Q E := ⟨c, w, rfl, hc, hw, h1, h2⟩
theorem r_change_behind : ∀ ss (Q : D → Prop) (E : Xn → Prop), S_change_behind ss Q E → g_change_behind (fun x _ => E x) (endsOf Q) (initE N_change_behind ss) := by
  rintro ss Q E ⟨c, o, rfl, hc, ho, h1, h2⟩
  simp only [N_change_behind, initE, List.length_cons, List.length_nil, Nat.reduceAdd, Nat.reduceSub, List.replicate, List.cons_append, List.nil_append, List.append_nil]
  unfold g_change_behind
  get_elem_tactic_extensible
  refine Go.ixT_go (at0 _ _) ?_
  get_elem_tactic_extensible
  refine go_put ho hc.a (fun k1 => ?_) (fun k1 => h2 (.inl k1))
  get_elem_tactic_extensible
  refine Go.ixT_go (at1 _ _ _) ?_
  get_elem_tactic_extensible
  refine go_put ho hc.b (fun k2 => ?_) (fun k2 => h2 (.inr k2))
  exact h1 k1 k2
theorem go_behind {c o : Ch} {Q : D → Prop} {E : Xn → Prop} (hc : Cv c) (ho : Cv o) (h1 : siz o c.1 ≤ 2000 → siz o c.2 ≤ 2000 → Q (chD (put o c.1, put o c.2))) (h2 : 2000 < siz o c.1 ∨ 2000 < siz o c.2 → E tmX) : S_change_behind [cC c, cC o] Q E := ⟨c, o, rfl, hc, ho, h1, h2⟩
end T
end DL
namespace DL
namespace T
open PySem L2 PySem.Spec PyProof.Rows
local macro_rules
  | `(tactic| get_elem_tactic_extensible) => `(tactic| (repeat (first | with_reducible refine Go.lc_go ?_ | with_reducible refine Go.ln_go ?_ | ((with_reducible apply Go.v_sh); exact rfl) | ((with_reducible apply Go.n_sh); exact rfl) | ((with_reducible apply Go.n_ow); exact rfl) | ((with_reducible apply Go.ab_go); exact rfl) | ((with_reducible apply Go.app_go); exact rfl) | ((with_reducible apply Go.ext_go); exact rfl) | with_reducible refine Go.c_go ?_ | with_reducible refine Go.tup_go ?_ | with_reducible refine Go.nv_go ?_ | with_reducible refine Go.bin_go ?_ | with_reducible refine Go.slT_go ?_ | with_reducible refine Go.slL_go ?_ | with_reducible refine Go.on_go ?_ | with_reducible refine Go.os_go ?_ | with_reducible refine Go.neg_go ?_ | with_reducible refine Go.sub_go ?_ | with_reducible refine Go.addI_go ?_ | with_reducible refine Go.seqT_go ?_ | with_reducible refine Go.call_go ?_ | with_reducible refine Go.callK_go ?_ | with_reducible refine Go.cb_go ?_ | with_reducible refine Go.dict1_go ?_ | with_reducible refine Go.if_go ?_ | with_reducible refine Go.an_go ?_ | with_reducible refine Go.ac_go ?_ | with_reducible refine Go.mv_go ?_ | with_reducible refine Go.par_go ?_ | with_reducible refine Go.sq_go ?_ | with_reducible refine Go.set_go ?_ | with_reducible refine Go.setN_go ?_ | with_reducible refine Go.ret_go ?_ | with_reducible refine Go.asg_go ?_ | with_reducible refine Go.ifs_go ?_ | with_reducible refine Go.next_go ?_ | with_reducible refine Go.nm_go ?_ | with_reducible refine Go.cmp_go ?_ | with_reducible refine Go.tv_go ?_ | with_reducible refine Go.not_go ?_ | with_reducible refine Go.and_go ?_ | with_reducible refine Go.or_go ?_ | with_reducible refine Go.lenT_go ?_ | with_reducible refine Go.lenL_go ?_ | with_reducible refine Go.absI_go ?_ | with_reducible refine Go.intI_go ?_ | with_reducible refine Go.max2_go ?_ | with_reducible refine Go.min2_go ?_ | with_reducible refine Go.tupL_go ?_ | with_reducible refine Go.tupT_go ?_ | with_reducible refine Go.gv_go ?_ | with_reducible refine Go.ltI_go ?_ | with_reducible refine Go.leI_go ?_ | with_reducible refine Go.gtI_go ?_ | with_reducible refine Go.geI_go ?_ | with_reducible refine Go.eqI_go ?_ | with_reducible refine Go.neI_go ?_ | with_reducible refine Go.eqS_go ?_ | with_reducible refine Go.rng1_go ?_ | ((first | with_reducible apply Go.ixL_go | with_reducible apply Go.ixT_go); first | exact DL.at0 _ _ | exact DL.at1 _ _ _ | exact DL.at2 _ _ _ _ | exact DL.at3 _ _ _ _ _ | exact DL.at4 _ _ _ _ _ _) | ((with_reducible apply Go.frz_go); exact rfl) | ((with_reducible apply Go.frz_sh); exact rfl) | with_reducible refine Go.mn_go ?_ | with_reducible refine Go.andV_go ?_ | ((first | with_reducible apply Go.sqT_go | with_reducible apply Go.sqL_go); exact rfl) | with_reducible refine Go.gsC_go ?_ | with_reducible refine Go.gsN_go ?_ | with_reducible refine Go.ifT (by decide +kernel) ?_ | with_reducible refine Go.ifF (by decide +kernel) ?_ | with_reducible refine Go.cat_go ?_ | with_reducible refine Go.callO_go ?_ | ((with_reducible apply Go.retO_go); exact rfl) | with_reducible refine Go.retN_go ?_ | with_reducible refine Go.ifN_go ?_ | with_reducible refine Go.yes_go ?_ | with_reducible refine Go.isI_go ?_ | with_reducible refine Go.isB_go ?_ | with_reducible refine Go.isN_go ?_ | with_reducible refine Go.notN_go ?_ | with_reducible refine Go.lrev_go ?_ | with_reducible refine Go.bk_go ?_ | with_reducible refine Go.ct_go ?_ | with_reducible refine Go.rng2_go ?_ | with_reducible refine Go.orV_go ?_ | with_reducible refine Go.notV_go ?_ | ((with_reducible apply Go.extT_go); exact rfl) | with_reducible refine Go.isI2_go ?_ | with_reducible refine Go.dict2_go ?_ | with_reducible refine Go.callE_go ?_ | with_reducible refine Go.callEK_go ?_ | with_reducible refine Go.raise0_go ?_ | with_reducible refine Go.raise1_go ?_ | ((with_reducible apply Go.is1_go); exact rfl) | ((with_reducible apply Go.isT_go); exact rfl) | ((with_reducible apply Go.fld_go); exact rfl) | ((with_reducible apply Go.setIx_go); exact rfl) | unfold fForS | unfold fLc | dsimp only [seqOf, List.set_cons_zero, List.set_cons_succ, setAll, wipeE])))
theorem tb_elem {w : Wo} {ρ : Env} {K : D → Prop} (e : lk ρ 1 = .sh (wdD w)) (h : K (.tuple [.int ((w.length : Int) - w.sum), .int w.sum])) :
    (fTup (fLC (fBin gSub (fCB bLen (fLC (fN 1) fLN)) (fCB bSumT (fLC (fN 1) fLN))) (fLC (fCB bSumT (fLC (fN 1) fLN)) fLN))) ρ K := by
  simp only [fSeqS, fSet, fSetN, fRet, fIfS, fNext, fBreak, fCont, fNever, fBin, fCmp, fV, fN, fC, lk, lk_z, lk_s, gAdd, gSub, gMul, gDiv, gMod, gPow, gShl, gShlW, gShr, gv, gLt, gLe, gGt, gGe, gEq, gNe, gIx, fNeg, fTV, fNot, fAnd, fOr, fAndV, fOrV, fNotV, fIf, fLN, fLC, fAN, fAC, fAB, fNV, fTup, fCB, bInt, bAbs, bLen, bMax2, bMin2, bTuple, fSeq, seqOf, fCall, fCallK, fAsg, gNm, gsNil, gsCons, gTpl, gSq, fPar, fMV, fMN, setAll, fApp, fExt, fSetIx, fFrz, fForS, fRng1, fRng2, fBits, fON, fOS, fSlT, fSlL, List.set_cons_zero, List.set_cons_succ, List.length_cons, List.length_nil, endsOf, decide_eq_true_eq, true_and, and_true, at0, at1, at2, at3, at4, Bool.not_eq_true', decide_eq_false_iff_not, lg2, Int.reduceLT, ↓reduceIte, e, wdD]
  refine sum_ints w ?_
  simp only [fSeqS, fSet, fSetN, fRet, fIfS, fNext, fBreak, fCont, fNever, fBin, fCmp, fV, fN, fC, lk, lk_z, lk_s, gAdd, gSub, gMul, gDiv, gMod, gPow, gShl, gShlW, gShr, gv, gLt, gLe, gGt, gGe, gEq, gNe, gIx, fNeg, fTV, fNot, fAnd, fOr, fAndV, fOrV, fNotV, fIf, fLN, fLC, fAN, fAC, fAB, fNV, fTup, fCB, bInt, bAbs, bLen, bMax2, bMin2, bTuple, fSeq, seqOf, fCall, fCallK, fAsg, gNm, gsNil, gsCons, gTpl, gSq, fPar, fMV, fMN, setAll, fApp, fExt, fSetIx, fFrz, fForS, fRng1, fRng2, fBits, fON, fOS, fSlT, fSlL, List.set_cons_zero, List.set_cons_succ, List.length_cons, List.length_nil, endsOf, decide_eq_true_eq, true_and, and_true, at0, at1, at2, at3, at4, Bool.not_eq_true', decide_eq_false_iff_not, lg2, Int.reduceLT, ↓reduceIte, List.length_map]
  refine sum_ints w ?_
  exact h
theorem tb_run {c : Ch} {Q : D → Prop} (hq : Q (t4D (tb c))) : (fRet (fCB bTuple (fLC (fNV (fLc [1] (fSeq (fV 0)) (gNm 1) fYes (fTup (fLC (fBin gSub (fCB bLen (fLC (fN 1) fLN)) (fCB bSumT (fLC (fN 1) fLN))) (fLC (fCB bSumT (fLC (fN 1) fLN)) fLN))))) fLN))) (endsOf Q) [cC c, .un] := by
  get_elem_tactic_extensible
  refine ⟨by unfold most; simp, ?_⟩
  simp only [lcRun, gNm, fYes, List.set_cons_zero, List.set_cons_succ, if_true]
  refine tb_elem rfl ?_
  refine tb_elem rfl ?_
  get_elem_tactic_extensible
  exact hq
theorem r_change_table : ∀ ss (Q : D → Prop), S_change_table ss Q → g_change_table (endsOf Q) (initE N_change_table ss) := by
  rintro ss Q ⟨c, rfl, hc, hq⟩
  simp only [N_change_table, initE, List.length_cons, List.length_nil, Nat.reduceAdd, Nat.reduceSub, List.replicate, List.cons_append, List.nil_append, List.append_nil]
  exact tb_run hq
theorem r__law_table : ∀ ss (Q : D → Prop), S__law_table ss Q → g__law_table (endsOf Q) (initE N__law_table ss) := by
  rintro ss Q ⟨c, rfl, hc, hq⟩
  simp only [N__law_table, initE, List.length_cons, List.length_nil, Nat.reduceAdd, Nat.reduceSub, List.replicate, List.cons_append, List.nil_append, List.append_nil]
  exact tb_run hq
theorem r__law_size : ∀ ss (Q : D → Prop), S__law_size ss Q → g__law_size (endsOf Q) (initE N__law_size ss) := by
  rintro ss Q ⟨⟨c, w⟩, rfl, ⟨hc, hw⟩, hq⟩
  have hc : Cv c := hc
  have hw : Wv w := hw
  have hq : Q (.int (siz c w)) := hq
  simp only [N__law_size, initE, List.length_cons, List.length_nil, Nat.reduceAdd, Nat.reduceSub, List.replicate, List.cons_append, List.nil_append, List.append_nil]
  unfold g__law_size
  get_elem_tactic_extensible
  refine sum_ints w ?_
  get_elem_tactic_extensible
  refine Go.ixT_go (at1 _ _ _) ?_
  get_elem_tactic_extensible
  refine Go.lenT_go ?_
  get_elem_tactic_extensible
  simp only [List.length_map]
  refine Go.mulI_go (mw (sm_sum hw) (sm_len hc.b)) ?_
  get_elem_tactic_extensible
  have ss' := sum_le hw.b
  have := hw.l
  refine Go.lenT_go ?_
  get_elem_tactic_extensible
  refine Go.ixT_go (at0 _ _) ?_
  get_elem_tactic_extensible
  refine Go.lenT_go ?_
  get_elem_tactic_extensible
  simp only [List.length_map]
  refine Go.mulI_go (mw (k := 12) (l := 12) (by show (_ : Int).natAbs < 2 ^ 12; omega) (sm_len hc.a)) ?_
  get_elem_tactic_extensible
  exact hq
theorem go_size {c : Ch} {w : Wo} {Q : D → Prop} (hc : Cv c) (hw : Wv w) (hq : Q (.int (siz c w))) : S__law_size [cC c, wW w] Q := ⟨(c, w), rfl, ⟨hc, hw⟩, hq⟩
theorem r__law_put : ∀ ss (Q : D → Prop), S__law_put ss Q → g__law_put (endsOf Q) (initE N__law_put ss) := by
  rintro ss Q ⟨⟨c, w⟩, rfl, ⟨hc, hw, hs⟩, hq⟩
  have hc : Cv c := hc
  have hw : Wv w := hw
  have hs : siz c w ≤ 2000 := hs
  have hq : Q (wdD (put c w)) := hq
  simp only [N__law_put, initE, List.length_cons, List.length_nil, Nat.reduceAdd, Nat.reduceSub, List.replicate, List.cons_append, List.nil_append, List.append_nil]
  unfold g__law_put
  get_elem_tactic_extensible
  refine for_of (fun ds ρ => ∃ (v u : Wo) (s3 : Sl), ds = u.map PyData.int ∧ Bw u ∧ put c w = v ++ put c u ∧ (v.length : Int) + siz c u ≤ 2000 ∧ ρ = [cC c, wW w, .ow (v.map PyData.int), s3]) ?_ ?_ _ _ ⟨[], w, .un, rfl, hw.b, rfl, by simpa using hs, rfl⟩
  · rintro d ds _ ⟨v, u, s3, e, bu, ep, hl, rfl⟩ K hK
    cases u with
    | nil => cases e
    | cons x u =>
      cases e
      have hx := bu x List.mem_cons_self
      have hn := siz_nn (c := c) bu.tail
      rw [siz_cons c u hx] at hl
      get_elem_tactic_extensible
      refine Go.ixT_go (ix_im c hx) ?_
      show _ ∧ _
      refine ⟨by unfold most; simp only [List.length_map]; omega, ?_⟩
      get_elem_tactic_extensible
      rw [map_app]
      refine hK _ ⟨v ++ im c x, u, .sh (.int x), rfl, bu.tail, ?_, ?_, rfl⟩
      · rw [ep, put_cons, List.append_assoc]
      · rw [List.length_append]
        push_cast
        omega
  · rintro _ ⟨v, u, s3, e, bu, ep, hl, rfl⟩
    cases u with
    | cons x u => cases e
    | nil =>
      rw [put_nil, List.append_nil] at ep
      rw [ep] at hq
      get_elem_tactic_extensible
      exact hq
theorem go_lput {c : Ch} {w : Wo} {Q : D → Prop} (hc : Cv c) (hw : Wv w) (hs : siz c w ≤ 2000) (hq : Q (wdD (put c w))) : S__law_put [cC c, wW w] Q := ⟨(c, w), rfl, ⟨hc, hw, hs⟩, hq⟩
theorem go_ctable {c : Ch} {Q : D → Prop} (hc : Cv c) (hq : Q (t4D (tb c))) : S_change_table [cC c] Q := ⟨c, rfl, hc, hq⟩
theorem go_ltable {c : Ch} {Q : D → Prop} (hc : Cv c) (hq : Q (t4D (tb c))) : S__law_table [cC c] Q := ⟨c, rfl, hc, hq⟩
theorem tb_tv {c : Ch} (h : Cv c) : Tv (tb c) := by
  have a1 := sum_le h.a.b
  have a2 := h.a.l
  have b1 := sum_le h.b.b
  have b2 := h.b.l
  refine ⟨?_, ?_, ?_, ?_⟩ <;> show (_ : Int).natAbs < 2 ^ 40 <;> (unfold tb; dsimp only; omega)
theorem r__law_product : ∀ ss (Q : D → Prop), S__law_product ss Q → g__law_product (endsOf Q) (initE N__law_product ss) := by
  rintro ss Q ⟨⟨t, u⟩, rfl, ⟨ht, hu⟩, hq⟩
  obtain ⟨a, b, c, d⟩ := t
  obtain ⟨e, f, g, h⟩ := u
  obtain ⟨t1, t2, t3, t4⟩ := ht
  obtain ⟨u1, u2, u3, u4⟩ := hu
  have hq : Q (t4D (t4M (a, b, c, d) (e, f, g, h))) := hq
  dsimp only at t1 t2 t3 t4 u1 u2 u3 u4
  simp only [N__law_product, initE, List.length_cons, List.length_nil, Nat.reduceAdd, Nat.reduceSub, List.replicate, List.cons_append, List.nil_append, List.append_nil]
  unfold g__law_product
  refine seq_go ?_
  simp only [fSeqS, fSet, fSetN, fRet, fIfS, fNext, fBreak, fCont, fNever, fBin, fCmp, fV, fN, fC, lk, lk_z, lk_s, gAdd, gSub, gMul, gDiv, gMod, gPow, gShl, gShlW, gShr, gv, gLt, gLe, gGt, gGe, gEq, gNe, gIx, fNeg, fTV, fNot, fAnd, fOr, fAndV, fOrV, fNotV, fIf, fLN, fLC, fAN, fAC, fAB, fNV, fTup, fCB, bInt, bAbs, bLen, bMax2, bMin2, bTuple, fSeq, seqOf, fCall, fCallK, fAsg, gNm, gsNil, gsCons, gTpl, gSq, fPar, fMV, fMN, setAll, fApp, fExt, fSetIx, fFrz, fForS, fRng1, fRng2, fBits, fON, fOS, fSlT, fSlL, List.set_cons_zero, List.set_cons_succ, List.length_cons, List.length_nil, endsOf, decide_eq_true_eq, true_and, and_true, at0, at1, at2, at3, at4, Bool.not_eq_true', decide_eq_false_iff_not, lg2, Int.reduceLT, ↓reduceIte, t4D, fFor, loopE]
  exact ⟨mw t1 u1, mw t2 u3, mw t1 u2, mw t2 u4, by decide, mw t3 u1, mw t4 u3, mw t3 u2, mw t4 u4, (show 1 < most by decide), hq⟩
theorem go_product {t u : T4} {Q : D → Prop} (ht : Tv t) (hu : Tv u) (hq : Q (t4D (t4M t u))) : S__law_product [.sh (t4D t), .sh (t4D u)] Q := ⟨(t, u), rfl, ⟨ht, hu⟩, hq⟩
end T
end DL
namespace DL
namespace T
open PySem L2 PySem.Spec PyProof.Rows
local macro_rules
  | `(tactic| get_elem_tactic_extensible) => `(tactic| (repeat (first | with_reducible refine Go.lc_go ?_ | with_reducible refine Go.ln_go ?_ | ((with_reducible apply Go.v_sh); exact rfl) | ((with_reducible apply Go.n_sh); exact rfl) | ((with_reducible apply Go.n_ow); exact rfl) | ((with_reducible apply Go.ab_go); exact rfl) | ((with_reducible apply Go.app_go); exact rfl) | ((with_reducible apply Go.ext_go); exact rfl) | with_reducible refine Go.c_go ?_ | with_reducible refine Go.tup_go ?_ | with_reducible refine Go.nv_go ?_ | with_reducible refine Go.bin_go ?_ | with_reducible refine Go.slT_go ?_ | with_reducible refine Go.slL_go ?_ | with_reducible refine Go.on_go ?_ | with_reducible refine Go.os_go ?_ | with_reducible refine Go.neg_go ?_ | with_reducible refine Go.sub_go ?_ | with_reducible refine Go.addI_go ?_ | with_reducible refine Go.seqT_go ?_ | with_reducible refine Go.call_go ?_ | with_reducible refine Go.callK_go ?_ | with_reducible refine Go.cb_go ?_ | with_reducible refine Go.dict1_go ?_ | with_reducible refine Go.if_go ?_ | with_reducible refine Go.an_go ?_ | with_reducible refine Go.ac_go ?_ | with_reducible refine Go.mv_go ?_ | with_reducible refine Go.par_go ?_ | with_reducible refine Go.sq_go ?_ | with_reducible refine Go.set_go ?_ | with_reducible refine Go.setN_go ?_ | with_reducible refine Go.ret_go ?_ | with_reducible refine Go.asg_go ?_ | with_reducible refine Go.ifs_go ?_ | with_reducible refine Go.next_go ?_ | with_reducible refine Go.nm_go ?_ | with_reducible refine Go.cmp_go ?_ | with_reducible refine Go.tv_go ?_ | with_reducible refine Go.not_go ?_ | with_reducible refine Go.and_go ?_ | with_reducible refine Go.or_go ?_ | with_reducible refine Go.lenT_go ?_ | with_reducible refine Go.lenL_go ?_ | with_reducible refine Go.absI_go ?_ | with_reducible refine Go.intI_go ?_ | with_reducible refine Go.max2_go ?_ | with_reducible refine Go.min2_go ?_ | with_reducible refine Go.tupL_go ?_ | with_reducible refine Go.tupT_go ?_ | with_reducible refine Go.gv_go ?_ | with_reducible refine Go.ltI_go ?_ | with_reducible refine Go.leI_go ?_ | with_reducible refine Go.gtI_go ?_ | with_reducible refine Go.geI_go ?_ | with_reducible refine Go.eqI_go ?_ | with_reducible refine Go.neI_go ?_ | with_reducible refine Go.eqS_go ?_ | with_reducible refine Go.rng1_go ?_ | ((first | with_reducible apply Go.ixL_go | with_reducible apply Go.ixT_go); first | exact DL.at0 _ _ | exact DL.at1 _ _ _ | exact DL.at2 _ _ _ _ | exact DL.at3 _ _ _ _ _ | exact DL.at4 _ _ _ _ _ _) | ((with_reducible apply Go.frz_go); exact rfl) | ((with_reducible apply Go.frz_sh); exact rfl) | with_reducible refine Go.mn_go ?_ | with_reducible refine Go.andV_go ?_ | ((first | with_reducible apply Go.sqT_go | with_reducible apply Go.sqL_go); exact rfl) | with_reducible refine Go.gsC_go ?_ | with_reducible refine Go.gsN_go ?_ | with_reducible refine Go.ifT (by decide +kernel) ?_ | with_reducible refine Go.ifF (by decide +kernel) ?_ | with_reducible refine Go.cat_go ?_ | with_reducible refine Go.callO_go ?_ | ((with_reducible apply Go.retO_go); exact rfl) | with_reducible refine Go.retN_go ?_ | with_reducible refine Go.ifN_go ?_ | with_reducible refine Go.yes_go ?_ | with_reducible refine Go.isI_go ?_ | with_reducible refine Go.isB_go ?_ | with_reducible refine Go.isN_go ?_ | with_reducible refine Go.notN_go ?_ | with_reducible refine Go.lrev_go ?_ | with_reducible refine Go.bk_go ?_ | with_reducible refine Go.ct_go ?_ | with_reducible refine Go.rng2_go ?_ | with_reducible refine Go.orV_go ?_ | with_reducible refine Go.notV_go ?_ | ((with_reducible apply Go.extT_go); exact rfl) | with_reducible refine Go.isI2_go ?_ | with_reducible refine Go.dict2_go ?_ | with_reducible refine Go.callE_go ?_ | with_reducible refine Go.callEK_go ?_ | with_reducible refine Go.raise0_go ?_ | with_reducible refine Go.raise1_go ?_ | ((with_reducible apply Go.is1_go); exact rfl) | ((with_reducible apply Go.isT_go); exact rfl) | ((with_reducible apply Go.fld_go); exact rfl) | ((with_reducible apply Go.setIx_go); exact rfl) | unfold fForS | unfold fLc | dsimp only [seqOf, List.set_cons_zero, List.set_cons_succ, setAll, wipeE])))
theorem all_true (n : Nat) : (List.replicate n true).all id = true := by
  induction n with
  | zero => rfl
  | succ n ih => rw [List.replicate_succ, List.all_cons, ih]; rfl
theorem map_true : ∀ ds : List D, (ds.map fun _ => PyData.bool true) = (List.replicate ds.length true).map PyData.bool
  | [] => rfl
  | _ :: ds => by rw [List.map_cons, List.length_cons, List.replicate_succ, List.map_cons, map_true ds]
theorem own_elem {n : Nat} {e d : D} {K : D → Prop} (h : intB e = true ∨ Own n e) (hK : K (.bool true)) : (fOrV (fIsI "int" (fN 1)) (fCall (Sn__law_is_own n) (fAC (fV 1) fAN))) [.sh d, .sh e] K := by
  simp only [fSeqS, fSet, fSetN, fRet, fIfS, fNext, fBreak, fCont, fNever, fBin, fCmp, fV, fN, fC, lk, lk_z, lk_s, gAdd, gSub, gMul, gDiv, gMod, gPow, gShl, gShlW, gShr, gv, gLt, gLe, gGt, gGe, gEq, gNe, gIx, fNeg, fTV, fNot, fAnd, fOr, fAndV, fOrV, fNotV, fIf, fLN, fLC, fAN, fAC, fAB, fNV, fTup, fCB, bInt, bAbs, bLen, bMax2, bMin2, bTuple, fSeq, seqOf, fCall, fCallK, fAsg, gNm, gsNil, gsCons, gTpl, gSq, fPar, fMV, fMN, setAll, fApp, fExt, fSetIx, fFrz, fForS, fRng1, fRng2, fBits, fON, fOS, fSlT, fSlL, List.set_cons_zero, List.set_cons_succ, List.length_cons, List.length_nil, endsOf, decide_eq_true_eq, true_and, and_true, at0, at1, at2, at3, at4, Bool.not_eq_true', decide_eq_false_iff_not, lg2, Int.reduceLT, ↓reduceIte, fIsI]
  by_cases q : isB (tyN e) "int" = true
  · rw [q, if_pos rfl]
    exact hK
  · rw [show isB (tyN e) "int" = false by simpa using q, if_neg (by decide)]
    rcases h with h | h
    · exfalso
      cases e <;> first | exact q (show isB "int" "int" = true by decide) | cases h
    · exact ⟨e, rfl, h, hK⟩
theorem r__law_is_own : ∀ (n : Nat) ss (Q : D → Prop), Sn__law_is_own (n + 1) ss Q → g__law_is_own (Sn__law_is_own n) (endsOf Q) (initE N__law_is_own ss) := by
  rintro n ss Q ⟨d, rfl, h, hq⟩
  have hq : Q (.bool true) := hq
  simp only [N__law_is_own, initE, List.length_cons, List.length_nil, Nat.reduceAdd, Nat.reduceSub, List.replicate, List.cons_append, List.nil_append, List.append_nil]
  unfold g__law_is_own
  refine seq_go ?_
  cases d with
  | tuple ds =>
    obtain ⟨hl, he⟩ := h
    get_elem_tactic_extensible
    refine Go.ifT (isTup_tup ds) ?_
    get_elem_tactic_extensible
    refine ⟨by unfold most; omega, ?_⟩
    have e0 : ds = ds.map id := by simp
    rw [show lcRun (gNm 1) fYes (fOrV (fIsI "int" (fN 1)) (fCall (Sn__law_is_own n) (fAC (fV 1) fAN))) [.sh (.tuple ds), .un] ds = lcRun (gNm 1) fYes (fOrV (fIsI "int" (fN 1)) (fCall (Sn__law_is_own n) (fAC (fV 1) fAN))) [.sh (.tuple ds), .un] (ds.map id) by rw [List.map_id]]
    refine lc_map (F := fun _ => PyData.bool true) ds (fun x hx K hK => own_elem (he x hx) hK) _ ?_
    get_elem_tactic_extensible
    have e2 : (ds.map fun _ => PyData.bool true) = (List.replicate ds.length true).map PyData.bool := map_true ds
    rw [e2]
    unfold bAll
    simp only [all_bools, all_true]
    exact hq
  | list ds => exact h.elim
  | dict ds => exact h.elim
  | none =>
    get_elem_tactic_extensible
    exact hq
  | bool b =>
    get_elem_tactic_extensible
    refine Go.ifF (by simp [isB, tyN]) ?_
    get_elem_tactic_extensible
    refine Go.ifF (by simp [isNone]) ?_
    get_elem_tactic_extensible
    exact hq
  | int b =>
    get_elem_tactic_extensible
    refine Go.ifF (by simp [isB, tyN]) ?_
    get_elem_tactic_extensible
    refine Go.ifF (by simp [isNone]) ?_
    get_elem_tactic_extensible
    exact hq
  | str b =>
    get_elem_tactic_extensible
    refine Go.ifF (by simp [isB, tyN]) ?_
    get_elem_tactic_extensible
    refine Go.ifF (by simp [isNone]) ?_
    get_elem_tactic_extensible
    exact hq
theorem _root_.DL.Ni.reprA {n w : Nat} {d : D} (h : Ni n w d) (hn : n ≤ 60) (hw : w ≤ 16777216) {Q : D → Prop} (q : Q (.str d.shown)) : bReprA [d] Q := ⟨h.sh, by rw [sizeLine_eq]; exact Nat.le_trans h.wt hw, Nat.le_trans h.dp hn, q⟩
theorem r__law_is_same : ∀ ss (Q : D → Prop), S__law_is_same ss Q → g__law_is_same (endsOf Q) (initE N__law_is_same ss) := by
  rintro ss Q ⟨d, rfl, ⟨ho, hn⟩, hq⟩
  have ho : Own 5 d := ho
  have hn : Ni 20 8000000 d := hn
  have hq : Q (.bool true) := hq
  simp only [N__law_is_same, initE, List.length_cons, List.length_nil, Nat.reduceAdd, Nat.reduceSub, List.replicate, List.cons_append, List.nil_append, List.append_nil]
  unfold g__law_is_same
  get_elem_tactic_extensible
  refine ⟨d, rfl, ho, ?_⟩
  get_elem_tactic_extensible
  refine hn.reprA (by decide) (by decide) ?_
  get_elem_tactic_extensible
  refine hn.reprA (by decide) (by decide) ?_
  get_elem_tactic_extensible
  rw [decide_eq_true rfl]
  exact hq
theorem go_same {d : D} {Q : D → Prop} (ho : Own 5 d) (hn : Ni 20 8000000 d) (hq : Q (.bool true)) : S__law_is_same [.sh d, .sh d] Q := ⟨d, rfl, ⟨ho, hn⟩, hq⟩
end T
end DL
namespace DL
namespace T
open PySem L2 PySem.Spec PyProof.Rows
local macro_rules
  | `(tactic| get_elem_tactic_extensible) => `(tactic| (repeat (first | with_reducible refine Go.lc_go ?_ | with_reducible refine Go.ln_go ?_ | ((with_reducible apply Go.v_sh); exact rfl) | ((with_reducible apply Go.n_sh); exact rfl) | ((with_reducible apply Go.n_ow); exact rfl) | ((with_reducible apply Go.ab_go); exact rfl) | ((with_reducible apply Go.app_go); exact rfl) | ((with_reducible apply Go.ext_go); exact rfl) | with_reducible refine Go.c_go ?_ | with_reducible refine Go.tup_go ?_ | with_reducible refine Go.nv_go ?_ | with_reducible refine Go.bin_go ?_ | with_reducible refine Go.slT_go ?_ | with_reducible refine Go.slL_go ?_ | with_reducible refine Go.on_go ?_ | with_reducible refine Go.os_go ?_ | with_reducible refine Go.neg_go ?_ | with_reducible refine Go.sub_go ?_ | with_reducible refine Go.addI_go ?_ | with_reducible refine Go.seqT_go ?_ | with_reducible refine Go.call_go ?_ | with_reducible refine Go.callK_go ?_ | with_reducible refine Go.cb_go ?_ | with_reducible refine Go.dict1_go ?_ | with_reducible refine Go.if_go ?_ | with_reducible refine Go.an_go ?_ | with_reducible refine Go.ac_go ?_ | with_reducible refine Go.mv_go ?_ | with_reducible refine Go.par_go ?_ | with_reducible refine Go.sq_go ?_ | with_reducible refine Go.set_go ?_ | with_reducible refine Go.setN_go ?_ | with_reducible refine Go.ret_go ?_ | with_reducible refine Go.asg_go ?_ | with_reducible refine Go.ifs_go ?_ | with_reducible refine Go.next_go ?_ | with_reducible refine Go.nm_go ?_ | with_reducible refine Go.cmp_go ?_ | with_reducible refine Go.tv_go ?_ | with_reducible refine Go.not_go ?_ | with_reducible refine Go.and_go ?_ | with_reducible refine Go.or_go ?_ | with_reducible refine Go.lenT_go ?_ | with_reducible refine Go.lenL_go ?_ | with_reducible refine Go.absI_go ?_ | with_reducible refine Go.intI_go ?_ | with_reducible refine Go.max2_go ?_ | with_reducible refine Go.min2_go ?_ | with_reducible refine Go.tupL_go ?_ | with_reducible refine Go.tupT_go ?_ | with_reducible refine Go.gv_go ?_ | with_reducible refine Go.ltI_go ?_ | with_reducible refine Go.leI_go ?_ | with_reducible refine Go.gtI_go ?_ | with_reducible refine Go.geI_go ?_ | with_reducible refine Go.eqI_go ?_ | with_reducible refine Go.neI_go ?_ | with_reducible refine Go.eqS_go ?_ | with_reducible refine Go.rng1_go ?_ | ((first | with_reducible apply Go.ixL_go | with_reducible apply Go.ixT_go); first | exact DL.at0 _ _ | exact DL.at1 _ _ _ | exact DL.at2 _ _ _ _ | exact DL.at3 _ _ _ _ _ | exact DL.at4 _ _ _ _ _ _) | ((with_reducible apply Go.frz_go); exact rfl) | ((with_reducible apply Go.frz_sh); exact rfl) | with_reducible refine Go.mn_go ?_ | with_reducible refine Go.andV_go ?_ | ((first | with_reducible apply Go.sqT_go | with_reducible apply Go.sqL_go); exact rfl) | with_reducible refine Go.gsC_go ?_ | with_reducible refine Go.gsN_go ?_ | with_reducible refine Go.ifT (by decide +kernel) ?_ | with_reducible refine Go.ifF (by decide +kernel) ?_ | with_reducible refine Go.cat_go ?_ | with_reducible refine Go.callO_go ?_ | ((with_reducible apply Go.retO_go); exact rfl) | with_reducible refine Go.retN_go ?_ | with_reducible refine Go.ifN_go ?_ | with_reducible refine Go.yes_go ?_ | with_reducible refine Go.isI_go ?_ | with_reducible refine Go.isB_go ?_ | with_reducible refine Go.isN_go ?_ | with_reducible refine Go.notN_go ?_ | with_reducible refine Go.lrev_go ?_ | with_reducible refine Go.bk_go ?_ | with_reducible refine Go.ct_go ?_ | with_reducible refine Go.rng2_go ?_ | with_reducible refine Go.orV_go ?_ | with_reducible refine Go.notV_go ?_ | ((with_reducible apply Go.extT_go); exact rfl) | with_reducible refine Go.isI2_go ?_ | with_reducible refine Go.dict2_go ?_ | with_reducible refine Go.callE_go ?_ | with_reducible refine Go.callEK_go ?_ | with_reducible refine Go.raise0_go ?_ | with_reducible refine Go.raise1_go ?_ | ((with_reducible apply Go.is1_go); exact rfl) | ((with_reducible apply Go.isT_go); exact rfl) | ((with_reducible apply Go.fld_go); exact rfl) | ((with_reducible apply Go.setIx_go); exact rfl) | unfold fForS | unfold fLc | dsimp only [seqOf, List.set_cons_zero, List.set_cons_succ, setAll, wipeE])))
theorem go_draw {n : Int} {Q : D → Prop} (h : 0 < n) (hn : n.natAbs.log2 < 9000) (hq : ∀ r : Int, 0 ≤ r → r < n → Q (.int r)) : S__law_draw [.bg, iS n] Q := ⟨n, rfl, h, hn, hq⟩
theorem lg_small {n : Int} (h0 : 0 ≤ n) (h : n < 1099511627776) : n.natAbs.log2 < 9000 := Sm.log (k := 40) (Sm.nat h0 h)
theorem go_dr (n : Int) {Q : D → Prop} (h : 0 < n) (hn : n < 1000000) (hq : ∀ r : Int, 0 ≤ r → r < n → Q (.int r)) : S__law_draw [.bg, iS n] Q := go_draw h (lg_small (by omega) (by omega)) hq
theorem r__law_pick : ∀ ss (Q : D → Prop), S__law_pick ss Q → g__law_pick (endsOf Q) (initE N__law_pick ss) := by
  rintro ss Q ⟨ds, rfl, ⟨hne, hl⟩, hq⟩
  have hq' := fun d (hd : d ∈ ds) => hq d hd
  have pos : 0 < ds.length := List.length_pos_iff.mpr hne
  simp only [N__law_pick, initE, List.length_cons, List.length_nil, Nat.reduceAdd, Nat.reduceSub, List.replicate, List.cons_append, List.nil_append, List.append_nil]
  simp only [g__law_pick, fSeqS, fSet, fSetN, fRet, fIfS, fNext, fBreak, fCont, fNever, fBin, fCmp, fV, fN, fC, lk, lk_z, lk_s, gAdd, gSub, gMul, gDiv, gMod, gPow, gShl, gShlW, gShr, gv, gLt, gLe, gGt, gGe, gEq, gNe, gIx, fNeg, fTV, fNot, fAnd, fOr, fAndV, fOrV, fNotV, fIf, fLN, fLC, fAN, fAC, fAB, fNV, fTup, fCB, bInt, bAbs, bLen, bMax2, bMin2, bTuple, fSeq, seqOf, fCall, fCallK, fAsg, gNm, gsNil, gsCons, gTpl, gSq, fPar, fMV, fMN, setAll, fApp, fExt, fSetIx, fFrz, fForS, fRng1, fRng2, fBits, fON, fOS, fSlT, fSlL, List.set_cons_zero, List.set_cons_succ, List.length_cons, List.length_nil, endsOf, decide_eq_true_eq, true_and, and_true, at0, at1, at2, at3, at4, Bool.not_eq_true', decide_eq_false_iff_not, lg2, Int.reduceLT, ↓reduceIte]
  refine go_dr _ (by omega) (by omega) fun r h0 h1 => ?_
  obtain ⟨j, rfl⟩ : ∃ j : Nat, r = (j : Int) := ⟨r.toNat, by omega⟩
  have hj : j < ds.length := by omega
  have e : atI ds ((j : Nat) : Int) = some ds[j] := atI_nat (List.getElem?_eq_getElem hj)
  simp only [fSeqS, fSet, fSetN, fRet, fIfS, fNext, fBreak, fCont, fNever, fBin, fCmp, fV, fN, fC, lk, lk_z, lk_s, gAdd, gSub, gMul, gDiv, gMod, gPow, gShl, gShlW, gShr, gv, gLt, gLe, gGt, gGe, gEq, gNe, gIx, fNeg, fTV, fNot, fAnd, fOr, fAndV, fOrV, fNotV, fIf, fLN, fLC, fAN, fAC, fAB, fNV, fTup, fCB, bInt, bAbs, bLen, bMax2, bMin2, bTuple, fSeq, seqOf, fCall, fCallK, fAsg, gNm, gsNil, gsCons, gTpl, gSq, fPar, fMV, fMN, setAll, fApp, fExt, fSetIx, fFrz, fForS, fRng1, fRng2, fBits, fON, fOS, fSlT, fSlL, List.set_cons_zero, List.set_cons_succ, List.length_cons, List.length_nil, endsOf, decide_eq_true_eq, true_and, and_true, at0, at1, at2, at3, at4, Bool.not_eq_true', decide_eq_false_iff_not, lg2, Int.reduceLT, ↓reduceIte, e]
  exact hq' _ (List.getElem_mem hj)
theorem go_pick {ds : List D} {Q : D → Prop} (h1 : ds ≠ []) (h2 : ds.length < 1000) (hq : ∀ d ∈ ds, Q d) : S__law_pick [.bg, .sh (.list ds)] Q := ⟨ds, rfl, ⟨h1, h2⟩, hq⟩
theorem r__law_own_bag : ∀ ss (Q : D → Prop), S__law_own_bag ss Q → g__law_own_bag (endsOf Q) (initE N__law_own_bag ss) := by
  rintro ss Q ⟨rfl, hq⟩
  simp only [N__law_own_bag, initE, List.length_cons, List.length_nil, Nat.reduceAdd, Nat.reduceSub, List.replicate, List.cons_append, List.nil_append, List.append_nil]
  unfold g__law_own_bag
  refine seq_go ?_
  simp only [fSeqS, fSet, fSetN, fRet, fIfS, fNext, fBreak, fCont, fNever, fBin, fCmp, fV, fN, fC, lk, lk_z, lk_s, gAdd, gSub, gMul, gDiv, gMod, gPow, gShl, gShlW, gShr, gv, gLt, gLe, gGt, gGe, gEq, gNe, gIx, fNeg, fTV, fNot, fAnd, fOr, fAndV, fOrV, fNotV, fIf, fLN, fLC, fAN, fAC, fAB, fNV, fTup, fCB, bInt, bAbs, bLen, bMax2, bMin2, bTuple, fSeq, seqOf, fCall, fCallK, fAsg, gNm, gsNil, gsCons, gTpl, gSq, fPar, fMV, fMN, setAll, fApp, fExt, fSetIx, fFrz, fForS, fRng1, fRng2, fBits, fON, fOS, fSlT, fSlL, List.set_cons_zero, List.set_cons_succ, List.length_cons, List.length_nil, endsOf, decide_eq_true_eq, true_and, and_true, at0, at1, at2, at3, at4, Bool.not_eq_true', decide_eq_false_iff_not, lg2, Int.reduceLT, ↓reduceIte, fLc, fScr, wipeE]
  intro ms hml
  refine ⟨by rw [List.length_map]; exact hml, ?_⟩
  refine lc_of (fun ds K => ∃ m : List Int, ds = m.map PyData.int ∧ ∀ cs : List Int, cs.length ≤ m.length → (∀ x ∈ cs, 0 ≤ x) → K (cs.map PyData.int)) ?_ ?_ _ _ ⟨ms, rfl, ?_⟩
  · rintro d ds K ⟨m, e, hK⟩ L hL
    cases m with
    | nil => cases e
    | cons i m =>
      cases e
      simp only [fSeqS, fSet, fSetN, fRet, fIfS, fNext, fBreak, fCont, fNever, fBin, fCmp, fV, fN, fC, lk, lk_z, lk_s, gAdd, gSub, gMul, gDiv, gMod, gPow, gShl, gShlW, gShr, gv, gLt, gLe, gGt, gGe, gEq, gNe, gIx, fNeg, fTV, fNot, fAnd, fOr, fAndV, fOrV, fNotV, fIf, fLN, fLC, fAN, fAC, fAB, fNV, fTup, fCB, bInt, bAbs, bLen, bMax2, bMin2, bTuple, fSeq, seqOf, fCall, fCallK, fAsg, gNm, gsNil, gsCons, gTpl, gSq, fPar, fMV, fMN, setAll, fApp, fExt, fSetIx, fFrz, fForS, fRng1, fRng2, fBits, fON, fOS, fSlT, fSlL, List.set_cons_zero, List.set_cons_succ, List.length_cons, List.length_nil, endsOf, decide_eq_true_eq, true_and, and_true, at0, at1, at2, at3, at4, Bool.not_eq_true', decide_eq_false_iff_not, lg2, Int.reduceLT, ↓reduceIte, fYes]
      refine hL _ ⟨m, rfl, fun cs hl h => hK ((if i < 0 then -i else i) :: cs) (by simp only [List.length_cons]; omega) fun x hx => ?_⟩
      rcases List.mem_cons.mp hx with rfl | hx
      · split <;> omega
      · exact h x hx
  · rintro K ⟨m, e, hK⟩
    cases m with
    | nil => exact hK [] (Nat.le_refl _) fun x hx => by cases hx
    | cons q m => cases e
  intro cs hcl hcs
  have hcl : cs.length ≤ 4000000 := Nat.le_trans hcl hml
  refine for_of (fun ds ρ => ∃ (c : List Int) (m : Int) (s : Sl), ds = c.map PyData.int ∧ ρ = [.bg, .sh (.list (cs.map PyData.int)), s, iS m] ∧ 0 ≤ m ∧ m < 2147483647) ?_ ?_ _ _ ⟨cs, _, _, rfl, rfl, by omega, by rw [List.length_map]; omega⟩
  · rintro d ds ρ ⟨c, m, s, e, rfl, m0, m1⟩ K hK
    cases c with
    | nil => cases e
    | cons x c =>
      cases e
      have sm : Sm 31 m := Sm.nat m0 (by omega)
      have sk : Sm 17 48271 := Sm.nat (by decide) (by decide)
      simp only [fSeqS, fSet, fSetN, fRet, fIfS, fNext, fBreak, fCont, fNever, fBin, fCmp, fV, fN, fC, lk, lk_z, lk_s, gAdd, gSub, gMul, gDiv, gMod, gPow, gShl, gShlW, gShr, gv, gLt, gLe, gGt, gGe, gEq, gNe, gIx, fNeg, fTV, fNot, fAnd, fOr, fAndV, fOrV, fNotV, fIf, fLN, fLC, fAN, fAC, fAB, fNV, fTup, fCB, bInt, bAbs, bLen, bMax2, bMin2, bTuple, fSeq, seqOf, fCall, fCallK, fAsg, gNm, gsNil, gsCons, gTpl, gSq, fPar, fMV, fMN, setAll, fApp, fExt, fSetIx, fFrz, fForS, fRng1, fRng2, fBits, fON, fOS, fSlT, fSlL, List.set_cons_zero, List.set_cons_succ, List.length_cons, List.length_nil, endsOf, decide_eq_true_eq, true_and, and_true, at0, at1, at2, at3, at4, Bool.not_eq_true', decide_eq_false_iff_not, lg2, Int.reduceLT, ↓reduceIte]
      have r0 := Int.emod_nonneg x (b := 2147483629) (by decide)
      refine ⟨mw sm sk, hK _ ⟨c, _, _, rfl, rfl, Int.emod_nonneg _ (by decide), Int.emod_lt_of_pos _ (by decide)⟩⟩
  · rintro ρ ⟨c, m, s, _, rfl, m0, m1⟩
    simp only [fSeqS, fSet, fSetN, fRet, fIfS, fNext, fBreak, fCont, fNever, fBin, fCmp, fV, fN, fC, lk, lk_z, lk_s, gAdd, gSub, gMul, gDiv, gMod, gPow, gShl, gShlW, gShr, gv, gLt, gLe, gGt, gGe, gEq, gNe, gIx, fNeg, fTV, fNot, fAnd, fOr, fAndV, fOrV, fNotV, fIf, fLN, fLC, fAN, fAC, fAB, fNV, fTup, fCB, bInt, bAbs, bLen, bMax2, bMin2, bTuple, fSeq, seqOf, fCall, fCallK, fAsg, gNm, gsNil, gsCons, gTpl, gSq, fPar, fMV, fMN, setAll, fApp, fExt, fSetIx, fFrz, fForS, fRng1, fRng2, fBits, fON, fOS, fSlT, fSlL, List.set_cons_zero, List.set_cons_succ, List.length_cons, List.length_nil, endsOf, decide_eq_true_eq, true_and, and_true, at0, at1, at2, at3, at4, Bool.not_eq_true', decide_eq_false_iff_not, lg2, Int.reduceLT, ↓reduceIte, fLRev]
    have := hq cs.reverse m (fun x hx => hcs x (List.mem_reverse.mp hx)) m0 m1
    rwa [List.map_reverse] at this
theorem cut_take (ds : List D) (k : Nat) : cutD ds none (some (k : Int)) = ds.take k := by
  unfold cutD
  rw [HT.sIx_none, HT.sIx_nat, List.drop_zero, Nat.sub_zero]
  by_cases h : k ≤ ds.length
  · rw [Nat.min_eq_left h]
  · rw [Nat.min_eq_right (by omega), List.take_of_length_le (Nat.le_refl _), List.take_of_length_le (by omega)]
theorem rep_flat (d : D) (n : Nat) : (List.replicate n [d]).flatten = List.replicate n d := by
  induction n with
  | zero => rfl
  | succ n ih => rw [List.replicate_succ, List.flatten_cons, ih, List.replicate_succ]; rfl
theorem lc_draws {g : GT} {e : SE} {ρ : Env} {P : Int → Prop} (hg : ∀ d K, (∀ x, P x → K (.int x)) → g d ρ fun ρ1 => e ρ1 K) : ∀ (ds : List D) (Q : List D → Prop), (∀ cs : List Int, cs.length = ds.length → (∀ x ∈ cs, P x) → Q (cs.map PyData.int)) → lcRun g fYes e ρ ds Q
  | [], Q, h => h [] rfl fun x hx => nomatch hx
  | d :: ds, Q, h => hg d _ fun x hx => lc_draws hg ds _ fun cs hl hc => h (x :: cs) (by rw [List.length_cons, List.length_cons, hl]) (fun y hy => by
      rcases List.mem_cons.mp hy with rfl | hy
      · exact hx
      · exact hc y hy)
theorem bit {r : Int} (h0 : 0 ≤ r) (h1 : r < 2) : r = 0 ∨ r = 1 := by omega
theorem r__law_own_word : ∀ ss (Q : D → Prop), S__law_own_word ss Q → g__law_own_word (endsOf Q) (initE N__law_own_word ss) := by
  rintro ss Q ⟨n, rfl, hn, hq⟩
  have hn : n ≤ 600 := hn
  have hq : ∀ w : Wo, Bw w ∧ w.length = n → Q (wdD w) := hq
  simp only [N__law_own_word, initE, List.length_cons, List.length_nil, Nat.reduceAdd, Nat.reduceSub, List.replicate, List.cons_append, List.nil_append, List.append_nil]
  unfold g__law_own_word
  get_elem_tactic_extensible
  refine go_dr _ (by decide) (by decide) fun way _ _ => ?_
  get_elem_tactic_extensible
  refine Go.ifd (fun h => ?_) (fun h => ?_)
  · get_elem_tactic_extensible
    refine go_dr _ (by omega) (by omega) fun at_ a0 a1 => ?_
    get_elem_tactic_extensible
    refine go_dr _ (by decide) (by decide) fun l l0 l1 => ?_
    get_elem_tactic_extensible
    have hb := bit l0 l1
    obtain ⟨k, rfl⟩ : ∃ k : Nat, at_ = (k : Int) := ⟨at_.toNat, by omega⟩
    refine ⟨rfl, ?_⟩
    get_elem_tactic_extensible
    refine ⟨by simp, by omega, by omega, by simp, ?_⟩
    get_elem_tactic_extensible
    refine ⟨?_, ?_⟩
    · rw [sizeLine_eq, Int.toNat_natCast, rep_flat, List.length_replicate]
      simp only [List.length_cons, List.length_nil]
      omega
    get_elem_tactic_extensible
    refine ⟨by simp, by omega, by omega, by simp, ?_⟩
    get_elem_tactic_extensible
    refine ⟨?_, ?_⟩
    · rw [sizeLine_eq, Int.toNat_natCast, Int.toNat_natCast, rep_flat, rep_flat, List.length_append, List.length_replicate, List.length_replicate]
      simp only [List.length_cons, List.length_nil]
      omega
    get_elem_tactic_extensible
    rw [cut_take, Int.toNat_natCast, Int.toNat_natCast, rep_flat, rep_flat]
    have e : (List.replicate k (PyData.int l) ++ [PyData.int (1 - l)] ++ List.replicate n (PyData.int l)).take n = ((List.replicate k l ++ [1 - l] ++ List.replicate n l).take n).map PyData.int := by
      rw [List.map_take, List.map_append, List.map_append, List.map_replicate, List.map_replicate]
      rfl
    rw [e]
    refine hq _ ⟨fun x hx => ?_, ?_⟩
    · have hx := List.mem_of_mem_take hx
      simp only [List.mem_append, List.mem_replicate, List.mem_singleton] at hx
      omega
    · rw [List.length_take, List.length_append, List.length_append, List.length_replicate, List.length_replicate]
      omega
  · get_elem_tactic_extensible
    have rg : RgOk 0 (n : Int) := ⟨by decide, by omega⟩
    refine ⟨rg, ?_⟩
    refine ⟨by rw [rng_len]; unfold most; omega, ?_⟩
    refine lc_draws (P := fun x => x = 0 ∨ x = 1) (fun d K hK => ?_) _ _ fun cs hl hc => ?_
    · get_elem_tactic_extensible
      exact go_dr _ (by decide) (by decide) fun r h0 h1 => hK r (bit h0 h1)
    · get_elem_tactic_extensible
      refine hq cs ⟨hc, ?_⟩
      rw [hl, rng_len]
      omega
theorem go_word {n : Nat} {Q : D → Prop} (hn : n ≤ 600) (hq : ∀ w : Wo, Bw w → w.length = n → Q (wdD w)) : S__law_own_word [.bg, iS (n : Int)] Q := ⟨n, rfl, hn, fun w h => hq w h.1 h.2⟩
theorem go_wordI {i : Int} {Q : D → Prop} (h0 : 0 ≤ i) (hn : i ≤ 600) (hq : ∀ w : Wo, Bw w → (w.length : Int) = i → Q (wdD w)) : S__law_own_word [.bg, iS i] Q := by
  obtain ⟨k, rfl⟩ : ∃ k : Nat, i = (k : Int) := ⟨i.toNat, by omega⟩
  exact go_word (by omega) fun w a b => hq w a (by omega)
theorem r__law_own_change : ∀ ss (Q : D → Prop), S__law_own_change ss Q → g__law_own_change (endsOf Q) (initE N__law_own_change ss) := by
  rintro ss Q ⟨n, rfl, ⟨n1, n2⟩, hq⟩
  have n1 : 1 ≤ n := n1
  have n2 : n ≤ 60 := n2
  have hq : ∀ c : Ch, ((Bw c.1 ∧ 1 ≤ c.1.length ∧ c.1.length ≤ n) ∧ Bw c.2 ∧ 1 ≤ c.2.length ∧ c.2.length ≤ n) → Q (chD c) := hq
  simp only [N__law_own_change, initE, List.length_cons, List.length_nil, Nat.reduceAdd, Nat.reduceSub, List.replicate, List.cons_append, List.nil_append, List.append_nil]
  unfold g__law_own_change
  get_elem_tactic_extensible
  refine go_dr _ (by omega) (by omega) fun r r0 r1 => ?_
  get_elem_tactic_extensible
  refine go_wordI (by omega) (by omega) fun v bv lv => ?_
  get_elem_tactic_extensible
  refine go_dr _ (by omega) (by omega) fun s s0 s1 => ?_
  get_elem_tactic_extensible
  refine go_wordI (by omega) (by omega) fun w bw lw => ?_
  get_elem_tactic_extensible
  exact hq (v, w) ⟨⟨bv, by dsimp only; omega, by dsimp only; omega⟩, bw, by dsimp only; omega, by dsimp only; omega⟩
end T
end DL
namespace DL
namespace T
open PySem L2 PySem.Spec PyProof.Rows
local macro_rules
  | `(tactic| get_elem_tactic_extensible) => `(tactic| (repeat (first | with_reducible refine Go.lc_go ?_ | with_reducible refine Go.ln_go ?_ | ((with_reducible apply Go.v_sh); exact rfl) | ((with_reducible apply Go.n_sh); exact rfl) | ((with_reducible apply Go.n_ow); exact rfl) | ((with_reducible apply Go.ab_go); exact rfl) | ((with_reducible apply Go.app_go); exact rfl) | ((with_reducible apply Go.ext_go); exact rfl) | with_reducible refine Go.c_go ?_ | with_reducible refine Go.tup_go ?_ | with_reducible refine Go.nv_go ?_ | with_reducible refine Go.bin_go ?_ | with_reducible refine Go.slT_go ?_ | with_reducible refine Go.slL_go ?_ | with_reducible refine Go.on_go ?_ | with_reducible refine Go.os_go ?_ | with_reducible refine Go.neg_go ?_ | with_reducible refine Go.sub_go ?_ | with_reducible refine Go.addI_go ?_ | with_reducible refine Go.seqT_go ?_ | with_reducible refine Go.call_go ?_ | with_reducible refine Go.callK_go ?_ | with_reducible refine Go.cb_go ?_ | with_reducible refine Go.dict1_go ?_ | with_reducible refine Go.if_go ?_ | with_reducible refine Go.an_go ?_ | with_reducible refine Go.ac_go ?_ | with_reducible refine Go.mv_go ?_ | with_reducible refine Go.par_go ?_ | with_reducible refine Go.sq_go ?_ | with_reducible refine Go.set_go ?_ | with_reducible refine Go.setN_go ?_ | with_reducible refine Go.ret_go ?_ | with_reducible refine Go.asg_go ?_ | with_reducible refine Go.ifs_go ?_ | with_reducible refine Go.next_go ?_ | with_reducible refine Go.nm_go ?_ | with_reducible refine Go.cmp_go ?_ | with_reducible refine Go.tv_go ?_ | with_reducible refine Go.not_go ?_ | with_reducible refine Go.and_go ?_ | with_reducible refine Go.or_go ?_ | with_reducible refine Go.lenT_go ?_ | with_reducible refine Go.lenL_go ?_ | with_reducible refine Go.absI_go ?_ | with_reducible refine Go.intI_go ?_ | with_reducible refine Go.max2_go ?_ | with_reducible refine Go.min2_go ?_ | with_reducible refine Go.tupL_go ?_ | with_reducible refine Go.tupT_go ?_ | with_reducible refine Go.gv_go ?_ | with_reducible refine Go.ltI_go ?_ | with_reducible refine Go.leI_go ?_ | with_reducible refine Go.gtI_go ?_ | with_reducible refine Go.geI_go ?_ | with_reducible refine Go.eqI_go ?_ | with_reducible refine Go.neI_go ?_ | with_reducible refine Go.eqS_go ?_ | with_reducible refine Go.rng1_go ?_ | ((first | with_reducible apply Go.ixL_go | with_reducible apply Go.ixT_go); first | exact DL.at0 _ _ | exact DL.at1 _ _ _ | exact DL.at2 _ _ _ _ | exact DL.at3 _ _ _ _ _ | exact DL.at4 _ _ _ _ _ _) | ((with_reducible apply Go.frz_go); exact rfl) | ((with_reducible apply Go.frz_sh); exact rfl) | with_reducible refine Go.mn_go ?_ | with_reducible refine Go.andV_go ?_ | ((first | with_reducible apply Go.sqT_go | with_reducible apply Go.sqL_go); exact rfl) | with_reducible refine Go.gsC_go ?_ | with_reducible refine Go.gsN_go ?_ | with_reducible refine Go.ifT (by decide +kernel) ?_ | with_reducible refine Go.ifF (by decide +kernel) ?_ | with_reducible refine Go.cat_go ?_ | with_reducible refine Go.callO_go ?_ | ((with_reducible apply Go.retO_go); exact rfl) | with_reducible refine Go.retN_go ?_ | with_reducible refine Go.ifN_go ?_ | with_reducible refine Go.yes_go ?_ | with_reducible refine Go.isI_go ?_ | with_reducible refine Go.isB_go ?_ | with_reducible refine Go.isN_go ?_ | with_reducible refine Go.notN_go ?_ | with_reducible refine Go.lrev_go ?_ | with_reducible refine Go.bk_go ?_ | with_reducible refine Go.ct_go ?_ | with_reducible refine Go.rng2_go ?_ | with_reducible refine Go.orV_go ?_ | with_reducible refine Go.notV_go ?_ | ((with_reducible apply Go.extT_go); exact rfl) | with_reducible refine Go.isI2_go ?_ | with_reducible refine Go.dict2_go ?_ | with_reducible refine Go.callE_go ?_ | with_reducible refine Go.callEK_go ?_ | with_reducible refine Go.raise0_go ?_ | with_reducible refine Go.raise1_go ?_ | ((with_reducible apply Go.is1_go); exact rfl) | ((with_reducible apply Go.isT_go); exact rfl) | ((with_reducible apply Go.fld_go); exact rfl) | ((with_reducible apply Go.setIx_go); exact rfl) | unfold fForS | unfold fLc | dsimp only [seqOf, List.set_cons_zero, List.set_cons_succ, setAll, wipeE])))
theorem askP_le {c : Ch} {w : Wo} (h : siz c w ≤ 2000) : askP c w = .list [.int 0, wdD (put c w)] := by unfold askP; rw [if_pos h]
theorem askP_gt {c : Ch} {w : Wo} (h : 2000 < siz c w) : askP c w = .list [.int 1, .int 2000, .bool true] := by unfold askP; rw [if_neg (by omega)]
/-- what the clause makes of the error -/
abbrev sui : SS := fSeqS (fSet 4 (fAndV (fIs1 3 "LineError") (fIs1 3 "ValueError"))) (fSeqS (fSet 5 (fIsT 3 ["Unfit", "BadText", "BadChain", "BadLog", "Refused", "NothingToUndo"])) (fRet (fNV (fLC (fC (.int 1)) (fLC (fFld 3 "limit") (fLC (fAndV (fN 4) (fNotV (fN 5))) fLN))))))
theorem odd_no : (!(["Unfit", "BadText", "BadChain", "BadLog", "Refused", "NothingToUndo"] : List Str).any fun T => subX tmX.nm T) = true := by decide
theorem hand {s0 s1 s2 : Sl} {Q : D → Prop} (h0 : noEx [s0, s1, s2] = true) (hq : Q (.list [.int 1, .int 2000, .bool true])) : fHand 3 "TooMany" sui (fun _ _ => False) (endsOf Q) tmX [s0, s1, s2, .un, .un, .un] := by
  refine Go.hand_yes rfl ?_ ?_
  · unfold noEx at h0 ⊢
    simp only [List.all_cons, List.all_nil, Bool.and_true] at h0 ⊢
    exact h0
  get_elem_tactic_extensible
  show (endsOf Q).rt (.list [.int 1, .int 2000, .bool (!(["Unfit", "BadText", "BadChain", "BadLog", "Refused", "NothingToUndo"] : List Str).any fun T => subX tmX.nm T)])
  rw [odd_no]
  exact hq
theorem r__law_ask_put : ∀ ss (Q : D → Prop), S__law_ask_put ss Q → g__law_ask_put (endsOf Q) (initE N__law_ask_put ss) := by
  rintro ss Q ⟨⟨c, w, b⟩, rfl, ⟨hc, hw⟩, hq⟩
  have hc : Cv c := hc
  have hw : Wv w := hw
  have hq : Q (askP c w) := hq
  simp only [N__law_ask_put, initE, List.length_cons, List.length_nil, Nat.reduceAdd, Nat.reduceSub, List.replicate, List.cons_append, List.nil_append, List.append_nil]
  unfold g__law_ask_put
  refine Go.try_go rfl ?_
  have ok : siz c w ≤ 2000 → Q (.list [.int 0, wdD (put c w)]) := fun h => by rw [askP_le h] at hq; exact hq
  have no : 2000 < siz c w → Q (.list [.int 1, .int 2000, .bool true]) := fun h => by rw [askP_gt h] at hq; exact hq
  get_elem_tactic_extensible
  cases b with
  | true =>
    rw [if_pos rfl]
    get_elem_tactic_extensible
    refine go_put hc hw (fun k => ?_) (fun k => hand rfl (no k))
    get_elem_tactic_extensible
    exact ok k
  | false =>
    rw [if_neg (by decide)]
    get_elem_tactic_extensible
    refine go_put hc hw (fun k => ?_) (fun k => hand rfl (no k))
    get_elem_tactic_extensible
    exact ok k
theorem go_ask {c : Ch} {w : Wo} {b : Bool} {Q : D → Prop} (hc : Cv c) (hw : Wv w) (hq : Q (askP c w)) : S__law_ask_put [cC c, wW w, bS b] Q := ⟨(c, w, b), rfl, ⟨hc, hw⟩, hq⟩
theorem r__law_ask_behind : ∀ ss (Q : D → Prop), S__law_ask_behind ss Q → g__law_ask_behind (endsOf Q) (initE N__law_ask_behind ss) := by
  rintro ss Q ⟨⟨c, o, b⟩, rfl, ⟨hc, ho⟩, hq⟩
  have hc : Cv c := hc
  have ho : Cv o := ho
  have hq : Q (askB c o) := hq
  simp only [N__law_ask_behind, initE, List.length_cons, List.length_nil, Nat.reduceAdd, Nat.reduceSub, List.replicate, List.cons_append, List.nil_append, List.append_nil]
  unfold g__law_ask_behind
  refine Go.try_go rfl ?_
  have ok : siz o c.1 ≤ 2000 → siz o c.2 ≤ 2000 → Q (.list [.int 0, chD (put o c.1, put o c.2)]) := fun h k => by unfold askB at hq; rw [if_pos ⟨h, k⟩] at hq; exact hq
  have no : 2000 < siz o c.1 ∨ 2000 < siz o c.2 → Q (.list [.int 1, .int 2000, .bool true]) := fun h => by unfold askB at hq; rw [if_neg (by omega)] at hq; exact hq
  get_elem_tactic_extensible
  cases b with
  | true =>
    rw [if_pos rfl]
    get_elem_tactic_extensible
    refine go_behind hc ho (fun k1 k2 => ?_) (fun k => hand rfl (no k))
    get_elem_tactic_extensible
    exact ok k1 k2
  | false =>
    rw [if_neg (by decide)]
    get_elem_tactic_extensible
    refine go_behind hc ho (fun k1 k2 => ?_) (fun k => hand rfl (no k))
    get_elem_tactic_extensible
    exact ok k1 k2
theorem go_askB {c o : Ch} {b : Bool} {Q : D → Prop} (hc : Cv c) (ho : Cv o) (hq : Q (askB c o)) : S__law_ask_behind [cC c, cC o, bS b] Q := ⟨(c, o, b), rfl, ⟨hc, ho⟩, hq⟩
/-! ### sizes of what is shown -/
theorem ni_wd {w : Wo} (h : Wv w) : Ni 1 1210000 (wdD w) := by
  have i : ∀ d ∈ w.map PyData.int, Ni 0 600 d := fun d hd => by
    obtain ⟨x, hx, rfl⟩ := List.mem_map.mp hd
    refine Ni.int ?_
    have := h.b x hx
    refine Nat.lt_of_lt_of_le (m := 2) (by omega) ?_
    exact Nat.le_trans (by decide : 2 ≤ 2 ^ 1) (Nat.pow_le_pow_right (by decide) (by decide))
  have l := h.l
  have z := Ni.tup (NiA.all i)
  rw [List.length_map] at z
  exact z.le (by decide) (by omega)
theorem ni_ch {c : Ch} (h : Cv c) : Ni 2 2500000 (chD c) := (Ni.tup (.cons (ni_wd h.a) (.cons (ni_wd h.b) (NiA.nil (w := 0))))).le (by decide) (by decide)
theorem ni_sm {x : Int} (h : Sm 1900 x) : Ni 0 600 (.int x) := Ni.int h
theorem sm_c {x : Int} (h0 : 0 ≤ x) (h : x < 4096) : Sm 1900 x := (Sm.nat (k := 12) h0 (by omega)).le (by decide)
theorem ni_t4 {t : T4} (h1 : Sm 1900 t.1) (h2 : Sm 1900 t.2.1) (h3 : Sm 1900 t.2.2.1) (h4 : Sm 1900 t.2.2.2) : Ni 2 5000 (t4D t) :=
  (Ni.tup (.cons (Ni.tup (.cons (ni_sm h1) (.cons (ni_sm h2) (NiA.nil (w := 0))))) (.cons (Ni.tup (.cons (ni_sm h3) (.cons (ni_sm h4) (NiA.nil (w := 0))))) (NiA.nil (w := 0))))).le (by decide) (by decide)
theorem ni_many : Ni 1 3000 (.list [.int 1, .int 2000, .bool true]) :=
  (Ni.list (.cons (ni_sm (sm_c (by decide) (by decide))) (.cons (ni_sm (sm_c (by decide) (by decide))) (.cons ((Ni.bool true).le (by decide) (by decide : 5 ≤ 600)) (NiA.nil (w := 0)))))).le (by decide) (by decide)
theorem own_wd {w : Wo} (h : Wv w) (n : Nat) : Own (n + 1) (wdD w) := ⟨by rw [List.length_map]; have := h.l; omega, fun e he => by
  obtain ⟨x, _, rfl⟩ := List.mem_map.mp he
  exact .inl rfl⟩
theorem own_ch {c : Ch} (h : Cv c) (n : Nat) : Own (n + 2) (chD c) := ⟨by simp, fun e he => by
  simp only [List.mem_cons, List.not_mem_nil, or_false] at he
  rcases he with rfl | rfl
  · exact .inr (own_wd h.a n)
  · exact .inr (own_wd h.b n)⟩
theorem own_t4 (t : T4) (n : Nat) : Own (n + 2) (t4D t) := ⟨by simp, fun e he => by
  have two : ∀ a b : Int, Own (n + 1) (.tuple [.int a, .int b]) := fun a b => ⟨by simp, fun e he => by
    simp only [List.mem_cons, List.not_mem_nil, or_false] at he
    rcases he with rfl | rfl <;> exact .inl rfl⟩
  simp only [List.mem_cons, List.not_mem_nil, or_false] at he
  rcases he with rfl | rfl
  · exact .inr (two _ _)
  · exact .inr (two _ _)⟩
end T
end DL
namespace DL
namespace T
open PySem L2 PySem.Spec PyProof.Rows
local macro_rules
  | `(tactic| get_elem_tactic_extensible) => `(tactic| (repeat (first | with_reducible refine Go.lc_go ?_ | with_reducible refine Go.ln_go ?_ | ((with_reducible apply Go.v_sh); exact rfl) | ((with_reducible apply Go.n_sh); exact rfl) | ((with_reducible apply Go.n_ow); exact rfl) | ((with_reducible apply Go.ab_go); exact rfl) | ((with_reducible apply Go.app_go); exact rfl) | ((with_reducible apply Go.ext_go); exact rfl) | with_reducible refine Go.c_go ?_ | with_reducible refine Go.tup_go ?_ | with_reducible refine Go.nv_go ?_ | with_reducible refine Go.bin_go ?_ | with_reducible refine Go.slT_go ?_ | with_reducible refine Go.slL_go ?_ | with_reducible refine Go.on_go ?_ | with_reducible refine Go.os_go ?_ | with_reducible refine Go.neg_go ?_ | with_reducible refine Go.sub_go ?_ | with_reducible refine Go.addI_go ?_ | with_reducible refine Go.seqT_go ?_ | with_reducible refine Go.call_go ?_ | with_reducible refine Go.callK_go ?_ | with_reducible refine Go.cb_go ?_ | with_reducible refine Go.dict1_go ?_ | with_reducible refine Go.if_go ?_ | with_reducible refine Go.an_go ?_ | with_reducible refine Go.ac_go ?_ | with_reducible refine Go.mv_go ?_ | with_reducible refine Go.par_go ?_ | with_reducible refine Go.sq_go ?_ | with_reducible refine Go.set_go ?_ | with_reducible refine Go.setN_go ?_ | with_reducible refine Go.ret_go ?_ | with_reducible refine Go.asg_go ?_ | with_reducible refine Go.ifs_go ?_ | with_reducible refine Go.next_go ?_ | with_reducible refine Go.nm_go ?_ | with_reducible refine Go.cmp_go ?_ | with_reducible refine Go.tv_go ?_ | with_reducible refine Go.not_go ?_ | with_reducible refine Go.and_go ?_ | with_reducible refine Go.or_go ?_ | with_reducible refine Go.lenT_go ?_ | with_reducible refine Go.lenL_go ?_ | with_reducible refine Go.absI_go ?_ | with_reducible refine Go.intI_go ?_ | with_reducible refine Go.max2_go ?_ | with_reducible refine Go.min2_go ?_ | with_reducible refine Go.tupL_go ?_ | with_reducible refine Go.tupT_go ?_ | with_reducible refine Go.gv_go ?_ | with_reducible refine Go.ltI_go ?_ | with_reducible refine Go.leI_go ?_ | with_reducible refine Go.gtI_go ?_ | with_reducible refine Go.geI_go ?_ | with_reducible refine Go.eqI_go ?_ | with_reducible refine Go.neI_go ?_ | with_reducible refine Go.eqS_go ?_ | with_reducible refine Go.rng1_go ?_ | ((first | with_reducible apply Go.ixL_go | with_reducible apply Go.ixT_go); first | exact DL.at0 _ _ | exact DL.at1 _ _ _ | exact DL.at2 _ _ _ _ | exact DL.at3 _ _ _ _ _ | exact DL.at4 _ _ _ _ _ _) | ((with_reducible apply Go.frz_go); exact rfl) | ((with_reducible apply Go.frz_sh); exact rfl) | with_reducible refine Go.mn_go ?_ | with_reducible refine Go.andV_go ?_ | ((first | with_reducible apply Go.sqT_go | with_reducible apply Go.sqL_go); exact rfl) | with_reducible refine Go.gsC_go ?_ | with_reducible refine Go.gsN_go ?_ | with_reducible refine Go.ifT (by decide +kernel) ?_ | with_reducible refine Go.ifF (by decide +kernel) ?_ | with_reducible refine Go.cat_go ?_ | with_reducible refine Go.callO_go ?_ | ((with_reducible apply Go.retO_go); exact rfl) | with_reducible refine Go.retN_go ?_ | with_reducible refine Go.ifN_go ?_ | with_reducible refine Go.yes_go ?_ | with_reducible refine Go.isI_go ?_ | with_reducible refine Go.isB_go ?_ | with_reducible refine Go.isN_go ?_ | with_reducible refine Go.notN_go ?_ | with_reducible refine Go.lrev_go ?_ | with_reducible refine Go.bk_go ?_ | with_reducible refine Go.ct_go ?_ | with_reducible refine Go.rng2_go ?_ | with_reducible refine Go.orV_go ?_ | with_reducible refine Go.notV_go ?_ | ((with_reducible apply Go.extT_go); exact rfl) | with_reducible refine Go.isI2_go ?_ | with_reducible refine Go.dict2_go ?_ | with_reducible refine Go.callE_go ?_ | with_reducible refine Go.callEK_go ?_ | with_reducible refine Go.raise0_go ?_ | with_reducible refine Go.raise1_go ?_ | ((with_reducible apply Go.is1_go); exact rfl) | ((with_reducible apply Go.isT_go); exact rfl) | ((with_reducible apply Go.fld_go); exact rfl) | ((with_reducible apply Go.setIx_go); exact rfl) | unfold fForS | unfold fLc | dsimp only [seqOf, List.set_cons_zero, List.set_cons_succ, setAll, wipeE])))
theorem ni_two {a b : D} {n w v : Nat} (h : Ni n w a) (k : Ni n v b) : Ni (n + 1) (w + v + 7) (.list [a, b]) := (Ni.list (.cons h (.cons k (NiA.nil (w := 0))))).le (by omega) (by omega)
theorem r__law_is_put_right : ∀ ss (Q : D → Prop), S__law_is_put_right ss Q → g__law_is_put_right (endsOf Q) (initE N__law_is_put_right ss) := by
  rintro ss Q ⟨⟨c, w, b⟩, rfl, ⟨hc, hw⟩, hq⟩
  have hc : Cv c := hc
  have hw : Wv w := hw
  have hq : Q (.bool true) := hq
  simp only [N__law_is_put_right, initE, List.length_cons, List.length_nil, Nat.reduceAdd, Nat.reduceSub, List.replicate, List.cons_append, List.nil_append, List.append_nil]
  unfold g__law_is_put_right
  have nk : Ni 3 4000000 (.list [chD c, wdD w]) := (ni_two (ni_ch hc) ((ni_wd hw).le (by decide) (Nat.le_refl _))).le (by decide) (by decide)
  get_elem_tactic_extensible
  refine nk.reprA (by decide) (by decide) ?_
  get_elem_tactic_extensible
  refine go_ask hc hw ?_
  get_elem_tactic_extensible
  refine go_size hc hw ?_
  get_elem_tactic_extensible
  refine Go.ifd (fun h => ?_) (fun h => ?_)
  · rw [askP_gt (by omega)]
    get_elem_tactic_extensible
    refine ni_many.reprA (by decide) (by decide) ?_
    get_elem_tactic_extensible
    refine ni_many.reprA (by decide) (by decide) ?_
    get_elem_tactic_extensible
    rw [decide_eq_true rfl]
    exact hq
  · have hs : siz c w ≤ 2000 := by omega
    rw [askP_le hs]
    get_elem_tactic_extensible
    refine go_lput hc hw hs ?_
    get_elem_tactic_extensible
    have hp := put_wv hc hw.b hs
    refine go_same (own_wd hp 4) ((ni_wd hp).le (by decide) (by decide)) ?_
    get_elem_tactic_extensible
    refine nk.reprA (by decide) (by decide) ?_
    get_elem_tactic_extensible
    rw [decide_eq_true rfl]
    exact hq
theorem go_put_right {c : Ch} {w : Wo} {b : Bool} {Q : D → Prop} (hc : Cv c) (hw : Wv w) (hq : Q (.bool true)) : S__law_is_put_right [cC c, wW w, bS b] Q := ⟨(c, w, b), rfl, ⟨hc, hw⟩, hq⟩
theorem max_two {a b : Int} {Q : D → Prop} (hq : ∀ m : Int, (2000 < m ↔ 2000 < a ∨ 2000 < b) → Q (.int m)) : bMaxL [.list [.int a, .int b]] Q := by
  refine ⟨by simp, fun m hm hy => hq m ?_⟩
  have h1 := hy a (by simp)
  have h2 := hy b (by simp)
  simp only [List.mem_cons, List.not_mem_nil, or_false] at hm
  omega
theorem neS (x : Str) {Q : Bool → Prop} (h : Q false) : gNe (.str x) (.str x) Q := by
  show Q (!decide (x = x))
  rw [decide_eq_true rfl]
  exact h
theorem r__law_is_behind_right : ∀ ss (Q : D → Prop), S__law_is_behind_right ss Q → g__law_is_behind_right (endsOf Q) (initE N__law_is_behind_right ss) := by
  rintro ss Q ⟨⟨c, o, b⟩, rfl, ⟨hc, ho⟩, hq⟩
  have hc : Cv c := hc
  have ho : Cv o := ho
  have hq : Q (.bool true) := hq
  simp only [N__law_is_behind_right, initE, List.length_cons, List.length_nil, Nat.reduceAdd, Nat.reduceSub, List.replicate, List.cons_append, List.nil_append, List.append_nil]
  unfold g__law_is_behind_right
  have nk : Ni 3 6000000 (.list [chD c, chD o]) := (ni_two (ni_ch hc) (ni_ch ho)).le (by decide) (by decide)
  get_elem_tactic_extensible
  refine nk.reprA (by decide) (by decide) ?_
  generalize hS : PyData.shown (.list [chD c, chD o]) = sx
  get_elem_tactic_extensible
  refine go_askB hc ho ?_
  get_elem_tactic_extensible
  refine ⟨by unfold most; simp, ?_⟩
  simp only [lcRun, gNm, fYes, List.set_cons_zero, List.set_cons_succ, if_true]
  get_elem_tactic_extensible
  refine go_size ho hc.a ?_
  get_elem_tactic_extensible
  refine go_size ho hc.b ?_
  get_elem_tactic_extensible
  refine max_two fun m hm => ?_
  get_elem_tactic_extensible
  refine Go.ifd (fun h => ?_) (fun h => ?_)
  · have e : askB c o = .list [.int 1, .int 2000, .bool true] := by
      unfold askB
      rw [if_neg (by omega)]
    rw [e]
    get_elem_tactic_extensible
    refine ni_many.reprA (by decide) (by decide) ?_
    get_elem_tactic_extensible
    refine ni_many.reprA (by decide) (by decide) ?_
    get_elem_tactic_extensible
    rw [decide_eq_true rfl]
    exact hq
  · have s1 : siz o c.1 ≤ 2000 := by omega
    have s2 : siz o c.2 ≤ 2000 := by omega
    have e : askB c o = .list [.int 0, chD (put o c.1, put o c.2)] := by
      unfold askB
      rw [if_pos ⟨s1, s2⟩]
    rw [e]
    have p1 := put_wv ho hc.a.b s1
    have p2 := put_wv ho hc.b.b s2
    have hp : Cv (put o c.1, put o c.2) := ⟨p1, p2⟩
    have tp := tb_put (o := o) hc
    have tv := tb_tv hp
    have nt : Ni 20 8000000 (t4D (tb (put o c.1, put o c.2))) := (ni_t4 (tv.1.le (by decide)) (tv.2.1.le (by decide)) (tv.2.2.1.le (by decide)) (tv.2.2.2.le (by decide))).le (by decide) (by decide)
    get_elem_tactic_extensible
    refine Go.ixT_go (at0 _ _) ?_
    get_elem_tactic_extensible
    refine go_lput ho hc.a s1 ?_
    get_elem_tactic_extensible
    refine Go.ixT_go (at1 _ _ _) ?_
    get_elem_tactic_extensible
    refine go_lput ho hc.b s2 ?_
    get_elem_tactic_extensible
    have w1 : Own 5 (chD (put o c.1, put o c.2)) := own_ch hp 3
    have w2 : Ni 20 8000000 (chD (put o c.1, put o c.2)) := (ni_ch hp).le (by decide) (by decide)
    refine go_same (d := chD (put o c.1, put o c.2)) w1 w2 ?_
    get_elem_tactic_extensible
    refine nk.reprA (by decide) (by decide) ?_
    rw [hS]
    refine Go.n_sh rfl ?_
    refine neS sx ?_
    get_elem_tactic_extensible
    have w3 : Own 5 (t4D (tb (put o c.1, put o c.2))) := own_t4 _ 3
    have tail : ∀ E : En, (E.rt = Q) → (fSeqS (fIfS (fNot (fTV (fCall S__law_is_same (fAC (fV 7) (fAC (fCall S__law_table (fAC (fV 6) fAN)) fAN))))) (fRet (fC (.bool false))) fNext) (fRet (fCall S__law_is_same (fAC (fV 7) (fAC (fCall S__law_product (fAC (fCall S_change_table (fAC (fV 0) fAN)) (fAC (fCall S_change_table (fAC (fV 1) fAN)) fAN))) fAN))))) E [cC c, cC o, bS b, .sh (.str sx), .sh (.list [.int 0, chD (put o c.1, put o c.2)]), .un, .sh (chD (put o c.1, put o c.2)), .sh (t4D (tb (put o c.1, put o c.2)))] := fun E hE => by
      get_elem_tactic_extensible
      refine go_ltable hp ?_
      get_elem_tactic_extensible
      refine go_same w3 nt ?_
      get_elem_tactic_extensible
      refine go_ctable hc ?_
      get_elem_tactic_extensible
      refine go_ctable ho ?_
      get_elem_tactic_extensible
      refine go_product (tb_tv hc) (tb_tv ho) ?_
      rw [← tp]
      get_elem_tactic_extensible
      refine go_same w3 nt ?_
      rw [hE]
      exact hq
    cases b with
    | true =>
      rw [if_pos rfl]
      get_elem_tactic_extensible
      refine go_ctable hp ?_
      exact tail _ rfl
    | false =>
      rw [if_neg (by decide)]
      get_elem_tactic_extensible
      refine go_ctable hp ?_
      exact tail _ rfl
theorem go_behind_right {c o : Ch} {b : Bool} {Q : D → Prop} (hc : Cv c) (ho : Cv o) (hq : Q (.bool true)) : S__law_is_behind_right [cC c, cC o, bS b] Q := ⟨(c, o, b), rfl, ⟨hc, ho⟩, hq⟩
end T
end DL
namespace DL
namespace T
open PySem L2 PySem.Spec PyProof.Rows
local macro_rules
  | `(tactic| get_elem_tactic_extensible) => `(tactic| (repeat (first | with_reducible refine Go.lc_go ?_ | with_reducible refine Go.ln_go ?_ | ((with_reducible apply Go.v_sh); exact rfl) | ((with_reducible apply Go.n_sh); exact rfl) | ((with_reducible apply Go.n_ow); exact rfl) | ((with_reducible apply Go.ab_go); exact rfl) | ((with_reducible apply Go.app_go); exact rfl) | ((with_reducible apply Go.ext_go); exact rfl) | with_reducible refine Go.c_go ?_ | with_reducible refine Go.tup_go ?_ | with_reducible refine Go.nv_go ?_ | with_reducible refine Go.bin_go ?_ | with_reducible refine Go.slT_go ?_ | with_reducible refine Go.slL_go ?_ | with_reducible refine Go.on_go ?_ | with_reducible refine Go.os_go ?_ | with_reducible refine Go.neg_go ?_ | with_reducible refine Go.sub_go ?_ | with_reducible refine Go.addI_go ?_ | with_reducible refine Go.seqT_go ?_ | with_reducible refine Go.call_go ?_ | with_reducible refine Go.callK_go ?_ | with_reducible refine Go.cb_go ?_ | with_reducible refine Go.dict1_go ?_ | with_reducible refine Go.if_go ?_ | with_reducible refine Go.an_go ?_ | with_reducible refine Go.ac_go ?_ | with_reducible refine Go.mv_go ?_ | with_reducible refine Go.par_go ?_ | with_reducible refine Go.sq_go ?_ | with_reducible refine Go.set_go ?_ | with_reducible refine Go.setN_go ?_ | with_reducible refine Go.ret_go ?_ | with_reducible refine Go.asg_go ?_ | with_reducible refine Go.ifs_go ?_ | with_reducible refine Go.next_go ?_ | with_reducible refine Go.nm_go ?_ | with_reducible refine Go.cmp_go ?_ | with_reducible refine Go.tv_go ?_ | with_reducible refine Go.not_go ?_ | with_reducible refine Go.and_go ?_ | with_reducible refine Go.or_go ?_ | with_reducible refine Go.lenT_go ?_ | with_reducible refine Go.lenL_go ?_ | with_reducible refine Go.absI_go ?_ | with_reducible refine Go.intI_go ?_ | with_reducible refine Go.max2_go ?_ | with_reducible refine Go.min2_go ?_ | with_reducible refine Go.tupL_go ?_ | with_reducible refine Go.tupT_go ?_ | with_reducible refine Go.gv_go ?_ | with_reducible refine Go.ltI_go ?_ | with_reducible refine Go.leI_go ?_ | with_reducible refine Go.gtI_go ?_ | with_reducible refine Go.geI_go ?_ | with_reducible refine Go.eqI_go ?_ | with_reducible refine Go.neI_go ?_ | with_reducible refine Go.eqS_go ?_ | with_reducible refine Go.rng1_go ?_ | ((first | with_reducible apply Go.ixL_go | with_reducible apply Go.ixT_go); first | exact DL.at0 _ _ | exact DL.at1 _ _ _ | exact DL.at2 _ _ _ _ | exact DL.at3 _ _ _ _ _ | exact DL.at4 _ _ _ _ _ _) | ((with_reducible apply Go.frz_go); exact rfl) | ((with_reducible apply Go.frz_sh); exact rfl) | with_reducible refine Go.mn_go ?_ | with_reducible refine Go.andV_go ?_ | ((first | with_reducible apply Go.sqT_go | with_reducible apply Go.sqL_go); exact rfl) | with_reducible refine Go.gsC_go ?_ | with_reducible refine Go.gsN_go ?_ | with_reducible refine Go.ifT (by decide +kernel) ?_ | with_reducible refine Go.ifF (by decide +kernel) ?_ | with_reducible refine Go.cat_go ?_ | with_reducible refine Go.callO_go ?_ | ((with_reducible apply Go.retO_go); exact rfl) | with_reducible refine Go.retN_go ?_ | with_reducible refine Go.ifN_go ?_ | with_reducible refine Go.yes_go ?_ | with_reducible refine Go.isI_go ?_ | with_reducible refine Go.isB_go ?_ | with_reducible refine Go.isN_go ?_ | with_reducible refine Go.notN_go ?_ | with_reducible refine Go.lrev_go ?_ | with_reducible refine Go.bk_go ?_ | with_reducible refine Go.ct_go ?_ | with_reducible refine Go.rng2_go ?_ | with_reducible refine Go.orV_go ?_ | with_reducible refine Go.notV_go ?_ | ((with_reducible apply Go.extT_go); exact rfl) | with_reducible refine Go.isI2_go ?_ | with_reducible refine Go.dict2_go ?_ | with_reducible refine Go.callE_go ?_ | with_reducible refine Go.callEK_go ?_ | with_reducible refine Go.raise0_go ?_ | with_reducible refine Go.raise1_go ?_ | ((with_reducible apply Go.is1_go); exact rfl) | ((with_reducible apply Go.isT_go); exact rfl) | ((with_reducible apply Go.fld_go); exact rfl) | ((with_reducible apply Go.setIx_go); exact rfl) | unfold fForS | unfold fLc | dsimp only [seqOf, List.set_cons_zero, List.set_cons_succ, setAll, wipeE])))
def idC : Ch := ([0], [1])
def swC : Ch := ([1], [0])
theorem wv1 {x : Int} (h : x = 0 ∨ x = 1) : Wv [x] := ⟨fun y hy => by rw [List.mem_singleton.mp hy]; exact h, by simp⟩
theorem idC_v : Cv idC := ⟨wv1 (.inl rfl), wv1 (.inr rfl)⟩
theorem swC_v : Cv swC := ⟨wv1 (.inr rfl), wv1 (.inl rfl)⟩
theorem put0 (c : Ch) : put c [0] = c.1 := by rw [put_cons, put_nil, List.append_nil]; unfold im; rw [if_neg (by decide)]
theorem put1 (c : Ch) : put c [1] = c.2 := by rw [put_cons, put_nil, List.append_nil]; unfold im; rw [if_pos rfl]
theorem siz0 (c : Ch) : siz c [0] = (c.1.length : Int) := by rw [← put_len c (wv1 (.inl rfl)).b, put0]
theorem siz1 (c : Ch) : siz c [1] = (c.2.length : Int) := by rw [← put_len c (wv1 (.inr rfl)).b, put1]
theorem siz_id {w : Wo} (h : Bw w) : siz idC w = (w.length : Int) := by rw [← put_len idC h]; unfold idC; rw [put_same h]
theorem lI {w : Wo} (h : Wv w) : (w.length : Int) ≤ 2000 := by have := h.l; omega
theorem eqS (x : Str) {Q : Bool → Prop} (h : Q true) : gEq (.str x) (.str x) Q := by
  show Q (decide (x = x))
  rw [decide_eq_true rfl]
  exact h
theorem r__law_are_ways_right : ∀ ss (Q : D → Prop), S__law_are_ways_right ss Q → g__law_are_ways_right (endsOf Q) (initE N__law_are_ways_right ss) := by
  rintro ss Q ⟨⟨c, o, w⟩, rfl, ⟨hc, ho, hw⟩, hq⟩
  have hc : Cv c := hc
  have ho : Cv o := ho
  have hw : Wv w := hw
  have hq : Q (.bool true) := hq
  simp only [N__law_are_ways_right, initE, List.length_cons, List.length_nil, Nat.reduceAdd, Nat.reduceSub, List.replicate, List.cons_append, List.nil_append, List.append_nil]
  unfold g__law_are_ways_right
  get_elem_tactic_extensible
  refine go_size hc hw ?_
  get_elem_tactic_extensible
  refine Go.ifd (fun h => ?_) (fun h0 => ?_)
  · get_elem_tactic_extensible
    exact hq
  · get_elem_tactic_extensible
    refine ⟨by unfold most; simp, ?_⟩
    simp only [lcRun, gNm, fYes, List.set_cons_zero, List.set_cons_succ, if_true]
    get_elem_tactic_extensible
    refine go_size ho hc.a ?_
    get_elem_tactic_extensible
    refine go_size ho hc.b ?_
    get_elem_tactic_extensible
    refine max_two fun m hm => ?_
    get_elem_tactic_extensible
    refine Go.ifd (fun h => ?_) (fun h => ?_)
    · get_elem_tactic_extensible
      exact hq
    · have s1 : siz o c.1 ≤ 2000 := by omega
      have s2 : siz o c.2 ≤ 2000 := by omega
      have sw : siz c w ≤ 2000 := by omega
      have p1 := put_wv ho hc.a.b s1
      have p2 := put_wv ho hc.b.b s2
      have pw := put_wv hc hw.b sw
      have hp : Cv (put o c.1, put o c.2) := ⟨p1, p2⟩
      have pp := put_put c o w
      have sb : siz (put o c.1, put o c.2) w = siz o (put c w) := by rw [← put_len _ hw.b, pp, put_len _ pw.b]
      generalize hB : ((put o c.1, put o c.2) : Ch) = B at hp pp sb
      generalize hM : put c w = M at pw pp sb
      get_elem_tactic_extensible
      refine go_behind hc ho (fun _ _ => ?_) (fun k => absurd k (by omega))
      rw [hB]
      get_elem_tactic_extensible
      refine go_put hc hw (fun _ => ?_) (fun k => absurd k (by omega))
      rw [hM]
      refine ⟨rfl, ?_⟩
      get_elem_tactic_extensible
      refine go_size ho pw ?_
      get_elem_tactic_extensible
      have rest : ∀ E : En, E.rt = Q → (fSeqS (fSet 6 (fTup (fLC (fTup (fLC (fC (.int 0)) fLN)) (fLC (fTup (fLC (fC (.int 1)) fLN)) fLN)))) (fSeqS (fIfS (fOr (fNot (fTV (fCall S__law_is_same (fAC (fCallE (fun _ _ => False) S_change_behind (fAC (fV 6) (fAC (fV 0) fAN))) (fAC (fV 0) fAN))))) (fNot (fTV (fCall S__law_is_same (fAC (fCallE (fun _ _ => False) S_change_behind (fAC (fV 0) (fAC (fV 6) fAN))) (fAC (fV 0) fAN)))))) (fRet (fC (.bool false))) fNext) (fSeqS (fSet 7 (fTup (fLC (fTup (fLC (fC (.int 1)) fLN)) (fLC (fTup (fLC (fC (.int 0)) fLN)) fLN)))) (fSeqS (fSet 8 (fCallE (fun _ _ => False) S_change_behind (fAC (fV 7) (fAC (fV 0) fAN)))) (fSeqS (fIfS (fNot (fTV (fCall S__law_is_same (fAC (fV 8) (fAC (fTup (fLC (fBin gIx (fN 0) (fC (.int 1))) (fLC (fBin gIx (fN 0) (fC (.int 0))) fLN))) fAN))))) (fRet (fC (.bool false))) fNext) (fRet (fBin (gv gEq) (fCB bReprA (fLC (fCallE (fun _ _ => False) S_change_behind (fAC (fV 7) (fAC (fV 4) fAN))) fLN)) (fCB bReprA (fLC (fCallE (fun _ _ => False) S_change_behind (fAC (fV 8) (fAC (fV 1) fAN))) fLN)))))))))
          E [cC c, cC o, wW w, .un, cC B, wW M, .un, .un, .un] := fun E hE => by
        have sB1 := lI hp.a
        have sB2 := lI hp.b
        have sc1 := lI hc.a
        have sc2 := lI hc.b
        have w1 : Own 5 (chD c) := own_ch hc 3
        have w2 : Ni 20 8000000 (chD c) := (ni_ch hc).le (by decide) (by decide)
        have hs : Cv (c.2, c.1) := ⟨hc.b, hc.a⟩
        have w3 : Own 5 (chD (c.2, c.1)) := own_ch hs 3
        have w4 : Ni 20 8000000 (chD (c.2, c.1)) := (ni_ch hs).le (by decide) (by decide)
        have hsB : Cv (B.2, B.1) := ⟨hp.b, hp.a⟩
        have w5 : Ni 20 8000000 (chD (B.2, B.1)) := (ni_ch hsB).le (by decide) (by decide)
        get_elem_tactic_extensible
        refine go_behind (c := idC) idC_v hc (fun _ _ => ?_) (fun k => ?_)
        · rw [show put c idC.1 = c.1 from put0 c, show put c idC.2 = c.2 from put1 c]
          get_elem_tactic_extensible
          refine go_same w1 w2 ?_
          get_elem_tactic_extensible
          refine go_behind (o := idC) hc idC_v (fun _ _ => ?_) (fun k => ?_)
          · rw [show put idC c.1 = c.1 from put_same hc.a.b, show put idC c.2 = c.2 from put_same hc.b.b]
            get_elem_tactic_extensible
            refine go_same w1 w2 ?_
            get_elem_tactic_extensible
            refine go_behind (c := swC) swC_v hc (fun _ _ => ?_) (fun k => ?_)
            · rw [show put c swC.1 = c.2 from put1 c, show put c swC.2 = c.1 from put0 c]
              get_elem_tactic_extensible
              refine Go.ixT_go (at1 _ _ _) ?_
              get_elem_tactic_extensible
              refine Go.ixT_go (at0 _ _) ?_
              get_elem_tactic_extensible
              refine go_same (d := chD (c.2, c.1)) w3 w4 ?_
              get_elem_tactic_extensible
              refine go_behind (c := swC) swC_v hp (fun _ _ => ?_) (fun k => ?_)
              · rw [show put B swC.1 = B.2 from put1 B, show put B swC.2 = B.1 from put0 B]
                get_elem_tactic_extensible
                refine w5.reprA (by decide) (by decide) ?_
                generalize hX : PyData.shown (chD (B.2, B.1)) = sx
                get_elem_tactic_extensible
                refine go_behind (c := (c.2, c.1)) hs ho (fun _ _ => ?_) (fun k => ?_)
                · have eB : ((put o (c.2, c.1).1, put o (c.2, c.1).2) : Ch) = (B.2, B.1) := by rw [← hB]
                  rw [eB]
                  get_elem_tactic_extensible
                  refine w5.reprA (by decide) (by decide) ?_
                  rw [hX]
                  refine eqS sx ?_
                  rw [hE]
                  exact hq
                · have k' : 2000 < siz o c.2 ∨ 2000 < siz o c.1 := k
                  omega
              · have a1 : siz B swC.1 = _ := siz1 B
                have a2 : siz B swC.2 = _ := siz0 B
                rw [a1, a2] at k
                omega
            · have a1 : siz c swC.1 = _ := siz1 c
              have a2 : siz c swC.2 = _ := siz0 c
              rw [a1, a2] at k
              omega
          · rw [siz_id hc.a.b, siz_id hc.b.b] at k
            omega
        · have a1 : siz c idC.1 = _ := siz0 c
          have a2 : siz c idC.2 = _ := siz1 c
          rw [a1, a2] at k
          omega
      refine Go.ifd (fun h1 => ?_) (fun h1 => ?_)
      · get_elem_tactic_extensible
        have hPM := put_wv ho pw.b h1
        have n1 := ni_wd hPM
        refine go_put hp hw (fun _ => ?_) (fun k => absurd k (by omega))
        rw [pp]
        get_elem_tactic_extensible
        refine n1.reprA (by decide) (by decide) ?_
        generalize hX : PyData.shown (wdD (put o M)) = sx
        get_elem_tactic_extensible
        refine go_put ho pw (fun _ => ?_) (fun k => absurd k (by omega))
        get_elem_tactic_extensible
        refine n1.reprA (by decide) (by decide) ?_
        rw [hX]
        refine neS sx ?_
        get_elem_tactic_extensible
        exact rest _ rfl
      · get_elem_tactic_extensible
        exact rest _ rfl
theorem go_ways {c o : Ch} {w : Wo} {Q : D → Prop} (hc : Cv c) (ho : Cv o) (hw : Wv w) (hq : Q (.bool true)) : S__law_are_ways_right [cC c, cC o, wW w] Q := ⟨(c, o, w), rfl, ⟨hc, ho, hw⟩, hq⟩
end T
end DL
namespace DL
namespace T
open PySem L2 PySem.Spec PyProof.Rows
local macro_rules
  | `(tactic| get_elem_tactic_extensible) => `(tactic| (repeat (first | with_reducible refine Go.lc_go ?_ | with_reducible refine Go.ln_go ?_ | ((with_reducible apply Go.v_sh); exact rfl) | ((with_reducible apply Go.n_sh); exact rfl) | ((with_reducible apply Go.n_ow); exact rfl) | ((with_reducible apply Go.ab_go); exact rfl) | ((with_reducible apply Go.app_go); exact rfl) | ((with_reducible apply Go.ext_go); exact rfl) | with_reducible refine Go.c_go ?_ | with_reducible refine Go.tup_go ?_ | with_reducible refine Go.nv_go ?_ | with_reducible refine Go.bin_go ?_ | with_reducible refine Go.slT_go ?_ | with_reducible refine Go.slL_go ?_ | with_reducible refine Go.on_go ?_ | with_reducible refine Go.os_go ?_ | with_reducible refine Go.neg_go ?_ | with_reducible refine Go.sub_go ?_ | with_reducible refine Go.addI_go ?_ | with_reducible refine Go.seqT_go ?_ | with_reducible refine Go.call_go ?_ | with_reducible refine Go.callK_go ?_ | with_reducible refine Go.cb_go ?_ | with_reducible refine Go.dict1_go ?_ | with_reducible refine Go.if_go ?_ | with_reducible refine Go.an_go ?_ | with_reducible refine Go.ac_go ?_ | with_reducible refine Go.mv_go ?_ | with_reducible refine Go.par_go ?_ | with_reducible refine Go.sq_go ?_ | with_reducible refine Go.set_go ?_ | with_reducible refine Go.setN_go ?_ | with_reducible refine Go.ret_go ?_ | with_reducible refine Go.asg_go ?_ | with_reducible refine Go.ifs_go ?_ | with_reducible refine Go.next_go ?_ | with_reducible refine Go.nm_go ?_ | with_reducible refine Go.cmp_go ?_ | with_reducible refine Go.tv_go ?_ | with_reducible refine Go.not_go ?_ | with_reducible refine Go.and_go ?_ | with_reducible refine Go.or_go ?_ | with_reducible refine Go.lenT_go ?_ | with_reducible refine Go.lenL_go ?_ | with_reducible refine Go.absI_go ?_ | with_reducible refine Go.intI_go ?_ | with_reducible refine Go.max2_go ?_ | with_reducible refine Go.min2_go ?_ | with_reducible refine Go.tupL_go ?_ | with_reducible refine Go.tupT_go ?_ | with_reducible refine Go.gv_go ?_ | with_reducible refine Go.ltI_go ?_ | with_reducible refine Go.leI_go ?_ | with_reducible refine Go.gtI_go ?_ | with_reducible refine Go.geI_go ?_ | with_reducible refine Go.eqI_go ?_ | with_reducible refine Go.neI_go ?_ | with_reducible refine Go.eqS_go ?_ | with_reducible refine Go.rng1_go ?_ | ((first | with_reducible apply Go.ixL_go | with_reducible apply Go.ixT_go); first | exact DL.at0 _ _ | exact DL.at1 _ _ _ | exact DL.at2 _ _ _ _ | exact DL.at3 _ _ _ _ _ | exact DL.at4 _ _ _ _ _ _) | ((with_reducible apply Go.frz_go); exact rfl) | ((with_reducible apply Go.frz_sh); exact rfl) | with_reducible refine Go.mn_go ?_ | with_reducible refine Go.andV_go ?_ | ((first | with_reducible apply Go.sqT_go | with_reducible apply Go.sqL_go); exact rfl) | with_reducible refine Go.gsC_go ?_ | with_reducible refine Go.gsN_go ?_ | with_reducible refine Go.ifT (by decide +kernel) ?_ | with_reducible refine Go.ifF (by decide +kernel) ?_ | with_reducible refine Go.cat_go ?_ | with_reducible refine Go.callO_go ?_ | ((with_reducible apply Go.retO_go); exact rfl) | with_reducible refine Go.retN_go ?_ | with_reducible refine Go.ifN_go ?_ | with_reducible refine Go.yes_go ?_ | with_reducible refine Go.isI_go ?_ | with_reducible refine Go.isB_go ?_ | with_reducible refine Go.isN_go ?_ | with_reducible refine Go.notN_go ?_ | with_reducible refine Go.lrev_go ?_ | with_reducible refine Go.bk_go ?_ | with_reducible refine Go.ct_go ?_ | with_reducible refine Go.rng2_go ?_ | with_reducible refine Go.orV_go ?_ | with_reducible refine Go.notV_go ?_ | ((with_reducible apply Go.extT_go); exact rfl) | with_reducible refine Go.isI2_go ?_ | with_reducible refine Go.dict2_go ?_ | with_reducible refine Go.callE_go ?_ | with_reducible refine Go.callEK_go ?_ | with_reducible refine Go.raise0_go ?_ | with_reducible refine Go.raise1_go ?_ | ((with_reducible apply Go.is1_go); exact rfl) | ((with_reducible apply Go.isT_go); exact rfl) | ((with_reducible apply Go.fld_go); exact rfl) | ((with_reducible apply Go.setIx_go); exact rfl) | unfold fForS | unfold fLc | dsimp only [seqOf, List.set_cons_zero, List.set_cons_succ, setAll, wipeE])))
theorem shp_tup {es : List D} (h : ∀ d ∈ es, Ni 5 40000 d) : SeqAt.shaped (.tuple es) = true := (Ni.tup (NiA.all h)).shaped (by decide)
theorem shp_list {es : List D} (h : ∀ d ∈ es, Ni 5 40000 d) : SeqAt.shaped (.list es) = true := (Ni.list (NiA.all h)).shaped (by decide)
theorem eqv_tup0 (es : List D) : PyData.eqv (.tuple es) (.tuple []) = es.isEmpty := by
  cases es <;> simp [PyData.eqv, PyData.eqvAll]
theorem eqv_lst0 (es : List D) : PyData.eqv (.list es) (.list []) = es.isEmpty := by
  cases es <;> simp [PyData.eqv, PyData.eqvAll]
theorem bad_elem {d : D} {s0 s1 s2 : Sl} {K : Bool → Prop} (hK : K (!whB 0 1 d)) :
    (fOr (fNot (fTV (fIsI "int" (fN 3)))) (fOr (fTV (fIsI "bool" (fN 3))) (fOr (fCmp gLt (fN 3) (fC (.int 0))) (fCmp gGt (fN 3) (fC (.int 1)))))) [s0, s1, s2, .sh d] K := by
  cases d with
  | int i =>
    simp only [fSeqS, fSet, fSetN, fRet, fIfS, fNext, fBreak, fCont, fNever, fBin, fCmp, fV, fN, fC, lk, lk_z, lk_s, gAdd, gSub, gMul, gDiv, gMod, gPow, gShl, gShlW, gShr, gv, gLt, gLe, gGt, gGe, gEq, gNe, gIx, fNeg, fTV, fNot, fAnd, fOr, fAndV, fOrV, fNotV, fIf, fLN, fLC, fAN, fAC, fAB, fNV, fTup, fCB, bInt, bAbs, bLen, bMax2, bMin2, bTuple, fSeq, seqOf, fCall, fCallK, fAsg, gNm, gsNil, gsCons, gTpl, gSq, fPar, fMV, fMN, setAll, fApp, fExt, fSetIx, fFrz, fForS, fRng1, fRng2, fBits, fON, fOS, fSlT, fSlL, List.set_cons_zero, List.set_cons_succ, List.length_cons, List.length_nil, endsOf, decide_eq_true_eq, true_and, and_true, at0, at1, at2, at3, at4, Bool.not_eq_true', decide_eq_false_iff_not, lg2, Int.reduceLT, ↓reduceIte, fIsI]
    rw [show isB (tyN (.int i)) "int" = true from (show isB "int" "int" = true by decide), show isB (tyN (.int i)) "bool" = false from (show isB "int" "bool" = false by decide)]
    rw [if_neg (by decide), if_neg (by decide)]
    have e : whB 0 1 (.int i) = (decide (0 ≤ i) && decide (i ≤ 1)) := rfl
    rw [e] at hK
    by_cases h : i < 0
    · rw [if_pos h]
      rw [decide_eq_false (by omega : ¬ 0 ≤ i), Bool.false_and] at hK
      exact hK
    · rw [if_neg h]
      rw [decide_eq_true (by omega : 0 ≤ i), Bool.true_and] at hK
      have z : decide (i > 1) = !decide (i ≤ 1) := by by_cases q : i ≤ 1 <;> simp [q] <;> omega
      rw [z]
      exact hK
  | bool b =>
    simp only [fSeqS, fSet, fSetN, fRet, fIfS, fNext, fBreak, fCont, fNever, fBin, fCmp, fV, fN, fC, lk, lk_z, lk_s, gAdd, gSub, gMul, gDiv, gMod, gPow, gShl, gShlW, gShr, gv, gLt, gLe, gGt, gGe, gEq, gNe, gIx, fNeg, fTV, fNot, fAnd, fOr, fAndV, fOrV, fNotV, fIf, fLN, fLC, fAN, fAC, fAB, fNV, fTup, fCB, bInt, bAbs, bLen, bMax2, bMin2, bTuple, fSeq, seqOf, fCall, fCallK, fAsg, gNm, gsNil, gsCons, gTpl, gSq, fPar, fMV, fMN, setAll, fApp, fExt, fSetIx, fFrz, fForS, fRng1, fRng2, fBits, fON, fOS, fSlT, fSlL, List.set_cons_zero, List.set_cons_succ, List.length_cons, List.length_nil, endsOf, decide_eq_true_eq, true_and, and_true, at0, at1, at2, at3, at4, Bool.not_eq_true', decide_eq_false_iff_not, lg2, Int.reduceLT, ↓reduceIte, fIsI]
    rw [show isB (tyN (.bool b)) "int" = true from (show isB "bool" "int" = true by decide), show isB (tyN (.bool b)) "bool" = true from (show isB "bool" "bool" = true by decide)]
    exact hK
  | none => exact hK
  | str x => exact hK
  | list x => exact hK
  | tuple x => exact hK
  | dict x => exact hK
theorem bads_nil {es : List D} : (es.filter fun d => !whB 0 1 d).isEmpty = es.all (whB 0 1) := by
  induction es with
  | nil => rfl
  | cons d es ih =>
    rw [List.all_cons, ← ih, List.filter_cons]
    cases whB 0 1 d <;> rfl
/-- one turn -/
theorem due_turn {x : D} {k : Int} {s0 s3 : Sl} {E : En} (hx : Wi x) (h1 : imgB x = true → ∀ s, E.nx [s0, iS k, .sh x, s]) (h2 : imgB x = false → E.rt (.tuple [.str "image", .int k])) :
    (fSeqS (fIfS (fOr (fNot (fTV (fIsI "tuple" (fN 2)))) (fOr (fCmp gEq (fN 2) (fTup fLN)) (fCmp gGt (fCB bLen (fLC (fN 2) fLN)) (fC (.int 60))))) (fRet (fTup (fLC (fC (.str "image")) (fLC (fV 1) fLN)))) fNext) (fIfS (fCmp gNe (fNV (fLc [3] (fSeq (fV 2)) (gNm 3) (fOr (fNot (fTV (fIsI "int" (fN 3)))) (fOr (fTV (fIsI "bool" (fN 3))) (fOr (fCmp gLt (fN 3) (fC (.int 0))) (fCmp gGt (fN 3) (fC (.int 1)))))) (fV 3))) (fNV fLN)) (fRet (fTup (fLC (fC (.str "image")) (fLC (fV 1) fLN)))) fNext)) E [s0, iS k, .sh x, s3] := by
  refine seq_go ?_
  by_cases ht : isB (tyN x) "tuple" = true
  · obtain ⟨es, rfl⟩ := isTup_of ht
    obtain ⟨hl, hn⟩ := hx es rfl
    have eB : imgB (.tuple es) = (es.all (whB 0 1) && (decide (1 ≤ es.length) && decide (es.length ≤ 60))) := rfl
    simp only [fSeqS, fSet, fSetN, fRet, fIfS, fNext, fBreak, fCont, fNever, fBin, fCmp, fV, fN, fC, lk, lk_z, lk_s, gAdd, gSub, gMul, gDiv, gMod, gPow, gShl, gShlW, gShr, gv, gLt, gLe, gGt, gGe, gEq, gNe, gIx, fNeg, fTV, fNot, fAnd, fOr, fAndV, fOrV, fNotV, fIf, fLN, fLC, fAN, fAC, fAB, fNV, fTup, fCB, bInt, bAbs, bLen, bMax2, bMin2, bTuple, fSeq, seqOf, fCall, fCallK, fAsg, gNm, gsNil, gsCons, gTpl, gSq, fPar, fMV, fMN, setAll, fApp, fExt, fSetIx, fFrz, fForS, fRng1, fRng2, fBits, fON, fOS, fSlT, fSlL, List.set_cons_zero, List.set_cons_succ, List.length_cons, List.length_nil, endsOf, decide_eq_true_eq, true_and, and_true, at0, at1, at2, at3, at4, Bool.not_eq_true', decide_eq_false_iff_not, lg2, Int.reduceLT, ↓reduceIte, fIsI]
    rw [ht, if_neg (by decide)]
    refine ⟨shp_tup hn, shp_tup (es := []) (fun _ h => nomatch h), ?_⟩
    rw [eqv_tup0]
    cases es with
    | nil =>
      exact ifp rfl (h2 (by rw [eB]; rfl))
    | cons d es =>
      rw [if_neg (by simp)]
      split
      · rename_i hg
        refine h2 ?_
        rw [eB]
        have : ¬ (d :: es).length ≤ 60 := by simp only [List.length_cons] at hg ⊢; omega
        rw [decide_eq_false this, Bool.and_false, Bool.and_false]
      · rename_i hg
        have hle : (d :: es).length ≤ 60 := by simp only [List.length_cons] at hg ⊢; omega
        simp only [fLc, wipeE, fSeq, seqOf, fSeqS, fSet, fSetN, fRet, fIfS, fNext, fBreak, fCont, fNever, fBin, fCmp, fV, fN, fC, lk, lk_z, lk_s, gAdd, gSub, gMul, gDiv, gMod, gPow, gShl, gShlW, gShr, gv, gLt, gLe, gGt, gGe, gEq, gNe, gIx, fNeg, fTV, fNot, fAnd, fOr, fAndV, fOrV, fNotV, fIf, fLN, fLC, fAN, fAC, fAB, fNV, fTup, fCB, bInt, bAbs, bLen, bMax2, bMin2, bTuple, fSeq, seqOf, fCall, fCallK, fAsg, gNm, gsNil, gsCons, gTpl, gSq, fPar, fMV, fMN, setAll, fApp, fExt, fSetIx, fFrz, fForS, fRng1, fRng2, fBits, fON, fOS, fSlT, fSlL, List.set_cons_zero, List.set_cons_succ, List.length_cons, List.length_nil, endsOf, decide_eq_true_eq, true_and, and_true, at0, at1, at2, at3, at4, Bool.not_eq_true', decide_eq_false_iff_not, lg2, Int.reduceLT, ↓reduceIte]
        refine ⟨by unfold most; simp only [List.length_cons] at hl ⊢; omega, ?_⟩
        rw [show lcRun (gNm 3) (fOr (fNot (fTV (fIsI "int" (fN 3)))) (fOr (fTV (fIsI "bool" (fN 3))) (fOr (fCmp gLt (fN 3) (fC (.int 0))) (fCmp gGt (fN 3) (fC (.int 1)))))) (fV 3) [s0, iS k, .sh (.tuple (d :: es)), .un] (d :: es) = lcRun (gNm 3) (fOr (fNot (fTV (fIsI "int" (fN 3)))) (fOr (fTV (fIsI "bool" (fN 3))) (fOr (fCmp gLt (fN 3) (fC (.int 0))) (fCmp gGt (fN 3) (fC (.int 1)))))) (fV 3) [s0, iS k, .sh (.tuple (d :: es)), .un] ((d :: es).map id) by rw [List.map_id]]
        refine lc_filter (F := id) (c := fun d => !whB 0 1 d) (d :: es) (fun y hy K J g1 g2 => ?_) _ ?_
        · show (fOr (fNot (fTV (fIsI "int" (fN 3)))) (fOr (fTV (fIsI "bool" (fN 3))) (fOr (fCmp gLt (fN 3) (fC (.int 0))) (fCmp gGt (fN 3) (fC (.int 1)))))) [s0, iS k, .sh (.tuple (d :: es)), .sh y] _
          refine bad_elem ?_
          cases hb : (!whB 0 1 y) with
          | true => exact g1 hb
          | false => exact g2 hb
        · rw [List.map_id]
          refine ⟨shp_list fun z hz => hn z (List.mem_filter.mp hz).1, shp_list (es := []) (fun _ h => nomatch h), ?_⟩
          rw [eqv_lst0, bads_nil]
          have e2 : imgB (.tuple (d :: es)) = (d :: es).all (whB 0 1) := by
            rw [eB, decide_eq_true hle, decide_eq_true (by simp : 1 ≤ (d :: es).length), Bool.true_and, Bool.and_true]
          cases hb : (d :: es).all (whB 0 1) with
          | true => exact ifn (by decide) (h1 (by rw [e2, hb]) _)
          | false => exact ifp rfl (h2 (by rw [e2, hb]))
  · have hf : imgB x = false := by
      cases x <;> first | rfl | exact absurd rfl (isTup_no ht _)
    simp only [fSeqS, fSet, fSetN, fRet, fIfS, fNext, fBreak, fCont, fNever, fBin, fCmp, fV, fN, fC, lk, lk_z, lk_s, gAdd, gSub, gMul, gDiv, gMod, gPow, gShl, gShlW, gShr, gv, gLt, gLe, gGt, gGe, gEq, gNe, gIx, fNeg, fTV, fNot, fAnd, fOr, fAndV, fOrV, fNotV, fIf, fLN, fLC, fAN, fAC, fAB, fNV, fTup, fCB, bInt, bAbs, bLen, bMax2, bMin2, bTuple, fSeq, seqOf, fCall, fCallK, fAsg, gNm, gsNil, gsCons, gTpl, gSq, fPar, fMV, fMN, setAll, fApp, fExt, fSetIx, fFrz, fForS, fRng1, fRng2, fBits, fON, fOS, fSlT, fSlL, List.set_cons_zero, List.set_cons_succ, List.length_cons, List.length_nil, endsOf, decide_eq_true_eq, true_and, and_true, at0, at1, at2, at3, at4, Bool.not_eq_true', decide_eq_false_iff_not, lg2, Int.reduceLT, ↓reduceIte, fIsI]
    rw [show isB (tyN x) "tuple" = false by simpa using ht]
    exact h2 hf
theorem r__law_due_error : ∀ ss (Q : D → Prop), S__law_due_error ss Q → g__law_due_error (endsOf Q) (initE N__law_due_error ss) := by
  rintro ss Q ⟨d, rfl, hw, hq⟩
  have hw : ∀ ds, d = .tuple ds → ∀ e ∈ ds, Wi e := hw
  have hq : Q (errF d) := hq
  simp only [N__law_due_error, initE, List.length_cons, List.length_nil, Nat.reduceAdd, Nat.reduceSub, List.replicate, List.cons_append, List.nil_append, List.append_nil]
  unfold g__law_due_error
  refine seq_go ?_
  by_cases ht : isB (tyN d) "tuple" = true
  · obtain ⟨ds, rfl⟩ := isTup_of ht
    simp only [fSeqS, fSet, fSetN, fRet, fIfS, fNext, fBreak, fCont, fNever, fBin, fCmp, fV, fN, fC, lk, lk_z, lk_s, gAdd, gSub, gMul, gDiv, gMod, gPow, gShl, gShlW, gShr, gv, gLt, gLe, gGt, gGe, gEq, gNe, gIx, fNeg, fTV, fNot, fAnd, fOr, fAndV, fOrV, fNotV, fIf, fLN, fLC, fAN, fAC, fAB, fNV, fTup, fCB, bInt, bAbs, bLen, bMax2, bMin2, bTuple, fSeq, seqOf, fCall, fCallK, fAsg, gNm, gsNil, gsCons, gTpl, gSq, fPar, fMV, fMN, setAll, fApp, fExt, fSetIx, fFrz, fForS, fRng1, fRng2, fBits, fON, fOS, fSlT, fSlL, List.set_cons_zero, List.set_cons_succ, List.length_cons, List.length_nil, endsOf, decide_eq_true_eq, true_and, and_true, at0, at1, at2, at3, at4, Bool.not_eq_true', decide_eq_false_iff_not, lg2, Int.reduceLT, ↓reduceIte, fIsI]
    rw [ht, if_neg (by decide)]
    by_cases h2 : ds.length = 2
    · match ds, h2 with
      | [a, b], _ =>
        have wa := hw _ rfl a (by simp)
        have wb := hw _ rfl b (by simp)
        refine ifn (by simp) ?_
        have e : errF (.tuple [a, b]) = if imgB a = true then (if imgB b = true then .none else .tuple [.str "image", .int 1]) else .tuple [.str "image", .int 0] := rfl
        rw [e] at hq
        simp only [fEnumT, enumD, fFor, gSq, gsCons, gNm, gsNil, seqOf, List.length_cons, List.length_nil, true_and, List.set_cons_zero, List.set_cons_succ, fV, lk_z, lk_s, lk]
        refine due_turn (k := 0) wa (fun ia s => ?_) (fun ia => ?_)
        · rw [if_pos ia] at hq
          refine due_turn (k := 1) wb (fun ib s => ?_) (fun ib => ?_)
          · rw [if_pos ib] at hq
            exact hq
          · rw [if_neg (by rw [ib]; decide)] at hq
            exact hq
        · rw [if_neg (by rw [ia]; decide)] at hq
          exact hq
    · have e : errF (.tuple ds) = .str "form" := by
        match ds with
        | [] => rfl
        | [_] => rfl
        | [_, _] => exact absurd rfl h2
        | _ :: _ :: _ :: _ => rfl
      rw [e] at hq
      refine ifp (by omega) ?_
      exact hq
  · have e : errF d = .str "form" := by
      cases d <;> first | rfl | exact absurd rfl (isTup_no ht _)
    rw [e] at hq
    simp only [fSeqS, fSet, fSetN, fRet, fIfS, fNext, fBreak, fCont, fNever, fBin, fCmp, fV, fN, fC, lk, lk_z, lk_s, gAdd, gSub, gMul, gDiv, gMod, gPow, gShl, gShlW, gShr, gv, gLt, gLe, gGt, gGe, gEq, gNe, gIx, fNeg, fTV, fNot, fAnd, fOr, fAndV, fOrV, fNotV, fIf, fLN, fLC, fAN, fAC, fAB, fNV, fTup, fCB, bInt, bAbs, bLen, bMax2, bMin2, bTuple, fSeq, seqOf, fCall, fCallK, fAsg, gNm, gsNil, gsCons, gTpl, gSq, fPar, fMV, fMN, setAll, fApp, fExt, fSetIx, fFrz, fForS, fRng1, fRng2, fBits, fON, fOS, fSlT, fSlL, List.set_cons_zero, List.set_cons_succ, List.length_cons, List.length_nil, endsOf, decide_eq_true_eq, true_and, and_true, at0, at1, at2, at3, at4, Bool.not_eq_true', decide_eq_false_iff_not, lg2, Int.reduceLT, ↓reduceIte, fIsI]
    rw [show isB (tyN d) "tuple" = false by simpa using ht]
    exact hq
theorem go_due {d : D} {Q : D → Prop} (h : ∀ ds, d = .tuple ds → ∀ e ∈ ds, Wi e) (hq : Q (errF d)) : S__law_due_error [.sh d] Q := ⟨d, rfl, h, hq⟩
theorem go_err {d : D} {Q : D → Prop} (h : ∀ ds, d = .tuple ds → ∀ e ∈ ds, Wi e) (hq : Q (errF d)) : S_change_error [.sh d] Q := ⟨d, rfl, fun ds e x hx es he => (h ds e x hx es he).1, hq⟩
end T
end DL
namespace DL
namespace T
open PySem L2 PySem.Spec PyProof.Rows
local macro_rules
  | `(tactic| get_elem_tactic_extensible) => `(tactic| (repeat (first | with_reducible refine Go.lc_go ?_ | with_reducible refine Go.ln_go ?_ | ((with_reducible apply Go.v_sh); exact rfl) | ((with_reducible apply Go.n_sh); exact rfl) | ((with_reducible apply Go.n_ow); exact rfl) | ((with_reducible apply Go.ab_go); exact rfl) | ((with_reducible apply Go.app_go); exact rfl) | ((with_reducible apply Go.ext_go); exact rfl) | with_reducible refine Go.c_go ?_ | with_reducible refine Go.tup_go ?_ | with_reducible refine Go.nv_go ?_ | with_reducible refine Go.bin_go ?_ | with_reducible refine Go.slT_go ?_ | with_reducible refine Go.slL_go ?_ | with_reducible refine Go.on_go ?_ | with_reducible refine Go.os_go ?_ | with_reducible refine Go.neg_go ?_ | with_reducible refine Go.sub_go ?_ | with_reducible refine Go.addI_go ?_ | with_reducible refine Go.seqT_go ?_ | with_reducible refine Go.call_go ?_ | with_reducible refine Go.callK_go ?_ | with_reducible refine Go.cb_go ?_ | with_reducible refine Go.dict1_go ?_ | with_reducible refine Go.if_go ?_ | with_reducible refine Go.an_go ?_ | with_reducible refine Go.ac_go ?_ | with_reducible refine Go.mv_go ?_ | with_reducible refine Go.par_go ?_ | with_reducible refine Go.sq_go ?_ | with_reducible refine Go.set_go ?_ | with_reducible refine Go.setN_go ?_ | with_reducible refine Go.ret_go ?_ | with_reducible refine Go.asg_go ?_ | with_reducible refine Go.ifs_go ?_ | with_reducible refine Go.next_go ?_ | with_reducible refine Go.nm_go ?_ | with_reducible refine Go.cmp_go ?_ | with_reducible refine Go.tv_go ?_ | with_reducible refine Go.not_go ?_ | with_reducible refine Go.and_go ?_ | with_reducible refine Go.or_go ?_ | with_reducible refine Go.lenT_go ?_ | with_reducible refine Go.lenL_go ?_ | with_reducible refine Go.absI_go ?_ | with_reducible refine Go.intI_go ?_ | with_reducible refine Go.max2_go ?_ | with_reducible refine Go.min2_go ?_ | with_reducible refine Go.tupL_go ?_ | with_reducible refine Go.tupT_go ?_ | with_reducible refine Go.gv_go ?_ | with_reducible refine Go.ltI_go ?_ | with_reducible refine Go.leI_go ?_ | with_reducible refine Go.gtI_go ?_ | with_reducible refine Go.geI_go ?_ | with_reducible refine Go.eqI_go ?_ | with_reducible refine Go.neI_go ?_ | with_reducible refine Go.eqS_go ?_ | with_reducible refine Go.rng1_go ?_ | ((first | with_reducible apply Go.ixL_go | with_reducible apply Go.ixT_go); first | exact DL.at0 _ _ | exact DL.at1 _ _ _ | exact DL.at2 _ _ _ _ | exact DL.at3 _ _ _ _ _ | exact DL.at4 _ _ _ _ _ _) | ((with_reducible apply Go.frz_go); exact rfl) | ((with_reducible apply Go.frz_sh); exact rfl) | with_reducible refine Go.mn_go ?_ | with_reducible refine Go.andV_go ?_ | ((first | with_reducible apply Go.sqT_go | with_reducible apply Go.sqL_go); exact rfl) | with_reducible refine Go.gsC_go ?_ | with_reducible refine Go.gsN_go ?_ | with_reducible refine Go.ifT (by decide +kernel) ?_ | with_reducible refine Go.ifF (by decide +kernel) ?_ | with_reducible refine Go.cat_go ?_ | with_reducible refine Go.callO_go ?_ | ((with_reducible apply Go.retO_go); exact rfl) | with_reducible refine Go.retN_go ?_ | with_reducible refine Go.ifN_go ?_ | with_reducible refine Go.yes_go ?_ | with_reducible refine Go.isI_go ?_ | with_reducible refine Go.isB_go ?_ | with_reducible refine Go.isN_go ?_ | with_reducible refine Go.notN_go ?_ | with_reducible refine Go.lrev_go ?_ | with_reducible refine Go.bk_go ?_ | with_reducible refine Go.ct_go ?_ | with_reducible refine Go.rng2_go ?_ | with_reducible refine Go.orV_go ?_ | with_reducible refine Go.notV_go ?_ | ((with_reducible apply Go.extT_go); exact rfl) | with_reducible refine Go.isI2_go ?_ | with_reducible refine Go.dict2_go ?_ | with_reducible refine Go.callE_go ?_ | with_reducible refine Go.callEK_go ?_ | with_reducible refine Go.raise0_go ?_ | with_reducible refine Go.raise1_go ?_ | ((with_reducible apply Go.is1_go); exact rfl) | ((with_reducible apply Go.isT_go); exact rfl) | ((with_reducible apply Go.fld_go); exact rfl) | ((with_reducible apply Go.setIx_go); exact rfl) | unfold fForS | unfold fLc | dsimp only [seqOf, List.set_cons_zero, List.set_cons_succ, setAll, wipeE])))
theorem sum_rep (n : Nat) (x : Int) : (List.replicate n x).sum = (n : Int) * x := by
  induction n with
  | zero => simp
  | succ n ih => rw [List.replicate_succ, List.sum_cons, ih]; push_cast; grind
theorem bw_rep {n : Nat} {x : Int} (h : x = 0 ∨ x = 1) : Bw (List.replicate n x) := fun y hy => by rw [List.eq_of_mem_replicate hy]; exact h
theorem map_rep (n : Nat) (x : Int) : List.replicate n (PyData.int x) = (List.replicate n x).map PyData.int := by rw [List.map_replicate]
theorem siz_rep {c : Ch} {n : Nat} {x : Int} (h : x = 0 ∨ x = 1) : siz c (List.replicate n x) = (n : Int) * ((im c x).length : Int) := by
  unfold siz im
  rw [sum_rep, List.length_replicate]
  rcases h with rfl | rfl
  · rw [if_neg (by decide)]; grind
  · rw [if_pos rfl]; grind
theorem siz_app (c : Ch) (v w : Wo) : siz c (v ++ w) = siz c v + siz c w := by
  unfold siz
  rw [sum_app, List.length_append]
  push_cast
  grind
theorem atw {c : Ch} {l : Int} (hl : l = 0 ∨ l = 1) (a r b : Nat) : siz c (List.replicate a l ++ List.replicate r (1 - l) ++ List.replicate b l) = ((a : Int) + b) * ((im c l).length : Int) + (r : Int) * ((im c (1 - l)).length : Int) := by
  rw [siz_app, siz_app, siz_rep hl, siz_rep (by omega), siz_rep hl]
  grind
theorem at_tail {s1 s2 s3 s4 s8 s9 : Sl} {c : Ch} {q e t : Int} {E : En} (q1 : 1 ≤ q) (q2 : q ≤ 500) (e0 : 0 ≤ e) (ht : t = 0 ∨ t = 1)
    (hE : ∀ a b : Nat, (a : Int) + b = q → E.rt (.tuple [chD c, wdD (List.replicate a t ++ List.replicate (if 1 ≤ e then 1 else 0) (1 - t) ++ List.replicate b t)])) :
    (fSeqS (fSet 11 (fCall S__law_pick (fAB 0 (fAC (fNV (fLC (fC (.int 0)) (fLC (fV 5) (fLC (fCall S__law_draw (fAB 0 (fAC (fBin gAdd (fN 5) (fC (.int 1))) fAN))) fLN)))) fAN)))) (fSeqS (fSet 12 (fBin gAdd (fBin gAdd (fBin gRepT (fTup (fLC (fV 7) fLN)) (fN 11)) (fBin gRepT (fTup (fLC (fBin gSub (fC (.int 1)) (fN 7)) fLN)) (fCB bMin2 (fLC (fC (.int 1)) (fLC (fN 6) fLN))))) (fBin gRepT (fTup (fLC (fV 7) fLN)) (fBin gSub (fN 5) (fN 11))))) (fRet (fTup (fLC (fV 10) (fLC (fV 12) fLN)))))) E [.bg, s1, s2, s3, s4, iS q, iS e, iS t, s8, s9, cC c, .un, .un] := by
  get_elem_tactic_extensible
  refine go_dr _ (by omega) (by omega) fun r r0 r1 => ?_
  get_elem_tactic_extensible
  refine go_pick (by simp) (by simp) fun d hd => ?_
  have key : ∃ a : Nat, d = .int (a : Int) ∧ (a : Int) ≤ q := by
    simp only [List.mem_cons, List.not_mem_nil, or_false] at hd
    rcases hd with rfl | rfl | rfl
    · exact ⟨0, rfl, by omega⟩
    · exact ⟨q.toNat, by rw [Int.toNat_of_nonneg (by omega)], by omega⟩
    · exact ⟨r.toNat, by rw [Int.toNat_of_nonneg (by omega)], by omega⟩
  obtain ⟨a, rfl, ha⟩ := key
  get_elem_tactic_extensible
  refine ⟨by simp, by omega, by omega, by simp, ?_⟩
  get_elem_tactic_extensible
  have em : (if e < 1 then e else 1) = (((if 1 ≤ e then 1 else 0 : Nat)) : Int) := by
    by_cases h : 1 ≤ e
    · rw [if_neg (by omega), if_pos h]; rfl
    · rw [if_pos (by omega), if_neg h]; omega
  rw [em]
  have e2 : (if 1 ≤ e then 1 else 0 : Nat) ≤ 1 := by split <;> omega
  generalize (if 1 ≤ e then 1 else 0 : Nat) = x at hE e2
  refine ⟨by simp, by omega, by omega, by simp, ?_⟩
  get_elem_tactic_extensible
  rw [rep_flat, rep_flat]
  refine ⟨?_, ?_⟩
  · rw [sizeLine_eq, List.length_replicate, List.length_replicate]; omega
  get_elem_tactic_extensible
  refine ⟨by simp, by omega, by omega, by simp, ?_⟩
  get_elem_tactic_extensible
  rw [rep_flat]
  refine ⟨?_, ?_⟩
  · rw [sizeLine_eq, List.length_append, List.length_replicate, List.length_replicate, List.length_replicate]; omega
  get_elem_tactic_extensible
  have z := hE a (q - a).toNat (by omega)
  unfold wdD at z
  rw [List.map_append, List.map_append, List.map_replicate, List.map_replicate, List.map_replicate] at z
  exact z
theorem r__law_at : ∀ ss (Q : D → Prop), S__law_at ss Q → g__law_at (endsOf Q) (initE N__law_at ss) := by
  rintro ss Q ⟨⟨mo, mn⟩, rfl, ⟨hmo, m1, m2⟩, hq⟩
  have hmo : mo = 500 ∨ mo = 60 := hmo
  have m1 : 1999 ≤ mn := m1
  have m2 : mn ≤ 2002 := m2
  have hq : ∀ y : Ch × Wo, (Bw y.1.1 ∧ y.1.1.length ≤ 60 ∧ Bw y.1.2 ∧ y.1.2.length ≤ 60 ∧ Bw y.2 ∧ 1 ≤ y.2.length ∧ y.2.length ≤ mo ∧ siz y.1 y.2 = (mn : Int)) → Q (.tuple [chD y.1, wdD y.2]) := hq
  have lst : ∃ l : Int, (mn : Int) / ((mo : Int) - 1) + 1 = l ∧ 5 ≤ l ∧ l ≤ 34 ∧ (mn : Int) < l * ((mo : Int) - 1) ∧ 1 ≤ (mo : Int) - 1 := by
    rcases hmo with rfl | rfl
    · exact ⟨_, rfl, by omega, by omega, by omega, by omega⟩
    · exact ⟨_, rfl, by omega, by omega, by omega, by omega⟩
  obtain ⟨l, el, l5, l34, lm, mo1⟩ := lst
  have mo5 : (mo : Int) ≤ 500 := by omega
  simp only [N__law_at, initE, List.length_cons, List.length_nil, Nat.reduceAdd, Nat.reduceSub, List.replicate, List.cons_append, List.nil_append, List.append_nil]
  unfold g__law_at
  get_elem_tactic_extensible
  refine Go.divI_go (lg_small (by omega) (by omega)) (by omega) ?_
  get_elem_tactic_extensible
  rw [el]
  get_elem_tactic_extensible
  refine go_dr _ (by omega) (by omega) fun r r0 r1 => ?_
  get_elem_tactic_extensible
  generalize hz : l + r = z
  have z5 : l ≤ z := by omega
  have z60 : z ≤ 60 := by omega
  refine Go.divI_go (lg_small (by omega) (by omega)) (by omega) ?_
  get_elem_tactic_extensible
  generalize hqq : (mn : Int) / z = q
  have q1 : q * z ≤ mn := by rw [← hqq]; exact Int.ediv_mul_le _ (by omega)
  have q2 : (mn : Int) < (q + 1) * z := by rw [← hqq]; exact Int.lt_ediv_add_one_mul_self _ (by omega)
  have q0 : 0 ≤ q := by rw [← hqq]; exact Int.ediv_nonneg (by omega) (by omega)
  have ql : q < (mo : Int) - 1 := by
    have h1 : q * l ≤ q * z := Int.mul_le_mul_of_nonneg_left z5 q0
    refine Int.lt_of_mul_lt_mul_left (a := l) ?_ (by omega)
    rw [Int.mul_comm l q]
    omega
  have qp : 1 ≤ q := by
    rcases Int.lt_or_le q 1 with h | h
    · have : q = 0 := by omega
      subst this
      omega
    · exact h
  refine Go.mulI_go (mw (k := 10) (l := 10) (by show (_ : Int).natAbs < 2 ^ 10; omega) (by show (_ : Int).natAbs < 2 ^ 10; omega)) ?_
  get_elem_tactic_extensible
  generalize hrr : (mn : Int) - q * z = e
  have e0 : 0 ≤ e := by omega
  have e1 : e < z := by rw [Int.add_mul] at q2; omega
  refine go_dr _ (by decide) (by decide) fun t t0 t1 => ?_
  have hb := bit t0 t1
  get_elem_tactic_extensible
  refine go_wordI (by omega) (by omega) fun v bv lv => ?_
  get_elem_tactic_extensible
  refine go_wordI (by split <;> omega) (by split <;> omega) fun u bu lu => ?_
  refine ⟨rfl, ?_⟩
  get_elem_tactic_extensible
  have fin : ∀ c : Ch, im c t = v → im c (1 - t) = u → (Bw c.1 ∧ c.1.length ≤ 60 ∧ Bw c.2 ∧ c.2.length ≤ 60) → ∀ a b : Nat, (a : Int) + b = q → Q (.tuple [chD c, wdD (List.replicate a t ++ List.replicate (if 1 ≤ e then 1 else 0) (1 - t) ++ List.replicate b t)]) := fun c i1 i2 hv a b hab => by
    refine hq (c, _) ⟨hv.1, hv.2.1, hv.2.2.1, hv.2.2.2, ?_, ?_, ?_, ?_⟩
    · exact ((bw_rep hb).app (bw_rep (by omega))).app (bw_rep hb)
    · dsimp only
      rw [List.length_append, List.length_append, List.length_replicate, List.length_replicate, List.length_replicate]
      omega
    · dsimp only
      rw [List.length_append, List.length_append, List.length_replicate, List.length_replicate, List.length_replicate]
      split <;> omega
    · dsimp only
      rw [atw hb, i1, i2, lv, lu, hab]
      by_cases h : 1 ≤ e
      · rw [if_pos h]
        have : (if e > 1 then e else 1) = e := by split <;> omega
        rw [this]
        push_cast
        omega
      · rw [if_neg h]
        push_cast
        omega
  have lv' : v.length ≤ 60 := by omega
  have lu' : u.length ≤ 60 := by split at lu <;> omega
  rcases hb with rfl | rfl
  · get_elem_tactic_extensible
    exact at_tail (c := (v, u)) qp (by omega) e0 (.inl rfl) (fin (v, u) rfl rfl ⟨bv, lv', bu, lu'⟩)
  · get_elem_tactic_extensible
    exact at_tail (c := (u, v)) qp (by omega) e0 (.inr rfl) (fin (u, v) rfl rfl ⟨bu, lu', bv, lv'⟩)
theorem go_at {mo mn : Nat} {Q : D → Prop} (h1 : mo = 500 ∨ mo = 60) (h2 : 1999 ≤ mn) (h3 : mn ≤ 2002) (hq : ∀ (c : Ch) (w : Wo), Bw c.1 → c.1.length ≤ 60 → Bw c.2 → c.2.length ≤ 60 → Bw w → 1 ≤ w.length → w.length ≤ mo → siz c w = (mn : Int) → Q (.tuple [chD c, wdD w])) : S__law_at [.bg, iS (mo : Int), iS (mn : Int)] Q :=
  ⟨(mo, mn), rfl, ⟨h1, h2, h3⟩, fun y ⟨a, b, c, d, e, f, g, h⟩ => hq y.1 y.2 a b c d e f g h⟩
end T
end DL
namespace DL
namespace T
open PySem L2 PySem.Spec PyProof.Rows
local macro_rules
  | `(tactic| get_elem_tactic_extensible) => `(tactic| (repeat (first | with_reducible refine Go.lc_go ?_ | with_reducible refine Go.ln_go ?_ | ((with_reducible apply Go.v_sh); exact rfl) | ((with_reducible apply Go.n_sh); exact rfl) | ((with_reducible apply Go.n_ow); exact rfl) | ((with_reducible apply Go.ab_go); exact rfl) | ((with_reducible apply Go.app_go); exact rfl) | ((with_reducible apply Go.ext_go); exact rfl) | with_reducible refine Go.c_go ?_ | with_reducible refine Go.tup_go ?_ | with_reducible refine Go.nv_go ?_ | with_reducible refine Go.bin_go ?_ | with_reducible refine Go.slT_go ?_ | with_reducible refine Go.slL_go ?_ | with_reducible refine Go.on_go ?_ | with_reducible refine Go.os_go ?_ | with_reducible refine Go.neg_go ?_ | with_reducible refine Go.sub_go ?_ | with_reducible refine Go.addI_go ?_ | with_reducible refine Go.seqT_go ?_ | with_reducible refine Go.call_go ?_ | with_reducible refine Go.callK_go ?_ | with_reducible refine Go.cb_go ?_ | with_reducible refine Go.dict1_go ?_ | with_reducible refine Go.if_go ?_ | with_reducible refine Go.an_go ?_ | with_reducible refine Go.ac_go ?_ | with_reducible refine Go.mv_go ?_ | with_reducible refine Go.par_go ?_ | with_reducible refine Go.sq_go ?_ | with_reducible refine Go.set_go ?_ | with_reducible refine Go.setN_go ?_ | with_reducible refine Go.ret_go ?_ | with_reducible refine Go.asg_go ?_ | with_reducible refine Go.ifs_go ?_ | with_reducible refine Go.next_go ?_ | with_reducible refine Go.nm_go ?_ | with_reducible refine Go.cmp_go ?_ | with_reducible refine Go.tv_go ?_ | with_reducible refine Go.not_go ?_ | with_reducible refine Go.and_go ?_ | with_reducible refine Go.or_go ?_ | with_reducible refine Go.lenT_go ?_ | with_reducible refine Go.lenL_go ?_ | with_reducible refine Go.absI_go ?_ | with_reducible refine Go.intI_go ?_ | with_reducible refine Go.max2_go ?_ | with_reducible refine Go.min2_go ?_ | with_reducible refine Go.tupL_go ?_ | with_reducible refine Go.tupT_go ?_ | with_reducible refine Go.gv_go ?_ | with_reducible refine Go.ltI_go ?_ | with_reducible refine Go.leI_go ?_ | with_reducible refine Go.gtI_go ?_ | with_reducible refine Go.geI_go ?_ | with_reducible refine Go.eqI_go ?_ | with_reducible refine Go.neI_go ?_ | with_reducible refine Go.eqS_go ?_ | with_reducible refine Go.rng1_go ?_ | ((first | with_reducible apply Go.ixL_go | with_reducible apply Go.ixT_go); first | exact DL.at0 _ _ | exact DL.at1 _ _ _ | exact DL.at2 _ _ _ _ | exact DL.at3 _ _ _ _ _ | exact DL.at4 _ _ _ _ _ _) | ((with_reducible apply Go.frz_go); exact rfl) | ((with_reducible apply Go.frz_sh); exact rfl) | with_reducible refine Go.mn_go ?_ | with_reducible refine Go.andV_go ?_ | ((first | with_reducible apply Go.sqT_go | with_reducible apply Go.sqL_go); exact rfl) | with_reducible refine Go.gsC_go ?_ | with_reducible refine Go.gsN_go ?_ | with_reducible refine Go.ifT (by decide +kernel) ?_ | with_reducible refine Go.ifF (by decide +kernel) ?_ | with_reducible refine Go.cat_go ?_ | with_reducible refine Go.callO_go ?_ | ((with_reducible apply Go.retO_go); exact rfl) | with_reducible refine Go.retN_go ?_ | with_reducible refine Go.ifN_go ?_ | with_reducible refine Go.yes_go ?_ | with_reducible refine Go.isI_go ?_ | with_reducible refine Go.isB_go ?_ | with_reducible refine Go.isN_go ?_ | with_reducible refine Go.notN_go ?_ | with_reducible refine Go.lrev_go ?_ | with_reducible refine Go.bk_go ?_ | with_reducible refine Go.ct_go ?_ | with_reducible refine Go.rng2_go ?_ | with_reducible refine Go.orV_go ?_ | with_reducible refine Go.notV_go ?_ | ((with_reducible apply Go.extT_go); exact rfl) | with_reducible refine Go.isI2_go ?_ | with_reducible refine Go.dict2_go ?_ | with_reducible refine Go.callE_go ?_ | with_reducible refine Go.callEK_go ?_ | with_reducible refine Go.raise0_go ?_ | with_reducible refine Go.raise1_go ?_ | ((with_reducible apply Go.is1_go); exact rfl) | ((with_reducible apply Go.isT_go); exact rfl) | ((with_reducible apply Go.fld_go); exact rfl) | ((with_reducible apply Go.setIx_go); exact rfl) | unfold fForS | unfold fLc | dsimp only [seqOf, List.set_cons_zero, List.set_cons_succ, setAll, wipeE])))
theorem siz_nil (c : Ch) : siz c [] = 0 := by unfold siz; simp
theorem siz_le {c : Ch} (h1 : c.1.length ≤ 60) (h2 : c.2.length ≤ 60) : ∀ {w : Wo}, Bw w → siz c w ≤ 60 * (w.length : Int)
  | [], _ => by rw [siz_nil]; simp
  | x :: w, h => by
    rw [siz_cons c w (h x (by simp)), List.length_cons]
    have := siz_le h1 h2 (w := w) h.tail
    have : ((im c x).length : Int) ≤ 60 := by unfold im; split <;> omega
    push_cast
    omega
theorem cv60 {c : Ch} (b1 : Bw c.1) (l1 : c.1.length ≤ 60) (b2 : Bw c.2) (l2 : c.2.length ≤ 60) : Cv c := ⟨⟨b1, by omega⟩, ⟨b2, by omega⟩⟩
theorem wvS {w : Wo} (h : ∀ x ∈ w, x = 0 ∨ x = 1) (k : w.length ≤ 2000) : Wv w := ⟨h, k⟩
theorem four_v : ∀ d ∈ ([chD ([0, 0], [1]), chD ([0], [1, 0]), chD ([0], [1]), chD ([1, 1], [0, 0])] : List D), ∃ c : Ch, d = chD c ∧ Cv c := fun d hd => by
  simp only [List.mem_cons, List.not_mem_nil, or_false] at hd
  rcases hd with rfl | rfl | rfl | rfl
  · exact ⟨_, rfl, ⟨⟨by unfold Bw; simp, by simp⟩, ⟨by unfold Bw; simp, by simp⟩⟩⟩
  · exact ⟨_, rfl, ⟨⟨by unfold Bw; simp, by simp⟩, ⟨by unfold Bw; simp, by simp⟩⟩⟩
  · exact ⟨_, rfl, ⟨⟨by unfold Bw; simp, by simp⟩, ⟨by unfold Bw; simp, by simp⟩⟩⟩
  · exact ⟨_, rfl, ⟨⟨by unfold Bw; simp, by simp⟩, ⟨by unfold Bw; simp, by simp⟩⟩⟩
theorem five_v : ∀ d ∈ ([wdD [1], wdD [0, 1], wdD [0, 0], wdD [1, 1], wdD []] : List D), ∃ w : Wo, d = wdD w ∧ Wv w := fun d hd => by
  simp only [List.mem_cons, List.not_mem_nil, or_false] at hd
  rcases hd with rfl | rfl | rfl | rfl | rfl <;> exact ⟨_, rfl, ⟨by unfold Bw; simp, by simp⟩⟩
theorem lim_tail {m : Nat} {s3 s4 : Sl} {c o : Ch} {E : En} (hc : Cv c) (ho : Cv o) (hs : m ≤ 2000 → siz c o.1 ≤ 2000 ∧ siz c o.2 ≤ 2000) (hE : E.rt (.bool true)) :
    (fSeqS (fIfS (fNot (fTV (fCall S__law_is_behind_right (fAC (fV 5) (fAC (fV 2) (fAC (fBin (gv gEq) (fCall S__law_draw (fAB 0 (fAC (fC (.int 2)) fAN))) (fC (.int 0))) fAN)))))) (fRet (fC (.bool false))) fNext) (fSeqS (fIfS (fCmp gGt (fN 1) (fC (.int 2000))) (fRet (fC (.bool true))) fNext) (fSeqS (fSet 6 (fCallE (fun _ _ => False) S_change_behind (fAC (fV 5) (fAC (fV 2) fAN)))) (fSeqS (fIfS (fOr (fNot (fTV (fCall S__law_is_behind_right (fAC (fV 6) (fAC (fTup (fLC (fTup (fLC (fC (.int 1)) fLN)) (fLC (fTup (fLC (fC (.int 0)) fLN)) fLN))) (fAC (fC (.bool false)) fAN)))))) (fNot (fTV (fCall S__law_is_put_right (fAC (fV 6) (fAC (fTup (fLC (fC (.int 0)) fLN)) (fAC (fC (.bool true)) fAN))))))) (fRet (fC (.bool false))) fNext) (fSeqS (fSet 7 (fCall S__law_pick (fAB 0 (fAC (fNV (fLC (fTup (fLC (fTup (fLC (fC (.int 0)) (fLC (fC (.int 0)) fLN))) (fLC (fTup (fLC (fC (.int 1)) fLN)) fLN))) (fLC (fTup (fLC (fTup (fLC (fC (.int 0)) fLN)) (fLC (fTup (fLC (fC (.int 1)) (fLC (fC (.int 0)) fLN))) fLN))) (fLC (fTup (fLC (fTup (fLC (fC (.int 0)) fLN)) (fLC (fTup (fLC (fC (.int 1)) fLN)) fLN))) (fLC (fTup (fLC (fTup (fLC (fC (.int 1)) (fLC (fC (.int 1)) fLN))) (fLC (fTup (fLC (fC (.int 0)) (fLC (fC (.int 0)) fLN))) fLN))) fLN))))) fAN)))) (fSeqS (fIfS (fOr (fNot (fTV (fCall S__law_is_behind_right (fAC (fV 6) (fAC (fV 7) (fAC (fC (.bool true)) fAN)))))) (fNot (fTV (fCall S__law_is_behind_right (fAC (fTup (fLC (fTup (fLC (fC (.int 0)) fLN)) (fLC (fTup (fLC (fC (.int 1)) fLN)) fLN))) (fAC (fV 6) (fAC (fC (.bool false)) fAN))))))) (fRet (fC (.bool false))) fNext) (fRet (fCall S__law_is_put_right (fAC (fV 6) (fAC (fCall S__law_pick (fAB 0 (fAC (fNV (fLC (fTup (fLC (fC (.int 1)) fLN)) (fLC (fTup (fLC (fC (.int 0)) (fLC (fC (.int 1)) fLN))) (fLC (fTup (fLC (fC (.int 0)) (fLC (fC (.int 0)) fLN))) (fLC (fTup (fLC (fC (.int 1)) (fLC (fC (.int 1)) fLN))) (fLC (fTup fLN) fLN)))))) fAN))) (fAC (fC (.bool false)) fAN))))))))))) E [.bg, iS (m : Int), cC c, s3, s4, cC o, .un, .un] := by
  get_elem_tactic_extensible
  refine go_dr 2 (by decide) (by decide) fun r r0 r1 => ?_
  get_elem_tactic_extensible
  refine go_behind_right ho hc ?_
  get_elem_tactic_extensible
  refine Go.ifd (fun h => ?_) (fun h => ?_)
  · get_elem_tactic_extensible
    exact hE
  · obtain ⟨s1, s2⟩ := hs (by omega)
    have hp : Cv (put c o.1, put c o.2) := ⟨put_wv hc ho.a.b s1, put_wv hc ho.b.b s2⟩
    get_elem_tactic_extensible
    refine go_behind ho hc (fun _ _ => ?_) (fun k => absurd k (by omega))
    generalize ((put c o.1, put c o.2) : Ch) = t at hp
    get_elem_tactic_extensible
    refine go_behind_right (o := swC) hp swC_v ?_
    get_elem_tactic_extensible
    refine go_put_right (w := [0]) hp (wv1 (.inl rfl)) ?_
    get_elem_tactic_extensible
    refine go_pick (by simp) (by simp) fun d hd => ?_
    obtain ⟨f, rfl, hf⟩ := four_v d hd
    get_elem_tactic_extensible
    refine go_behind_right hp hf ?_
    get_elem_tactic_extensible
    refine go_behind_right (c := idC) idC_v hp ?_
    get_elem_tactic_extensible
    refine go_pick (by simp) (by simp) fun d hd => ?_
    obtain ⟨u, rfl, hu⟩ := five_v d hd
    get_elem_tactic_extensible
    refine go_put_right hp hu ?_
    exact hE
theorem r__law_are_limits_right : ∀ ss (Q : D → Prop), S__law_are_limits_right ss Q → g__law_are_limits_right (endsOf Q) (initE N__law_are_limits_right ss) := by
  rintro ss Q ⟨_, rfl, _, hq⟩
  have hq : Q (.bool true) := hq
  simp only [N__law_are_limits_right, initE, List.length_cons, List.length_nil, Nat.reduceAdd, Nat.reduceSub, List.replicate, List.cons_append, List.nil_append, List.append_nil]
  unfold g__law_are_limits_right
  get_elem_tactic_extensible
  refine go_pick (by simp) (by simp) fun d hd => ?_
  have key : ∃ m : Nat, d = .int (m : Int) ∧ 1999 ≤ m ∧ m ≤ 2002 := by
    simp only [List.mem_cons, List.not_mem_nil, or_false] at hd
    rcases hd with rfl | rfl | rfl | rfl | rfl | rfl | rfl
    · exact ⟨1999, rfl, by decide, by decide⟩
    · exact ⟨2000, rfl, by decide, by decide⟩
    · exact ⟨2000, rfl, by decide, by decide⟩
    · exact ⟨2000, rfl, by decide, by decide⟩
    · exact ⟨2001, rfl, by decide, by decide⟩
    · exact ⟨2001, rfl, by decide, by decide⟩
    · exact ⟨2002, rfl, by decide, by decide⟩
  obtain ⟨m, rfl, m1, m2⟩ := key
  get_elem_tactic_extensible
  refine go_at (mo := 500) (.inl rfl) m1 m2 fun c w b1 l1 b2 l2 bw w1 wl hs => ?_
  get_elem_tactic_extensible
  have hc := cv60 b1 l1 b2 l2
  have hw : Wv w := ⟨bw, by omega⟩
  refine go_size hc hw ?_
  rw [hs]
  get_elem_tactic_extensible
  refine ifn (by simp) ?_
  get_elem_tactic_extensible
  refine go_dr 2 (by decide) (by decide) fun r r0 r1 => ?_
  get_elem_tactic_extensible
  refine go_put_right hc hw ?_
  get_elem_tactic_extensible
  refine go_at (mo := 60) (.inr rfl) m1 m2 fun c w b1 l1 b2 l2 bw w1 wl hs => ?_
  get_elem_tactic_extensible
  have hc := cv60 b1 l1 b2 l2
  have hw : Wv w := ⟨bw, by omega⟩
  refine go_dr 4 (by decide) (by decide) fun r r0 r1 => ?_
  get_elem_tactic_extensible
  refine go_wordI (by omega) (by omega) fun v bv vl => ?_
  get_elem_tactic_extensible
  have hv : Wv v := ⟨bv, by omega⟩
  have sv : siz c v ≤ 2000 := by have := siz_le l1 l2 bv; omega
  refine go_dr 2 (by decide) (by decide) fun r r0 r1 => ?_
  get_elem_tactic_extensible
  refine Go.ifd (fun h => ?_) (fun h => ?_)
  · get_elem_tactic_extensible
    exact lim_tail (o := (w, v)) hc ⟨hw, hv⟩ (fun k => ⟨by show siz c w ≤ 2000; omega, sv⟩) hq
  · get_elem_tactic_extensible
    exact lim_tail (o := (v, w)) hc ⟨hv, hw⟩ (fun k => ⟨sv, by show siz c w ≤ 2000; omega⟩) hq
end T
end DL
namespace DL
namespace T
open PySem L2 PySem.Spec PyProof.Rows
local macro_rules
  | `(tactic| get_elem_tactic_extensible) => `(tactic| (repeat (first | with_reducible refine Go.lc_go ?_ | with_reducible refine Go.ln_go ?_ | ((with_reducible apply Go.v_sh); exact rfl) | ((with_reducible apply Go.n_sh); exact rfl) | ((with_reducible apply Go.n_ow); exact rfl) | ((with_reducible apply Go.ab_go); exact rfl) | ((with_reducible apply Go.app_go); exact rfl) | ((with_reducible apply Go.ext_go); exact rfl) | with_reducible refine Go.c_go ?_ | with_reducible refine Go.tup_go ?_ | with_reducible refine Go.nv_go ?_ | with_reducible refine Go.bin_go ?_ | with_reducible refine Go.slT_go ?_ | with_reducible refine Go.slL_go ?_ | with_reducible refine Go.on_go ?_ | with_reducible refine Go.os_go ?_ | with_reducible refine Go.neg_go ?_ | with_reducible refine Go.sub_go ?_ | with_reducible refine Go.addI_go ?_ | with_reducible refine Go.seqT_go ?_ | with_reducible refine Go.call_go ?_ | with_reducible refine Go.callK_go ?_ | with_reducible refine Go.cb_go ?_ | with_reducible refine Go.dict1_go ?_ | with_reducible refine Go.if_go ?_ | with_reducible refine Go.an_go ?_ | with_reducible refine Go.ac_go ?_ | with_reducible refine Go.mv_go ?_ | with_reducible refine Go.par_go ?_ | with_reducible refine Go.sq_go ?_ | with_reducible refine Go.set_go ?_ | with_reducible refine Go.setN_go ?_ | with_reducible refine Go.ret_go ?_ | with_reducible refine Go.asg_go ?_ | with_reducible refine Go.ifs_go ?_ | with_reducible refine Go.next_go ?_ | with_reducible refine Go.nm_go ?_ | with_reducible refine Go.cmp_go ?_ | with_reducible refine Go.tv_go ?_ | with_reducible refine Go.not_go ?_ | with_reducible refine Go.and_go ?_ | with_reducible refine Go.or_go ?_ | with_reducible refine Go.lenT_go ?_ | with_reducible refine Go.lenL_go ?_ | with_reducible refine Go.absI_go ?_ | with_reducible refine Go.intI_go ?_ | with_reducible refine Go.max2_go ?_ | with_reducible refine Go.min2_go ?_ | with_reducible refine Go.tupL_go ?_ | with_reducible refine Go.tupT_go ?_ | with_reducible refine Go.gv_go ?_ | with_reducible refine Go.ltI_go ?_ | with_reducible refine Go.leI_go ?_ | with_reducible refine Go.gtI_go ?_ | with_reducible refine Go.geI_go ?_ | with_reducible refine Go.eqI_go ?_ | with_reducible refine Go.neI_go ?_ | with_reducible refine Go.eqS_go ?_ | with_reducible refine Go.rng1_go ?_ | ((first | with_reducible apply Go.ixL_go | with_reducible apply Go.ixT_go); first | exact DL.at0 _ _ | exact DL.at1 _ _ _ | exact DL.at2 _ _ _ _ | exact DL.at3 _ _ _ _ _ | exact DL.at4 _ _ _ _ _ _) | ((with_reducible apply Go.frz_go); exact rfl) | ((with_reducible apply Go.frz_sh); exact rfl) | with_reducible refine Go.mn_go ?_ | with_reducible refine Go.andV_go ?_ | ((first | with_reducible apply Go.sqT_go | with_reducible apply Go.sqL_go); exact rfl) | with_reducible refine Go.gsC_go ?_ | with_reducible refine Go.gsN_go ?_ | with_reducible refine Go.ifT (by decide +kernel) ?_ | with_reducible refine Go.ifF (by decide +kernel) ?_ | with_reducible refine Go.cat_go ?_ | with_reducible refine Go.callO_go ?_ | ((with_reducible apply Go.retO_go); exact rfl) | with_reducible refine Go.retN_go ?_ | with_reducible refine Go.ifN_go ?_ | with_reducible refine Go.yes_go ?_ | with_reducible refine Go.isI_go ?_ | with_reducible refine Go.isB_go ?_ | with_reducible refine Go.isN_go ?_ | with_reducible refine Go.notN_go ?_ | with_reducible refine Go.lrev_go ?_ | with_reducible refine Go.bk_go ?_ | with_reducible refine Go.ct_go ?_ | with_reducible refine Go.rng2_go ?_ | with_reducible refine Go.orV_go ?_ | with_reducible refine Go.notV_go ?_ | ((with_reducible apply Go.extT_go); exact rfl) | with_reducible refine Go.isI2_go ?_ | with_reducible refine Go.dict2_go ?_ | with_reducible refine Go.callE_go ?_ | with_reducible refine Go.callEK_go ?_ | with_reducible refine Go.raise0_go ?_ | with_reducible refine Go.raise1_go ?_ | ((with_reducible apply Go.is1_go); exact rfl) | ((with_reducible apply Go.isT_go); exact rfl) | ((with_reducible apply Go.fld_go); exact rfl) | ((with_reducible apply Go.setIx_go); exact rfl) | unfold fForS | unfold fLc | dsimp only [seqOf, List.set_cons_zero, List.set_cons_succ, setAll, wipeE])))
theorem cut_mem {ds : List D} {lo hi : Option Int} {x : D} (h : x ∈ cutD ds lo hi) : x ∈ ds := List.mem_of_mem_drop (List.mem_of_mem_take h)
theorem cut_len (ds : List D) (lo hi : Option Int) : (cutD ds lo hi).length ≤ ds.length := by
  unfold cutD
  rw [List.length_take, List.length_drop]
  omega
theorem cut_len_le (ds : List D) (k : Nat) : (cutD ds none (some (k : Int))).length ≤ k := by
  rw [cut_take, List.length_take]
  omega
def Nv (es : List D) : Prop := ∀ x ∈ es, Ni 1 700 x
theorem Nv.app {a b : List D} (h : Nv a) (k : Nv b) : Nv (a ++ b) := fun x hx => (List.mem_append.mp hx).elim (h x) (k x)
theorem Nv.cut {a : List D} (h : Nv a) (lo hi : Option Int) : Nv (cutD a lo hi) := fun x hx => h x (cut_mem hx)
theorem Nv.one {d : D} (h : Ni 1 700 d) : Nv [d] := fun x hx => by rw [List.mem_singleton.mp hx]; exact h
theorem Nv.rep {a : List D} (h : Nv a) (n : Nat) : Nv (List.replicate n a).flatten := fun x hx => by
  obtain ⟨l, hl, hx⟩ := List.mem_flatten.mp hx
  rw [List.eq_of_mem_replicate hl] at hx
  exact h x hx
theorem ni_bit {x : Int} (h : x = 0 ∨ x = 1) : Ni 1 700 (.int x) := (Ni.int (by omega)).le (by decide) (by decide)
theorem nv_wd {w : Wo} (h : Bw w) : Nv (w.map PyData.int) := fun x hx => by
  obtain ⟨y, hy, rfl⟩ := List.mem_map.mp hx
  exact ni_bit (h y hy)
theorem ov_tup {es : List D} (h : Nv es) (l : es.length ≤ 3000) : Ov (.tuple es) :=
  have n := Ni.tup (NiA.all h)
  ⟨n.sh, Nat.le_trans n.dp (by decide), Nat.le_trans n.wt (by omega), fun es' e => by
    injection e with e
    subst e
    exact ⟨l, fun x hx => (h x hx).le (by decide) (by decide)⟩⟩
theorem cp1 : CPow 10 30 := ⟨by omega, by omega, by decide⟩
theorem cp2 : CPow 10 57 := ⟨by omega, by omega, by decide⟩
theorem cp3 : CPowW ((10 : Int) ^ (57 : Int).toNat) 7 := ⟨by omega, by omega, by decide +kernel⟩
theorem rep_len (n : Nat) (l : List D) : (List.replicate n l).flatten.length = n * l.length := by
  induction n with
  | zero => simp
  | succ n ih => rw [List.replicate_succ, List.flatten_cons, List.length_append, ih, Nat.succ_mul]; omega
theorem add_gen {m n : Nat} {a b : List D} {Q : D → Prop} (ha : Nv a ∧ a.length ≤ m) (hb : Nv b ∧ b.length ≤ n) (hq : ∀ c, Nv c ∧ c.length ≤ m + n → Q (.tuple c)) (h : m + n ≤ 3000 := by decide) : gAdd (.tuple a) (.tuple b) Q := by
  obtain ⟨h1, h2⟩ := ha
  obtain ⟨h3, h4⟩ := hb
  refine ⟨by rw [sizeLine_eq]; omega, hq _ ⟨h1.app h3, ?_⟩⟩
  rw [List.length_append]
  omega
theorem nv_some : ∀ d ∈ ([.none, .bool true, .int 0, .int 1, .str "0", .str "01", .str "", .list [], .dict [], .dict [(.int 0, .int 1)], .tuple [.tuple []], .tuple [.none]] : List D), Ov d := fun d hd => by
  simp only [List.mem_cons, List.not_mem_nil, or_false] at hd
  have nt : ∀ e : D, (∀ es, e ≠ .tuple es) → ∀ es, e = .tuple es → es.length ≤ 3000 ∧ ∀ x ∈ es, Ni 5 40000 x := fun e h es z => absurd z (h es)
  rcases hd with rfl | rfl | rfl | rfl | rfl | rfl | rfl | rfl | rfl | rfl | rfl | rfl
  · exact ⟨rfl, by decide +kernel, by decide +kernel, nt _ (fun _ h => nomatch h)⟩
  · exact ⟨rfl, by decide +kernel, by decide +kernel, nt _ (fun _ h => nomatch h)⟩
  · exact ⟨rfl, by decide +kernel, by decide +kernel, nt _ (fun _ h => nomatch h)⟩
  · exact ⟨rfl, by decide +kernel, by decide +kernel, nt _ (fun _ h => nomatch h)⟩
  · exact ⟨rfl, by decide +kernel, by decide +kernel, nt _ (fun _ h => nomatch h)⟩
  · exact ⟨rfl, by decide +kernel, by decide +kernel, nt _ (fun _ h => nomatch h)⟩
  · exact ⟨rfl, by decide +kernel, by decide +kernel, nt _ (fun _ h => nomatch h)⟩
  · exact ⟨rfl, by decide +kernel, by decide +kernel, nt _ (fun _ h => nomatch h)⟩
  · exact ⟨rfl, by decide +kernel, by decide +kernel, nt _ (fun _ h => nomatch h)⟩
  · exact ⟨by decide +kernel, by decide +kernel, by decide +kernel, nt _ (fun _ h => nomatch h)⟩
  · exact ov_tup (Nv.one ((Ni.tup (NiA.nil (n := 0) (w := 0))).le (by decide) (by decide))) (by decide)
  · exact ov_tup (Nv.one (Ni.none.le (by decide) (by decide))) (by decide)
theorem odd_run {ws : List D} {Q : D → Prop} (nw : Nv ws) (tw : Ni 2 40000 (.tuple ws)) (l1 : 1 ≤ ws.length) (l60 : ws.length ≤ 60) (last : ∃ b : Int, atI ws (-1) = some (.int b))
    (hq : ∀ ds : List D, (∀ d ∈ ds, Ov d) → ds.length = 12 → Q (.list ds)) : g__law_odd_words (endsOf Q) (initE N__law_odd_words [.bg, .sh (.tuple ws)]) := by
  simp only [N__law_odd_words, initE, List.length_cons, List.length_nil, Nat.reduceAdd, Nat.reduceSub, List.replicate, List.cons_append, List.nil_append, List.append_nil]
  unfold g__law_odd_words
  get_elem_tactic_extensible
  refine go_dr (ws.length : Int) (by omega) (by omega) fun at_ a0 a1 => ?_
  get_elem_tactic_extensible
  refine ⟨cp1, ?_⟩
  get_elem_tactic_extensible
  refine ⟨cp2, ?_⟩
  get_elem_tactic_extensible
  refine ⟨cp3, ?_⟩
  get_elem_tactic_extensible
  refine go_pick (by simp) (by simp) fun odd ho => ?_
  have no : Ni 1 700 odd := by
    simp only [List.mem_cons, List.not_mem_nil, or_false] at ho
    rcases ho with rfl | rfl | rfl | rfl | rfl | rfl | rfl | rfl | rfl | rfl | rfl | rfl
    · exact (Ni.int (by decide)).le (by decide) (by decide)
    · exact (Ni.int (by decide)).le (by decide) (by decide)
    · exact (Ni.bool _).le (by decide) (by decide)
    · exact (Ni.bool _).le (by decide) (by decide)
    · exact Ni.none.le (by decide) (by decide)
    · exact (Ni.str (w := 10)).le (by decide) (by decide)
    · exact (Ni.str (w := 10)).le (by decide) (by decide)
    · exact (Ni.tup (.cons (Ni.int (by decide)) (NiA.nil (w := 0)))).le (by decide) (by decide)
    · exact (Ni.tup (NiA.nil (n := 0) (w := 0))).le (by decide) (by decide)
    · exact (Ni.list (.cons (Ni.int (by decide)) (NiA.nil (w := 0)))).le (by decide) (by decide)
    · exact (Ni.int (by decide +kernel)).le (by decide) (by decide)
    · exact (Ni.int (by decide +kernel)).le (by decide) (by decide)
  clear ho
  get_elem_tactic_extensible
  refine ⟨by rintro rfl; simp at l1, by omega, by omega, by omega, ?_⟩
  get_elem_tactic_extensible
  have nl : Nv (cutD (List.replicate (60 : Int).toNat ws).flatten none (some 59)) := (nw.rep _).cut _ _
  have ll : (cutD (List.replicate (60 : Int).toNat ws).flatten none (some 59)).length ≤ 59 := cut_len_le _ 59
  have lg : 1 ≤ (cutD (List.replicate (60 : Int).toNat ws).flatten none (some 59)).length := by
    have := cut_take (List.replicate (60 : Int).toNat ws).flatten 59
    rw [show (((59 : Nat) : Int)) = 59 from rfl] at this
    rw [this, List.length_take]
    have : (List.replicate (60 : Int).toNat ws).flatten.length = 60 * ws.length := rep_len 60 ws
    omega
  generalize (cutD (List.replicate (60 : Int).toNat ws).flatten none (some 59)) = lo at nl ll lg
  have cw : ∀ lo hi, Nv (cutD ws lo hi) ∧ (cutD ws lo hi).length ≤ 60 := fun lo hi => ⟨nw.cut lo hi, Nat.le_trans (cut_len ..) l60⟩
  have co : Nv [odd] ∧ [odd].length ≤ 1 := ⟨Nv.one no, Nat.le_refl _⟩
  have c0 : Ni 1 700 (.int 0) := ni_bit (.inl rfl)
  have c1 : Ni 1 700 (.int 1) := ni_bit (.inr rfl)
  refine add_gen (cw _ _) co fun t1 h1 => ?_
  get_elem_tactic_extensible
  refine add_gen h1 (cw _ _) fun t1 h1 => ?_
  get_elem_tactic_extensible
  refine add_gen (cw _ _) co fun t2 h2 => ?_
  get_elem_tactic_extensible
  refine add_gen co (cw _ _) fun t3 h3 => ?_
  get_elem_tactic_extensible
  obtain ⟨b, hb⟩ := last
  refine Go.ixT_go hb ?_
  get_elem_tactic_extensible
  refine add_gen (cw _ _) (n := 1) ⟨Nv.one ((Ni.bool _).le (by decide) (by decide)), Nat.le_refl _⟩ fun t4 h4 => ?_
  refine ⟨by unfold most; simp, ?_⟩
  get_elem_tactic_extensible
  refine add_gen ⟨nl, ll⟩ (n := 1) ⟨Nv.one c1, Nat.le_refl _⟩ fun t5 h5 => ?_
  get_elem_tactic_extensible
  refine add_gen ⟨nl, ll⟩ (n := 2) ⟨(Nv.one c0).app (Nv.one c1), Nat.le_refl _⟩ fun t6 h6 => ?_
  get_elem_tactic_extensible
  refine add_gen ⟨nl, ll⟩ co fun t7 h7 => ?_
  get_elem_tactic_extensible
  refine ⟨by unfold most; simp, ?_⟩
  get_elem_tactic_extensible
  refine ⟨by rintro rfl; simp at lg, by omega, by omega, by omega, ?_⟩
  get_elem_tactic_extensible
  refine go_dr 500 (by decide) (by decide) fun r r0 r1 => ?_
  get_elem_tactic_extensible
  refine ⟨by unfold most; simp, ?_⟩
  get_elem_tactic_extensible
  have n8 : Nv (cutD (List.replicate (9 : Int).toNat lo).flatten none (some r)) := (nl.rep _).cut _ _
  have l8 : (cutD (List.replicate (9 : Int).toNat lo).flatten none (some r)).length ≤ 600 := Nat.le_trans (cut_len ..) (by
    have : (List.replicate (9 : Int).toNat lo).flatten.length = 9 * lo.length := rep_len 9 lo
    omega)
  generalize (cutD (List.replicate (9 : Int).toNat lo).flatten none (some r)) = t8 at n8 l8
  refine go_pick (by simp) (by simp) fun d9 h9 => ?_
  refine ⟨by unfold most; simp, ?_⟩
  get_elem_tactic_extensible
  refine hq _ (fun d hd => ?_) rfl
  simp only [List.mem_append, List.mem_cons, List.not_mem_nil, or_false] at hd
  rcases hd with ((((rfl | rfl | rfl) | rfl) | rfl | rfl | rfl | rfl | rfl | rfl) | rfl) | rfl
  · exact ov_tup h1.1 (by omega)
  · exact ov_tup h2.1 (by omega)
  · exact ov_tup h3.1 (by omega)
  · exact ov_tup h4.1 (by omega)
  · exact ov_tup (fun _ h => absurd h (by simp)) (by simp)
  · have n := Ni.list (NiA.all nw)
    exact ⟨n.sh, Nat.le_trans n.dp (by decide), Nat.le_trans n.wt (by omega), fun _ h => nomatch h⟩
  · have n : Ni 3 40005 (.tuple [.tuple ws]) := (Ni.tup (.cons tw (NiA.nil (w := 0)))).le (by decide) (by decide)
    refine ⟨n.sh, Nat.le_trans n.dp (by decide), Nat.le_trans n.wt (by decide), fun es h => ?_⟩
    injection h with h
    subst h
    exact ⟨by simp, fun x hx => by rw [List.mem_singleton.mp hx]; exact tw.le (by decide) (by decide)⟩
  · exact ov_tup h5.1 (by omega)
  · exact ov_tup h6.1 (by omega)
  · exact ov_tup h7.1 (by omega)
  · exact ov_tup n8 (by omega)
  · exact nv_some _ h9
theorem r__law_odd_words : ∀ ss (Q : D → Prop), S__law_odd_words ss Q → g__law_odd_words (endsOf Q) (initE N__law_odd_words ss) := by
  rintro ss Q ⟨w, rfl, ⟨bw, l1, l60⟩, hq⟩
  have bw : Bw w := bw
  have l1 : 1 ≤ w.length := l1
  have l60 : w.length ≤ 60 := l60
  have hq : ∀ ds : List D, (∀ d ∈ ds, Ov d) ∧ ds.length = 12 → Q (.list ds) := hq
  have lw : (w.map PyData.int).length = w.length := List.length_map ..
  have last : ∃ b : Int, atI (w.map PyData.int) (-1) = some (.int b) := by
    rcases List.eq_nil_or_concat w with h | ⟨v, x, h⟩
    · rw [h] at l1
      exact absurd l1 (by decide)
    · refine ⟨x, ?_⟩
      rw [h, List.concat_eq_append, List.map_append]
      exact atI_last _ _
  have tw : Ni 2 40000 (.tuple (w.map PyData.int)) := (Ni.tup (NiA.all (n := 0) (w := 600) fun x hx => by
    obtain ⟨y, hy, rfl⟩ := List.mem_map.mp hx
    have := bw y hy
    exact Ni.int (by omega))).le (by decide) (by rw [lw]; omega)
  exact odd_run (nv_wd bw) tw (by omega) (by omega) last fun ds a b => hq ds ⟨a, b⟩
theorem go_odd {w : Wo} {Q : D → Prop} (bw : Bw w) (l1 : 1 ≤ w.length) (l60 : w.length ≤ 60) (hq : ∀ ds : List D, (∀ d ∈ ds, Ov d) → ds.length = 12 → Q (.list ds)) : S__law_odd_words [.bg, wW w] Q := ⟨w, rfl, ⟨bw, l1, l60⟩, fun ds h => hq ds h.1 h.2⟩
end T
end DL
namespace DL
namespace T
open PySem L2 PySem.Spec PyProof.Rows
local macro_rules
  | `(tactic| get_elem_tactic_extensible) => `(tactic| (repeat (first | with_reducible refine Go.lc_go ?_ | with_reducible refine Go.ln_go ?_ | ((with_reducible apply Go.v_sh); exact rfl) | ((with_reducible apply Go.n_sh); exact rfl) | ((with_reducible apply Go.n_ow); exact rfl) | ((with_reducible apply Go.ab_go); exact rfl) | ((with_reducible apply Go.app_go); exact rfl) | ((with_reducible apply Go.ext_go); exact rfl) | with_reducible refine Go.c_go ?_ | with_reducible refine Go.tup_go ?_ | with_reducible refine Go.nv_go ?_ | with_reducible refine Go.bin_go ?_ | with_reducible refine Go.slT_go ?_ | with_reducible refine Go.slL_go ?_ | with_reducible refine Go.on_go ?_ | with_reducible refine Go.os_go ?_ | with_reducible refine Go.neg_go ?_ | with_reducible refine Go.sub_go ?_ | with_reducible refine Go.addI_go ?_ | with_reducible refine Go.seqT_go ?_ | with_reducible refine Go.call_go ?_ | with_reducible refine Go.callK_go ?_ | with_reducible refine Go.cb_go ?_ | with_reducible refine Go.dict1_go ?_ | with_reducible refine Go.if_go ?_ | with_reducible refine Go.an_go ?_ | with_reducible refine Go.ac_go ?_ | with_reducible refine Go.mv_go ?_ | with_reducible refine Go.par_go ?_ | with_reducible refine Go.sq_go ?_ | with_reducible refine Go.set_go ?_ | with_reducible refine Go.setN_go ?_ | with_reducible refine Go.ret_go ?_ | with_reducible refine Go.asg_go ?_ | with_reducible refine Go.ifs_go ?_ | with_reducible refine Go.next_go ?_ | with_reducible refine Go.nm_go ?_ | with_reducible refine Go.cmp_go ?_ | with_reducible refine Go.tv_go ?_ | with_reducible refine Go.not_go ?_ | with_reducible refine Go.and_go ?_ | with_reducible refine Go.or_go ?_ | with_reducible refine Go.lenT_go ?_ | with_reducible refine Go.lenL_go ?_ | with_reducible refine Go.absI_go ?_ | with_reducible refine Go.intI_go ?_ | with_reducible refine Go.max2_go ?_ | with_reducible refine Go.min2_go ?_ | with_reducible refine Go.tupL_go ?_ | with_reducible refine Go.tupT_go ?_ | with_reducible refine Go.gv_go ?_ | with_reducible refine Go.ltI_go ?_ | with_reducible refine Go.leI_go ?_ | with_reducible refine Go.gtI_go ?_ | with_reducible refine Go.geI_go ?_ | with_reducible refine Go.eqI_go ?_ | with_reducible refine Go.neI_go ?_ | with_reducible refine Go.eqS_go ?_ | with_reducible refine Go.rng1_go ?_ | ((first | with_reducible apply Go.ixL_go | with_reducible apply Go.ixT_go); first | exact DL.at0 _ _ | exact DL.at1 _ _ _ | exact DL.at2 _ _ _ _ | exact DL.at3 _ _ _ _ _ | exact DL.at4 _ _ _ _ _ _) | ((with_reducible apply Go.frz_go); exact rfl) | ((with_reducible apply Go.frz_sh); exact rfl) | with_reducible refine Go.mn_go ?_ | with_reducible refine Go.andV_go ?_ | ((first | with_reducible apply Go.sqT_go | with_reducible apply Go.sqL_go); exact rfl) | with_reducible refine Go.gsC_go ?_ | with_reducible refine Go.gsN_go ?_ | with_reducible refine Go.ifT (by decide +kernel) ?_ | with_reducible refine Go.ifF (by decide +kernel) ?_ | with_reducible refine Go.cat_go ?_ | with_reducible refine Go.callO_go ?_ | ((with_reducible apply Go.retO_go); exact rfl) | with_reducible refine Go.retN_go ?_ | with_reducible refine Go.ifN_go ?_ | with_reducible refine Go.yes_go ?_ | with_reducible refine Go.isI_go ?_ | with_reducible refine Go.isB_go ?_ | with_reducible refine Go.isN_go ?_ | with_reducible refine Go.notN_go ?_ | with_reducible refine Go.lrev_go ?_ | with_reducible refine Go.bk_go ?_ | with_reducible refine Go.ct_go ?_ | with_reducible refine Go.rng2_go ?_ | with_reducible refine Go.orV_go ?_ | with_reducible refine Go.notV_go ?_ | ((with_reducible apply Go.extT_go); exact rfl) | with_reducible refine Go.isI2_go ?_ | with_reducible refine Go.dict2_go ?_ | with_reducible refine Go.callE_go ?_ | with_reducible refine Go.callEK_go ?_ | with_reducible refine Go.raise0_go ?_ | with_reducible refine Go.raise1_go ?_ | ((with_reducible apply Go.is1_go); exact rfl) | ((with_reducible apply Go.isT_go); exact rfl) | ((with_reducible apply Go.fld_go); exact rfl) | ((with_reducible apply Go.setIx_go); exact rfl) | unfold fForS | unfold fLc | dsimp only [seqOf, List.set_cons_zero, List.set_cons_succ, setAll, wipeE])))
structure Sh (n w : Nat) (d : D) : Prop where
  sh : PyData.showable d = true
  dp : PyData.depth d ≤ n
  wt : (PyData.shown d).length ≤ w
structure ShA (n w : Nat) (ds : List D) : Prop where
  sh : PyData.showableAll ds = true
  dp : PyData.depthAll ds ≤ n
  wt : ((PyData.shownAll ds).map (·.length)).sum + 2 * (PyData.shownAll ds).length ≤ w
theorem ShA.nil {n w : Nat} : ShA n w [] := ⟨rfl, by simp [PyData.depthAll], by simp [PyData.shownAll]⟩
theorem ShA.cons {n w v : Nat} {d : D} {ds : List D} (h : Sh n w d) (k : ShA n v ds) : ShA n (w + 2 + v) (d :: ds) :=
  ⟨by simp [PyData.showableAll, h.sh, k.sh], by have := h.dp; have := k.dp; simp only [PyData.depthAll]; omega, by have := h.wt; have := k.wt; simp only [PyData.shownAll, List.map_cons, List.sum_cons, List.length_cons]; omega⟩
theorem ShA.le {n w m v : Nat} {d : List D} (h : ShA n w d) (a : n ≤ m) (b : w ≤ v) : ShA m v d := ⟨h.sh, Nat.le_trans h.dp a, Nat.le_trans h.wt b⟩
theorem ShA.all {n w : Nat} : ∀ {ds : List D}, (∀ d ∈ ds, Sh n w d) → ShA n (ds.length * (w + 2)) ds
  | [], _ => ShA.nil
  | d :: ds, h => (ShA.cons (h d List.mem_cons_self) (ShA.all fun e he => h e (List.mem_cons_of_mem _ he))).le (Nat.le_refl _) (by rw [List.length_cons, Nat.succ_mul]; omega)
theorem Sh.list {n w : Nat} {ds : List D} (h : ShA n w ds) : Sh (n + 1) (w + 3) (.list ds) :=
  ⟨by simp [PyData.showable, h.sh], by have := h.dp; simp only [PyData.depth]; omega, by
    have := h.wt
    have := listText_len_le (PyData.shownAll ds)
    simp only [PyData.shown]
    omega⟩
theorem Sh.tup {n w : Nat} {ds : List D} (h : ShA n w ds) : Sh (n + 1) (w + 3) (.tuple ds) :=
  ⟨by simp [PyData.showable, h.sh], by have := h.dp; simp only [PyData.depth]; omega, by
    have := h.wt
    have := tupleText_len_le (PyData.shownAll ds)
    simp only [PyData.shown]
    omega⟩
theorem Ov.s {d : D} (h : Ov d) : Sh 10 3000000 d := ⟨h.sh, h.dp, h.wt⟩
/-- a value that may be asked for its error -/
structure Vv (d : D) : Prop where
  s : Sh 20 12000000 d
  k : ∀ ds, d = .tuple ds → ∀ e ∈ ds, Wi e
theorem vv_tup {es : List D} (h : ∀ e ∈ es, Ov e) (l : es.length ≤ 3) : Vv (.tuple es) :=
  have n := Sh.tup (ShA.all fun e he => (h e he).s)
  ⟨⟨n.sh, Nat.le_trans n.dp (by decide), Nat.le_trans n.wt (by omega)⟩, fun ds e => by injection e with e; subst e; exact fun x hx => (h x hx).wi⟩
theorem vv_list {es : List D} (h : ∀ e ∈ es, Ov e) (l : es.length ≤ 3) : Vv (.list es) :=
  have n := Sh.list (ShA.all fun e he => (h e he).s)
  ⟨⟨n.sh, Nat.le_trans n.dp (by decide), Nat.le_trans n.wt (by omega)⟩, fun ds e => nomatch e⟩
theorem vv1 {a : D} (h : Ov a) : Vv (.tuple [a]) := vv_tup (fun x hx => by rw [List.mem_singleton.mp hx]; exact h) (by simp)
theorem vv2 {a b : D} (h : Ov a) (k : Ov b) : Vv (.tuple [a, b]) := vv_tup (fun x hx => by
  simp only [List.mem_cons, List.not_mem_nil, or_false] at hx
  rcases hx with rfl | rfl <;> assumption) (by simp)
theorem vv3 {a b c : D} (h : Ov a) (k : Ov b) (l : Ov c) : Vv (.tuple [a, b, c]) := vv_tup (fun x hx => by
  simp only [List.mem_cons, List.not_mem_nil, or_false] at hx
  rcases hx with rfl | rfl | rfl <;> assumption) (by simp)
theorem vvl2 {a b : D} (h : Ov a) (k : Ov b) : Vv (.list [a, b]) := vv_list (fun x hx => by
  simp only [List.mem_cons, List.not_mem_nil, or_false] at hx
  rcases hx with rfl | rfl <;> assumption) (by simp)
theorem ov_int {i : Int} (h : i = 0 ∨ i = 1) : Ov (.int i) := by
  have n := ni_bit h
  exact ⟨n.sh, Nat.le_trans n.dp (by decide), Nat.le_trans n.wt (by decide), fun _ h => nomatch h⟩
theorem ov_w {w : Wo} (b : Bw w) (l : w.length ≤ 60) : Ov (wdD w) := ov_tup (nv_wd b) (by rw [List.length_map]; omega)
theorem ni_w60 {w : Wo} (b : Bw w) (l : w.length ≤ 60) : Ni 1 37000 (wdD w) :=
  (Ni.tup (NiA.all (n := 0) (w := 600) fun x hx => by
    obtain ⟨y, hy, rfl⟩ := List.mem_map.mp hx
    have := b y hy
    exact Ni.int (by omega))).le (by decide) (by rw [List.length_map]; omega)
theorem ov_c {a b : D} (h : Ni 1 37000 a) (k : Ni 1 37000 b) : Ov (.tuple [a, b]) := by
  have n : Ni 2 80000 (.tuple [a, b]) := (Ni.tup (.cons h (.cons k (NiA.nil (w := 0))))).le (by decide) (by decide)
  refine ⟨n.sh, Nat.le_trans n.dp (by decide), Nat.le_trans n.wt (by decide), fun es e => ?_⟩
  injection e with e
  subst e
  refine ⟨by simp, fun x hx => ?_⟩
  simp only [List.mem_cons, List.not_mem_nil, or_false] at hx
  rcases hx with rfl | rfl
  · exact h.le (by decide) (by decide)
  · exact k.le (by decide) (by decide)
theorem Vv.repr {d : D} (h : Vv d) {Q : D → Prop} (q : Q (.str d.shown)) : bReprA [d] Q := ⟨h.s.sh, by rw [sizeLine_eq]; exact Nat.le_trans h.s.wt (by decide), Nat.le_trans h.s.dp (by decide), q⟩
theorem err_own (d : D) : Own 5 (errF d) ∧ Ni 20 8000000 (errF d) := by
  have p : ∀ k : Int, k = 0 ∨ k = 1 → Own 5 (.tuple [.str "image", .int k]) ∧ Ni 20 8000000 (.tuple [.str "image", .int k]) := fun k hk => by
    refine ⟨⟨by simp, fun e he => ?_⟩, (Ni.tup (.cons (Ni.str (w := 20)) (.cons (Ni.int (by omega)) (NiA.nil (w := 0))))).le (by decide) (by decide)⟩
    simp only [List.mem_cons, List.not_mem_nil, or_false] at he
    rcases he with rfl | rfl
    · exact .inr trivial
    · exact .inl rfl
  have f : Own 5 (.str "form") ∧ Ni 20 8000000 (.str "form") := ⟨trivial, (Ni.str (w := 20)).le (by decide) (by decide)⟩
  unfold errF
  split
  · split
    · split
      · exact ⟨trivial, Ni.none.le (by decide) (by decide)⟩
      · exact p 1 (.inr rfl)
    · exact p 0 (.inl rfl)
  · exact f
end T
end DL
namespace DL
namespace T
open PySem L2 PySem.Spec PyProof.Rows
local macro_rules
  | `(tactic| get_elem_tactic_extensible) => `(tactic| (repeat (first | with_reducible refine Go.lc_go ?_ | with_reducible refine Go.ln_go ?_ | ((with_reducible apply Go.v_sh); exact rfl) | ((with_reducible apply Go.n_sh); exact rfl) | ((with_reducible apply Go.n_ow); exact rfl) | ((with_reducible apply Go.ab_go); exact rfl) | ((with_reducible apply Go.app_go); exact rfl) | ((with_reducible apply Go.ext_go); exact rfl) | with_reducible refine Go.c_go ?_ | with_reducible refine Go.tup_go ?_ | with_reducible refine Go.nv_go ?_ | with_reducible refine Go.bin_go ?_ | with_reducible refine Go.slT_go ?_ | with_reducible refine Go.slL_go ?_ | with_reducible refine Go.on_go ?_ | with_reducible refine Go.os_go ?_ | with_reducible refine Go.neg_go ?_ | with_reducible refine Go.sub_go ?_ | with_reducible refine Go.addI_go ?_ | with_reducible refine Go.seqT_go ?_ | with_reducible refine Go.call_go ?_ | with_reducible refine Go.callK_go ?_ | with_reducible refine Go.cb_go ?_ | with_reducible refine Go.dict1_go ?_ | with_reducible refine Go.if_go ?_ | with_reducible refine Go.an_go ?_ | with_reducible refine Go.ac_go ?_ | with_reducible refine Go.mv_go ?_ | with_reducible refine Go.par_go ?_ | with_reducible refine Go.sq_go ?_ | with_reducible refine Go.set_go ?_ | with_reducible refine Go.setN_go ?_ | with_reducible refine Go.ret_go ?_ | with_reducible refine Go.asg_go ?_ | with_reducible refine Go.ifs_go ?_ | with_reducible refine Go.next_go ?_ | with_reducible refine Go.nm_go ?_ | with_reducible refine Go.cmp_go ?_ | with_reducible refine Go.tv_go ?_ | with_reducible refine Go.not_go ?_ | with_reducible refine Go.and_go ?_ | with_reducible refine Go.or_go ?_ | with_reducible refine Go.lenT_go ?_ | with_reducible refine Go.lenL_go ?_ | with_reducible refine Go.absI_go ?_ | with_reducible refine Go.intI_go ?_ | with_reducible refine Go.max2_go ?_ | with_reducible refine Go.min2_go ?_ | with_reducible refine Go.tupL_go ?_ | with_reducible refine Go.tupT_go ?_ | with_reducible refine Go.gv_go ?_ | with_reducible refine Go.ltI_go ?_ | with_reducible refine Go.leI_go ?_ | with_reducible refine Go.gtI_go ?_ | with_reducible refine Go.geI_go ?_ | with_reducible refine Go.eqI_go ?_ | with_reducible refine Go.neI_go ?_ | with_reducible refine Go.eqS_go ?_ | with_reducible refine Go.rng1_go ?_ | ((first | with_reducible apply Go.ixL_go | with_reducible apply Go.ixT_go); first | exact DL.at0 _ _ | exact DL.at1 _ _ _ | exact DL.at2 _ _ _ _ | exact DL.at3 _ _ _ _ _ | exact DL.at4 _ _ _ _ _ _) | ((with_reducible apply Go.frz_go); exact rfl) | ((with_reducible apply Go.frz_sh); exact rfl) | with_reducible refine Go.mn_go ?_ | with_reducible refine Go.andV_go ?_ | ((first | with_reducible apply Go.sqT_go | with_reducible apply Go.sqL_go); exact rfl) | with_reducible refine Go.gsC_go ?_ | with_reducible refine Go.gsN_go ?_ | with_reducible refine Go.ifT (by decide +kernel) ?_ | with_reducible refine Go.ifF (by decide +kernel) ?_ | with_reducible refine Go.cat_go ?_ | with_reducible refine Go.callO_go ?_ | ((with_reducible apply Go.retO_go); exact rfl) | with_reducible refine Go.retN_go ?_ | with_reducible refine Go.ifN_go ?_ | with_reducible refine Go.yes_go ?_ | with_reducible refine Go.isI_go ?_ | with_reducible refine Go.isB_go ?_ | with_reducible refine Go.isN_go ?_ | with_reducible refine Go.notN_go ?_ | with_reducible refine Go.lrev_go ?_ | with_reducible refine Go.bk_go ?_ | with_reducible refine Go.ct_go ?_ | with_reducible refine Go.rng2_go ?_ | with_reducible refine Go.orV_go ?_ | with_reducible refine Go.notV_go ?_ | ((with_reducible apply Go.extT_go); exact rfl) | with_reducible refine Go.isI2_go ?_ | with_reducible refine Go.dict2_go ?_ | with_reducible refine Go.callE_go ?_ | with_reducible refine Go.callEK_go ?_ | with_reducible refine Go.raise0_go ?_ | with_reducible refine Go.raise1_go ?_ | ((with_reducible apply Go.is1_go); exact rfl) | ((with_reducible apply Go.isT_go); exact rfl) | ((with_reducible apply Go.fld_go); exact rfl) | ((with_reducible apply Go.setIx_go); exact rfl) | unfold fForS | unfold fLc | dsimp only [seqOf, List.set_cons_zero, List.set_cons_succ, setAll, wipeE])))
abbrev ErE (c : Ch) (vs : List D) (s3 s4 s5 s6 s7 s8 s9 s10 : Sl) : Env := [.bg, cC c, .ow vs, s3, s4, s5, s6, s7, s8, s9, s10]
theorem grow {c : Ch} {k : Int} (hk : k = 0 ∨ k = 1) (o1 : Ov (wdD c.1)) (o2 : Ov (wdD c.2)) {E : En} {s3 s6 s7 s8 s9 s10 : Sl} (n : Nat) (hn : n ≤ 60) (last : ∀ (vs : List D) (s5 : Sl), (∀ v ∈ vs, Vv v) → vs.length = n → E.nx (ErE c vs s3 (iS k) s5 s6 s7 s8 s9 s10)) (ds : List D) (vs : List D) (s5 : Sl) (h1 : ∀ d ∈ ds, Ov d) (h2 : ∀ v ∈ vs, Vv v) (h3 : vs.length + ds.length = n) :
    fFor (gNm 5) (fApp 2 (fIf (fCmp gEq (fN 4) (fC (.int 0))) (fTup (fLC (fV 5) (fLC (fBin gIx (fN 1) (fC (.int 1))) fLN))) (fTup (fLC (fBin gIx (fN 1) (fC (.int 0))) (fLC (fV 5) fLN))))) ds E (ErE c vs s3 (iS k) s5 s6 s7 s8 s9 s10) := by
  refine for_of (fun ds ρ => ∃ (vs : List D) (s5 : Sl), ρ = ErE c vs s3 (iS k) s5 s6 s7 s8 s9 s10 ∧ (∀ d ∈ ds, Ov d) ∧ (∀ v ∈ vs, Vv v) ∧ vs.length + ds.length = n) ?_ ?_ _ _ ⟨vs, s5, rfl, h1, h2, h3⟩
  · rintro d ds ρ ⟨vs, s5, rfl, h1, h2, h3⟩ K hK
    rw [List.length_cons] at h3
    have od := h1 d List.mem_cons_self
    have fin : ∀ t, Vv t → K (ErE c (vs ++ [t]) s3 (iS k) (.sh d) s6 s7 s8 s9 s10) := fun t ht => hK _ ⟨_, _, rfl, fun e he => h1 e (List.mem_cons_of_mem _ he), fun v hv => (List.mem_append.mp hv).elim (h2 v) (fun hv => by rw [List.mem_singleton.mp hv]; exact ht), by rw [List.length_append]; simp only [List.length_cons, List.length_nil]; omega⟩
    have lm : vs.length < most := by unfold most; omega
    rcases hk with rfl | rfl
    · get_elem_tactic_extensible
      refine Go.ixT_go (at1 _ _ _) ?_
      get_elem_tactic_extensible
      exact ⟨lm, fin _ (vv2 od o2)⟩
    · get_elem_tactic_extensible
      refine Go.ixT_go (at0 _ _) ?_
      get_elem_tactic_extensible
      exact ⟨lm, fin _ (vv2 o1 od)⟩
  · rintro ρ ⟨vs, s5, rfl, _, h2, h3⟩
    exact last vs s5 h2 h3
theorem er_turns {c : Ch} {E : En} {s2 s3 s4 s5 : Sl} (last : ∀ s6 s7 s8 s9 s10, E.nx [.bg, cC c, s2, s3, s4, s5, s6, s7, s8, s9, s10]) (vs : List D) (h : ∀ v ∈ vs, Vv v) (s6 s7 s8 s9 s10 : Sl) :
    fFor (gSq 2 (gsCons (gNm 6) (gsCons (gNm 7) gsNil))) (fSeqS (fPar [8, 9] (fMV (fCall S__law_due_error (fAC (fV 7) fAN)) (fMV (fCB bReprA (fLC (fN 7) fLN)) fAN))) (fSeqS (fSet 10 (fIf (fCmp gEq (fBin gMod (fCB bInt (fLC (fN 6) fLN)) (fC (.int 2))) (fC (.int 0))) (fCallK S_change_error [0] (fAC (fV 7) fAN)) (fCall S_change_error (fAC (fV 7) fAN)))) (fIfS (fOr (fNot (fTV (fCall S__law_is_same (fAC (fV 10) (fAC (fV 8) fAN))))) (fCmp gNe (fCB bReprA (fLC (fN 7) fLN)) (fN 9))) (fRet (fC (.bool false))) fNext))) (enumD 0 vs) E [.bg, cC c, s2, s3, s4, s5, s6, s7, s8, s9, s10] := by
  refine for_of (fun ds ρ => ∃ (k : Nat) (vs : List D) (s6 s7 s8 s9 s10 : Sl), ds = enumD k vs ∧ ρ = [.bg, cC c, s2, s3, s4, s5, s6, s7, s8, s9, s10] ∧ ∀ v ∈ vs, Vv v) ?_ ?_ _ _ ⟨0, vs, s6, s7, s8, s9, s10, rfl, rfl, h⟩
  · rintro d ds ρ ⟨k, vs, s6, s7, s8, s9, s10, he, rfl, h⟩ K hK
    cases vs with
    | nil => cases he
    | cons v vs =>
      cases he
      have hv := h v List.mem_cons_self
      obtain ⟨w1, w2⟩ := err_own v
      get_elem_tactic_extensible
      refine go_due hv.k ?_
      generalize hx : errF v = x at w1 w2
      get_elem_tactic_extensible
      refine hv.repr ?_
      generalize hS : PyData.shown v = sx
      refine ⟨rfl, ?_⟩
      get_elem_tactic_extensible
      have tail : ∀ E : En, E.nx = K → (fIfS (fOr (fNot (fTV (fCall S__law_is_same (fAC (fV 10) (fAC (fV 8) fAN))))) (fCmp gNe (fCB bReprA (fLC (fN 7) fLN)) (fN 9))) (fRet (fC (.bool false))) fNext) E [.bg, cC c, s2, s3, s4, s5, iS (k : Int), .sh v, .sh x, .sh (.str sx), .sh x] := fun E hE => by
        get_elem_tactic_extensible
        refine go_same w1 w2 ?_
        get_elem_tactic_extensible
        refine hv.repr ?_
        rw [hS]
        refine Go.n_sh rfl ?_
        refine neS sx ?_
        get_elem_tactic_extensible
        rw [hE]
        exact hK _ ⟨k + 1, vs, _, _, _, _, _, rfl, rfl, fun e he => h e (List.mem_cons_of_mem _ he)⟩
      refine Go.ifd (fun hh => ?_) (fun hh => ?_)
      · get_elem_tactic_extensible
        refine go_err hv.k ?_
        rw [hx]
        get_elem_tactic_extensible
        exact tail _ rfl
      · get_elem_tactic_extensible
        refine go_err hv.k ?_
        rw [hx]
        get_elem_tactic_extensible
        exact tail _ rfl
  · rintro ρ ⟨k, vs, s6, s7, s8, s9, s10, he, rfl, h⟩
    exact last _ _ _ _ _
end T
end DL
namespace DL
namespace T
open PySem L2 PySem.Spec PyProof.Rows
local macro_rules
  | `(tactic| get_elem_tactic_extensible) => `(tactic| (repeat (first | with_reducible refine Go.lc_go ?_ | with_reducible refine Go.ln_go ?_ | ((with_reducible apply Go.v_sh); exact rfl) | ((with_reducible apply Go.n_sh); exact rfl) | ((with_reducible apply Go.n_ow); exact rfl) | ((with_reducible apply Go.ab_go); exact rfl) | ((with_reducible apply Go.app_go); exact rfl) | ((with_reducible apply Go.ext_go); exact rfl) | with_reducible refine Go.c_go ?_ | with_reducible refine Go.tup_go ?_ | with_reducible refine Go.nv_go ?_ | with_reducible refine Go.bin_go ?_ | with_reducible refine Go.slT_go ?_ | with_reducible refine Go.slL_go ?_ | with_reducible refine Go.on_go ?_ | with_reducible refine Go.os_go ?_ | with_reducible refine Go.neg_go ?_ | with_reducible refine Go.sub_go ?_ | with_reducible refine Go.addI_go ?_ | with_reducible refine Go.seqT_go ?_ | with_reducible refine Go.call_go ?_ | with_reducible refine Go.callK_go ?_ | with_reducible refine Go.cb_go ?_ | with_reducible refine Go.dict1_go ?_ | with_reducible refine Go.if_go ?_ | with_reducible refine Go.an_go ?_ | with_reducible refine Go.ac_go ?_ | with_reducible refine Go.mv_go ?_ | with_reducible refine Go.par_go ?_ | with_reducible refine Go.sq_go ?_ | with_reducible refine Go.set_go ?_ | with_reducible refine Go.setN_go ?_ | with_reducible refine Go.ret_go ?_ | with_reducible refine Go.asg_go ?_ | with_reducible refine Go.ifs_go ?_ | with_reducible refine Go.next_go ?_ | with_reducible refine Go.nm_go ?_ | with_reducible refine Go.cmp_go ?_ | with_reducible refine Go.tv_go ?_ | with_reducible refine Go.not_go ?_ | with_reducible refine Go.and_go ?_ | with_reducible refine Go.or_go ?_ | with_reducible refine Go.lenT_go ?_ | with_reducible refine Go.lenL_go ?_ | with_reducible refine Go.absI_go ?_ | with_reducible refine Go.intI_go ?_ | with_reducible refine Go.max2_go ?_ | with_reducible refine Go.min2_go ?_ | with_reducible refine Go.tupL_go ?_ | with_reducible refine Go.tupT_go ?_ | with_reducible refine Go.gv_go ?_ | with_reducible refine Go.ltI_go ?_ | with_reducible refine Go.leI_go ?_ | with_reducible refine Go.gtI_go ?_ | with_reducible refine Go.geI_go ?_ | with_reducible refine Go.eqI_go ?_ | with_reducible refine Go.neI_go ?_ | with_reducible refine Go.eqS_go ?_ | with_reducible refine Go.rng1_go ?_ | ((first | with_reducible apply Go.ixL_go | with_reducible apply Go.ixT_go); first | exact DL.at0 _ _ | exact DL.at1 _ _ _ | exact DL.at2 _ _ _ _ | exact DL.at3 _ _ _ _ _ | exact DL.at4 _ _ _ _ _ _) | ((with_reducible apply Go.frz_go); exact rfl) | ((with_reducible apply Go.frz_sh); exact rfl) | with_reducible refine Go.mn_go ?_ | with_reducible refine Go.andV_go ?_ | ((first | with_reducible apply Go.sqT_go | with_reducible apply Go.sqL_go); exact rfl) | with_reducible refine Go.gsC_go ?_ | with_reducible refine Go.gsN_go ?_ | with_reducible refine Go.ifT (by decide +kernel) ?_ | with_reducible refine Go.ifF (by decide +kernel) ?_ | with_reducible refine Go.cat_go ?_ | with_reducible refine Go.callO_go ?_ | ((with_reducible apply Go.retO_go); exact rfl) | with_reducible refine Go.retN_go ?_ | with_reducible refine Go.ifN_go ?_ | with_reducible refine Go.yes_go ?_ | with_reducible refine Go.isI_go ?_ | with_reducible refine Go.isB_go ?_ | with_reducible refine Go.isN_go ?_ | with_reducible refine Go.notN_go ?_ | with_reducible refine Go.lrev_go ?_ | with_reducible refine Go.bk_go ?_ | with_reducible refine Go.ct_go ?_ | with_reducible refine Go.rng2_go ?_ | with_reducible refine Go.orV_go ?_ | with_reducible refine Go.notV_go ?_ | ((with_reducible apply Go.extT_go); exact rfl) | with_reducible refine Go.isI2_go ?_ | with_reducible refine Go.dict2_go ?_ | with_reducible refine Go.callE_go ?_ | with_reducible refine Go.callEK_go ?_ | with_reducible refine Go.raise0_go ?_ | with_reducible refine Go.raise1_go ?_ | ((with_reducible apply Go.is1_go); exact rfl) | ((with_reducible apply Go.isT_go); exact rfl) | ((with_reducible apply Go.fld_go); exact rfl) | ((with_reducible apply Go.setIx_go); exact rfl) | unfold fForS | unfold fLc | dsimp only [seqOf, List.set_cons_zero, List.set_cons_succ, setAll, wipeE])))
theorem nt_of {e : D} (h : ∀ es, e ≠ .tuple es) : ∀ ds, e = .tuple ds → ∀ x ∈ ds, Wi x := fun ds z => absurd z (h ds)
theorem some_v : ∀ d ∈ ([.none, .bool true, .int 0, .str "01", .str "form", .list [], .dict [], .dict [(.int 0, .tuple [.int 0]), (.int 1, .tuple [.int 1])], .tuple [.int 0, .int 1], .tuple [.tuple [.int 0], .int 1], .list [.tuple [.int 0], .tuple [.int 1]]] : List D), Vv d := fun d hd => by
  simp only [List.mem_cons, List.not_mem_nil, or_false] at hd
  have o0 : Ov (.int 0) := ov_int (.inl rfl)
  have o1 : Ov (.int 1) := ov_int (.inr rfl)
  have t0 : Ov (.tuple [.int 0]) := ov_tup (Nv.one (ni_bit (.inl rfl))) (by decide)
  have t1 : Ov (.tuple [.int 1]) := ov_tup (Nv.one (ni_bit (.inr rfl))) (by decide)
  rcases hd with rfl | rfl | rfl | rfl | rfl | rfl | rfl | rfl | rfl | rfl | rfl
  · exact ⟨⟨rfl, by decide +kernel, by decide +kernel⟩, nt_of (fun _ h => nomatch h)⟩
  · exact ⟨⟨rfl, by decide +kernel, by decide +kernel⟩, nt_of (fun _ h => nomatch h)⟩
  · exact ⟨⟨rfl, by decide +kernel, by decide +kernel⟩, nt_of (fun _ h => nomatch h)⟩
  · exact ⟨⟨rfl, by decide +kernel, by decide +kernel⟩, nt_of (fun _ h => nomatch h)⟩
  · exact ⟨⟨rfl, by decide +kernel, by decide +kernel⟩, nt_of (fun _ h => nomatch h)⟩
  · exact ⟨⟨rfl, by decide +kernel, by decide +kernel⟩, nt_of (fun _ h => nomatch h)⟩
  · exact ⟨⟨rfl, by decide +kernel, by decide +kernel⟩, nt_of (fun _ h => nomatch h)⟩
  · exact ⟨⟨by decide +kernel, by decide +kernel, by decide +kernel⟩, nt_of (fun _ h => nomatch h)⟩
  · exact vv2 o0 o1
  · exact vv2 t0 o1
  · exact vvl2 t0 t1
theorem snoc {vs : List D} {d : D} {n : Nat} (h : ∀ v ∈ vs, Vv v) (l : vs.length = n) (k : Vv d) : (∀ v ∈ vs ++ [d], Vv v) ∧ (vs ++ [d]).length = n + 1 :=
  ⟨fun v hv => (List.mem_append.mp hv).elim (h v) (fun hv => by rw [List.mem_singleton.mp hv]; exact k), by rw [List.length_append, l]; rfl⟩
theorem nxl {K : Env → Prop} {E : En} {ρ : Env} (h : K ρ) : (loopE K E).nx ρ := h
theorem for_one {g : GT} {body : SS} {d : D} {ds : List D} {E : En} {ρ : Env} (h : g d ρ fun ρ' => body (loopE (fFor g body ds E) E) ρ') : fFor g body (d :: ds) E ρ := h
theorem for_no {g : GT} {body : SS} {E : En} {ρ : Env} (h : E.nx ρ) : fFor g body [] E ρ := h
theorem r__law_are_errors_right : ∀ ss (Q : D → Prop), S__law_are_errors_right ss Q → g__law_are_errors_right (endsOf Q) (initE N__law_are_errors_right ss) := by
  rintro ss Q ⟨c, rfl, ⟨⟨b1, k1, l1⟩, b2, k2, l2⟩, hq⟩
  have b1 : Bw c.1 := b1
  have k1 : 1 ≤ c.1.length := k1
  have l1 : c.1.length ≤ 60 := l1
  have b2 : Bw c.2 := b2
  have k2 : 1 ≤ c.2.length := k2
  have l2 : c.2.length ≤ 60 := l2
  have hq : Q (.bool true) := hq
  have o1 := ov_w b1 l1
  have o2 := ov_w b2 l2
  have oc : Ov (.tuple [wdD c.1, wdD c.2]) := ov_c (ni_w60 b1 l1) (ni_w60 b2 l2)
  have o0 : Ov (.tuple []) := ov_tup (fun _ h => absurd h (by simp)) (by simp)
  show g__law_are_errors_right (endsOf Q) (initE N__law_are_errors_right [.bg, .sh (.tuple [wdD c.1, wdD c.2])])
  simp only [N__law_are_errors_right, initE, List.length_cons, List.length_nil, Nat.reduceAdd, Nat.reduceSub, List.replicate, List.cons_append, List.nil_append, List.append_nil]
  unfold g__law_are_errors_right
  get_elem_tactic_extensible
  refine ⟨by rw [sizeLine_eq]; simp, ?_⟩
  get_elem_tactic_extensible
  refine ⟨by rw [sizeLine_eq]; simp, ?_⟩
  get_elem_tactic_extensible
  refine ⟨by unfold most; simp, ?_⟩
  have hv : ∀ v ∈ ([.tuple [wdD c.1, wdD c.2], .list [wdD c.1, wdD c.2], .tuple (cutD [wdD c.1, wdD c.2] none (some 1)), .tuple ([wdD c.1, wdD c.2] ++ [wdD c.1]), .tuple ([wdD c.1, wdD c.2] ++ [.tuple []]), .tuple [], .tuple [.tuple [wdD c.1, wdD c.2]]] ++ [.tuple [.tuple [wdD c.1, wdD c.2], .tuple [wdD c.1, wdD c.2]]] : List D), Vv v := fun v hv => by
    simp only [List.mem_append, List.mem_cons, List.not_mem_nil, or_false] at hv
    rcases hv with (rfl | rfl | rfl | rfl | rfl | rfl | rfl) | rfl
    · exact vv2 o1 o2
    · exact vvl2 o1 o2
    · exact vv1 o1
    · exact vv3 o1 o2 o1
    · exact vv3 o1 o2 o0
    · exact vv_tup (fun _ h => absurd h (by simp)) (by simp)
    · exact vv1 oc
    · exact vv2 oc oc
  have lv : ([.tuple [wdD c.1, wdD c.2], .list [wdD c.1, wdD c.2], .tuple (cutD [wdD c.1, wdD c.2] none (some 1)), .tuple ([wdD c.1, wdD c.2] ++ [wdD c.1]), .tuple ([wdD c.1, wdD c.2] ++ [.tuple []]), .tuple [], .tuple [.tuple [wdD c.1, wdD c.2]]] ++ [.tuple [.tuple [wdD c.1, wdD c.2], .tuple [wdD c.1, wdD c.2]]] : List D).length = 8 := rfl
  generalize ([.tuple [wdD c.1, wdD c.2], .list [wdD c.1, wdD c.2], .tuple (cutD [wdD c.1, wdD c.2] none (some 1)), .tuple ([wdD c.1, wdD c.2] ++ [wdD c.1]), .tuple ([wdD c.1, wdD c.2] ++ [.tuple []]), .tuple [], .tuple [.tuple [wdD c.1, wdD c.2]]] ++ [.tuple [.tuple [wdD c.1, wdD c.2], .tuple [wdD c.1, wdD c.2]]] : List D) = vs at hv lv
  get_elem_tactic_extensible
  refine go_pick (by simp) (by simp) fun d hd => ?_
  have hd := some_v d hd
  refine ⟨by unfold most; omega, ?_⟩
  obtain ⟨hv, lv⟩ := snoc hv lv hd
  generalize vs ++ [d] = vs at hv lv
  clear hd
  get_elem_tactic_extensible
  have rg : RgOk 0 2 := ⟨by decide, by decide⟩
  refine ⟨rg, ?_⟩
  rw [show rng 0 ((2 : Int) - 0).toNat = [.int 0, .int 1] from rfl]
  get_elem_tactic_extensible
  refine for_one ?_
  get_elem_tactic_extensible
  refine go_odd b1 k1 l1 fun ds hds lds => ?_
  refine grow (c := c) (.inl rfl) o1 o2 21 (by decide) (fun vs s5 hv lv => ?_) ds vs _ hds hv (by omega)
  clear hds lds
  refine nxl ?_
  refine for_one ?_
  get_elem_tactic_extensible
  refine Go.ixT_go (at1 _ _ _) ?_
  get_elem_tactic_extensible
  refine go_odd b2 k2 l2 fun ds hds lds => ?_
  refine grow (c := c) (.inr rfl) o1 o2 33 (by decide) (fun vs s5 hv lv => ?_) ds vs _ hds hv (by omega)
  clear hds lds
  refine nxl ?_
  refine for_no ?_
  get_elem_tactic_extensible
  refine Go.ixT_go (at0 _ _) ?_
  get_elem_tactic_extensible
  refine go_odd b1 k1 l1 fun ds hds lds => ?_
  have ne : ds ≠ [] := by rintro rfl; simp at lds
  get_elem_tactic_extensible
  refine go_pick ne (by omega) fun p hp => ?_
  get_elem_tactic_extensible
  refine go_pick ne (by omega) fun q hq' => ?_
  get_elem_tactic_extensible
  refine ⟨by unfold most; omega, ?_⟩
  obtain ⟨hv, lv⟩ := snoc hv lv (vv2 (hds _ hp) (hds _ hq'))
  generalize vs ++ [PyData.tuple [p, q]] = vs at hv lv
  clear hp hq'
  get_elem_tactic_extensible
  refine go_pick ne (by omega) fun p hp => ?_
  get_elem_tactic_extensible
  refine go_pick ne (by omega) fun q hq' => ?_
  get_elem_tactic_extensible
  refine Go.ixT_go (at1 _ _ _) ?_
  get_elem_tactic_extensible
  refine ⟨by unfold most; omega, ?_⟩
  obtain ⟨hv, lv⟩ := snoc hv lv (vv3 (hds _ hp) (hds _ hq') o2)
  generalize vs ++ [PyData.tuple [p, q, wdD c.2]] = vs at hv lv
  clear hp hq'
  get_elem_tactic_extensible
  refine go_pick ne (by omega) fun p hp => ?_
  get_elem_tactic_extensible
  refine Go.ixT_go (at1 _ _ _) ?_
  get_elem_tactic_extensible
  refine ⟨by unfold most; omega, ?_⟩
  obtain ⟨hv, lv⟩ := snoc hv lv (vvl2 (hds _ hp) o2)
  generalize vs ++ [PyData.list [p, wdD c.2]] = vs at hv lv
  clear hp
  get_elem_tactic_extensible
  refine er_turns (c := c) (fun _ _ _ _ _ => ?_) vs hv _ _ _ _ _
  get_elem_tactic_extensible
  exact hq
theorem go_errs {c : Ch} {Q : D → Prop} (b1 : Bw c.1) (k1 : 1 ≤ c.1.length) (l1 : c.1.length ≤ 60) (b2 : Bw c.2) (k2 : 1 ≤ c.2.length) (l2 : c.2.length ≤ 60) (hq : Q (.bool true)) : S__law_are_errors_right [.bg, cC c] Q := ⟨c, rfl, ⟨⟨b1, k1, l1⟩, b2, k2, l2⟩, hq⟩
end T
end DL
namespace DL
namespace T
open PySem L2 PySem.Spec PyProof.Rows
local macro_rules
  | `(tactic| get_elem_tactic_extensible) => `(tactic| (repeat (first | with_reducible refine Go.lc_go ?_ | with_reducible refine Go.ln_go ?_ | ((with_reducible apply Go.v_sh); exact rfl) | ((with_reducible apply Go.n_sh); exact rfl) | ((with_reducible apply Go.n_ow); exact rfl) | ((with_reducible apply Go.ab_go); exact rfl) | ((with_reducible apply Go.app_go); exact rfl) | ((with_reducible apply Go.ext_go); exact rfl) | with_reducible refine Go.c_go ?_ | with_reducible refine Go.tup_go ?_ | with_reducible refine Go.nv_go ?_ | with_reducible refine Go.bin_go ?_ | with_reducible refine Go.slT_go ?_ | with_reducible refine Go.slL_go ?_ | with_reducible refine Go.on_go ?_ | with_reducible refine Go.os_go ?_ | with_reducible refine Go.neg_go ?_ | with_reducible refine Go.sub_go ?_ | with_reducible refine Go.addI_go ?_ | with_reducible refine Go.seqT_go ?_ | with_reducible refine Go.call_go ?_ | with_reducible refine Go.callK_go ?_ | with_reducible refine Go.cb_go ?_ | with_reducible refine Go.dict1_go ?_ | with_reducible refine Go.if_go ?_ | with_reducible refine Go.an_go ?_ | with_reducible refine Go.ac_go ?_ | with_reducible refine Go.mv_go ?_ | with_reducible refine Go.par_go ?_ | with_reducible refine Go.sq_go ?_ | with_reducible refine Go.set_go ?_ | with_reducible refine Go.setN_go ?_ | with_reducible refine Go.ret_go ?_ | with_reducible refine Go.asg_go ?_ | with_reducible refine Go.ifs_go ?_ | with_reducible refine Go.next_go ?_ | with_reducible refine Go.nm_go ?_ | with_reducible refine Go.cmp_go ?_ | with_reducible refine Go.tv_go ?_ | with_reducible refine Go.not_go ?_ | with_reducible refine Go.and_go ?_ | with_reducible refine Go.or_go ?_ | with_reducible refine Go.lenT_go ?_ | with_reducible refine Go.lenL_go ?_ | with_reducible refine Go.absI_go ?_ | with_reducible refine Go.intI_go ?_ | with_reducible refine Go.max2_go ?_ | with_reducible refine Go.min2_go ?_ | with_reducible refine Go.tupL_go ?_ | with_reducible refine Go.tupT_go ?_ | with_reducible refine Go.gv_go ?_ | with_reducible refine Go.ltI_go ?_ | with_reducible refine Go.leI_go ?_ | with_reducible refine Go.gtI_go ?_ | with_reducible refine Go.geI_go ?_ | with_reducible refine Go.eqI_go ?_ | with_reducible refine Go.neI_go ?_ | with_reducible refine Go.eqS_go ?_ | with_reducible refine Go.rng1_go ?_ | ((first | with_reducible apply Go.ixL_go | with_reducible apply Go.ixT_go); first | exact DL.at0 _ _ | exact DL.at1 _ _ _ | exact DL.at2 _ _ _ _ | exact DL.at3 _ _ _ _ _ | exact DL.at4 _ _ _ _ _ _) | ((with_reducible apply Go.frz_go); exact rfl) | ((with_reducible apply Go.frz_sh); exact rfl) | with_reducible refine Go.mn_go ?_ | with_reducible refine Go.andV_go ?_ | ((first | with_reducible apply Go.sqT_go | with_reducible apply Go.sqL_go); exact rfl) | with_reducible refine Go.gsC_go ?_ | with_reducible refine Go.gsN_go ?_ | with_reducible refine Go.ifT (by decide +kernel) ?_ | with_reducible refine Go.ifF (by decide +kernel) ?_ | with_reducible refine Go.cat_go ?_ | with_reducible refine Go.callO_go ?_ | ((with_reducible apply Go.retO_go); exact rfl) | with_reducible refine Go.retN_go ?_ | with_reducible refine Go.ifN_go ?_ | with_reducible refine Go.yes_go ?_ | with_reducible refine Go.isI_go ?_ | with_reducible refine Go.isB_go ?_ | with_reducible refine Go.isN_go ?_ | with_reducible refine Go.notN_go ?_ | with_reducible refine Go.lrev_go ?_ | with_reducible refine Go.bk_go ?_ | with_reducible refine Go.ct_go ?_ | with_reducible refine Go.rng2_go ?_ | with_reducible refine Go.orV_go ?_ | with_reducible refine Go.notV_go ?_ | ((with_reducible apply Go.extT_go); exact rfl) | with_reducible refine Go.isI2_go ?_ | with_reducible refine Go.dict2_go ?_ | with_reducible refine Go.callE_go ?_ | with_reducible refine Go.callEK_go ?_ | with_reducible refine Go.raise0_go ?_ | with_reducible refine Go.raise1_go ?_ | ((with_reducible apply Go.is1_go); exact rfl) | ((with_reducible apply Go.isT_go); exact rfl) | ((with_reducible apply Go.fld_go); exact rfl) | ((with_reducible apply Go.setIx_go); exact rfl) | unfold fForS | unfold fLc | dsimp only [seqOf, List.set_cons_zero, List.set_cons_succ, setAll, wipeE])))
structure Cx (c : Ch) : Prop where
  b1 : Bw c.1
  k1 : 1 ≤ c.1.length
  l1 : c.1.length ≤ 60
  b2 : Bw c.2
  k2 : 1 ≤ c.2.length
  l2 : c.2.length ≤ 60
theorem Cx.v {c : Ch} (h : Cx c) : Cv c := cv60 h.b1 h.l1 h.b2 h.l2
theorem go_chg {n : Nat} {Q : D → Prop} (h1 : 1 ≤ n) (h2 : n ≤ 60) (hq : ∀ c : Ch, Cx c → Q (chD c)) : S__law_own_change [.bg, iS (n : Int)] Q := ⟨n, rfl, ⟨h1, h2⟩, fun c ⟨⟨a, b, d⟩, e, f, g⟩ => hq c ⟨a, b, by omega, e, f, by omega⟩⟩
theorem ni_three {x y z : Ch} (hx : Cx x) (hy : Cx y) (hz : Cx z) : Ni 3 8000000 (.list [chD x, chD y, chD z]) := (Ni.list (.cons (ni_ch hx.v) (.cons (ni_ch hy.v) (.cons (ni_ch hz.v) (NiA.nil (w := 0)))))).le (by decide) (by decide)
def Ww (ds : List D) : Prop := ∀ d ∈ ds, ∃ w : Wo, d = wdD w ∧ Wv w
theorem lw1 {x y z : Ch} (hx : Cx x) (hy : Cx y) (hz : Cx z) {E : En} {s2 s6 s7 s11 s12 s13 : Sl} (last : ∀ s8 s9 s10, E.nx [.un, .bg, s2, cC x, cC y, cC z, s6, s7, s8, s9, s10, s11, s12, s13]) (ds : List D) (h : Ww ds) (s8 s9 s10 : Sl) :
    fFor (gSq 2 (gsCons (gNm 8) (gsCons (gNm 9) gsNil))) (fForS (fSeq (fNV (fLC (fV 3) (fLC (fV 4) (fLC (fV 5) fLN))))) (gNm 10) (fIfS (fNot (fTV (fCall S__law_is_put_right (fAC (fV 10) (fAC (fV 9) (fAC (fBin (gv gEq) (fBin gMod (fCB bInt (fLC (fN 8) fLN)) (fC (.int 2))) (fC (.int 0))) fAN)))))) (fRet (fC (.bool false))) fNext)) (enumD 0 ds) E [.un, .bg, s2, cC x, cC y, cC z, s6, s7, s8, s9, s10, s11, s12, s13] := by
  refine for_of (fun es ρ => ∃ (k : Nat) (ds : List D) (s8 s9 s10 : Sl), es = enumD k ds ∧ ρ = [.un, .bg, s2, cC x, cC y, cC z, s6, s7, s8, s9, s10, s11, s12, s13] ∧ Ww ds) ?_ ?_ _ _ ⟨0, ds, s8, s9, s10, rfl, rfl, h⟩
  · rintro d es ρ ⟨k, ds, s8, s9, s10, he, rfl, h⟩ K hK
    cases ds with
    | nil => cases he
    | cons v ds =>
      cases he
      obtain ⟨w, rfl, hw⟩ := h v List.mem_cons_self
      get_elem_tactic_extensible
      refine for_one ?_
      get_elem_tactic_extensible
      refine Go.modI_go (by decide) ?_
      get_elem_tactic_extensible
      refine go_put_right hx.v hw ?_
      get_elem_tactic_extensible
      refine nxl ?_
      refine for_one ?_
      get_elem_tactic_extensible
      refine Go.modI_go (by decide) ?_
      get_elem_tactic_extensible
      refine go_put_right hy.v hw ?_
      get_elem_tactic_extensible
      refine nxl ?_
      refine for_one ?_
      get_elem_tactic_extensible
      refine Go.modI_go (by decide) ?_
      get_elem_tactic_extensible
      refine go_put_right hz.v hw ?_
      get_elem_tactic_extensible
      refine nxl ?_
      refine for_no ?_
      refine nxl ?_
      exact hK _ ⟨k + 1, ds, _, _, _, rfl, rfl, fun e he => h e (List.mem_cons_of_mem _ he)⟩
  · rintro ρ ⟨k, ds, s8, s9, s10, he, rfl, h⟩
    exact last _ _ _
theorem lw3 {x y z : Ch} (hx : Cx x) (hy : Cx y) (hz : Cx z) {E : En} {s2 s6 s7 s8 s10 s11 s12 s13 : Sl} (last : ∀ s9, E.nx [.un, .bg, s2, cC x, cC y, cC z, s6, s7, s8, s9, s10, s11, s12, s13]) (ds : List D) (h : Ww ds) (s9 : Sl) :
    fFor (gNm 9) (fIfS (fOr (fNot (fTV (fCall S__law_are_ways_right (fAC (fV 3) (fAC (fV 4) (fAC (fV 9) fAN)))))) (fNot (fTV (fCall S__law_are_ways_right (fAC (fV 4) (fAC (fV 5) (fAC (fV 9) fAN))))))) (fRet (fC (.bool false))) fNext) ds E [.un, .bg, s2, cC x, cC y, cC z, s6, s7, s8, s9, s10, s11, s12, s13] := by
  refine for_of (fun ds ρ => ∃ (s9 : Sl), ρ = [.un, .bg, s2, cC x, cC y, cC z, s6, s7, s8, s9, s10, s11, s12, s13] ∧ Ww ds) ?_ ?_ _ _ ⟨s9, rfl, h⟩
  · rintro d ds ρ ⟨s9, rfl, h⟩ K hK
    obtain ⟨w, rfl, hw⟩ := h d List.mem_cons_self
    get_elem_tactic_extensible
    refine go_ways hx.v hy.v hw ?_
    get_elem_tactic_extensible
    refine go_ways hy.v hz.v hw ?_
    get_elem_tactic_extensible
    exact hK _ ⟨_, rfl, fun e he => h e (List.mem_cons_of_mem _ he)⟩
  · rintro ρ ⟨s9, rfl, h⟩
    exact last _
theorem lw4 {x y z t : Ch} (ht : Cx t) {E : En} {s2 s6 s7 s8 s9 s11 s12 s13 : Sl} (last : ∀ s13, E.nx [.un, .bg, s2, cC x, cC y, cC z, s6, s7, s8, s9, cC t, s11, s12, s13]) :
    (fSeqS (fSet 13 (fCallK S_change_table [0] (fAC (fV 10) fAN))) (fIfS (fOr (fNot (fTV (fCall S__law_is_same (fAC (fV 13) (fAC (fCall S__law_table (fAC (fV 10) fAN)) fAN))))) (fNot (fTV (fCall S__law_are_errors_right (fAB 1 (fAC (fV 10) fAN)))))) (fRet (fC (.bool false))) fNext)) E [.un, .bg, s2, cC x, cC y, cC z, s6, s7, s8, s9, cC t, s11, s12, s13] := by
  have w1 : Own 5 (t4D (tb t)) := own_t4 _ 3
  have tv := tb_tv ht.v
  have w2 : Ni 20 8000000 (t4D (tb t)) := (ni_t4 (tv.1.le (by decide)) (tv.2.1.le (by decide)) (tv.2.2.1.le (by decide)) (tv.2.2.2.le (by decide))).le (by decide) (by decide)
  get_elem_tactic_extensible
  refine go_ctable ht.v ?_
  get_elem_tactic_extensible
  refine go_ltable ht.v ?_
  get_elem_tactic_extensible
  refine go_same w1 w2 ?_
  get_elem_tactic_extensible
  refine go_errs ht.b1 ht.k1 ht.l1 ht.b2 ht.k2 ht.l2 ?_
  get_elem_tactic_extensible
  exact last _
end T
end DL
namespace DL
namespace T
open PySem L2 PySem.Spec PyProof.Rows
local macro_rules
  | `(tactic| get_elem_tactic_extensible) => `(tactic| (repeat (first | with_reducible refine Go.lc_go ?_ | with_reducible refine Go.ln_go ?_ | ((with_reducible apply Go.v_sh); exact rfl) | ((with_reducible apply Go.n_sh); exact rfl) | ((with_reducible apply Go.n_ow); exact rfl) | ((with_reducible apply Go.ab_go); exact rfl) | ((with_reducible apply Go.app_go); exact rfl) | ((with_reducible apply Go.ext_go); exact rfl) | with_reducible refine Go.c_go ?_ | with_reducible refine Go.tup_go ?_ | with_reducible refine Go.nv_go ?_ | with_reducible refine Go.bin_go ?_ | with_reducible refine Go.slT_go ?_ | with_reducible refine Go.slL_go ?_ | with_reducible refine Go.on_go ?_ | with_reducible refine Go.os_go ?_ | with_reducible refine Go.neg_go ?_ | with_reducible refine Go.sub_go ?_ | with_reducible refine Go.addI_go ?_ | with_reducible refine Go.seqT_go ?_ | with_reducible refine Go.call_go ?_ | with_reducible refine Go.callK_go ?_ | with_reducible refine Go.cb_go ?_ | with_reducible refine Go.dict1_go ?_ | with_reducible refine Go.if_go ?_ | with_reducible refine Go.an_go ?_ | with_reducible refine Go.ac_go ?_ | with_reducible refine Go.mv_go ?_ | with_reducible refine Go.par_go ?_ | with_reducible refine Go.sq_go ?_ | with_reducible refine Go.set_go ?_ | with_reducible refine Go.setN_go ?_ | with_reducible refine Go.ret_go ?_ | with_reducible refine Go.asg_go ?_ | with_reducible refine Go.ifs_go ?_ | with_reducible refine Go.next_go ?_ | with_reducible refine Go.nm_go ?_ | with_reducible refine Go.cmp_go ?_ | with_reducible refine Go.tv_go ?_ | with_reducible refine Go.not_go ?_ | with_reducible refine Go.and_go ?_ | with_reducible refine Go.or_go ?_ | with_reducible refine Go.lenT_go ?_ | with_reducible refine Go.lenL_go ?_ | with_reducible refine Go.absI_go ?_ | with_reducible refine Go.intI_go ?_ | with_reducible refine Go.max2_go ?_ | with_reducible refine Go.min2_go ?_ | with_reducible refine Go.tupL_go ?_ | with_reducible refine Go.tupT_go ?_ | with_reducible refine Go.gv_go ?_ | with_reducible refine Go.ltI_go ?_ | with_reducible refine Go.leI_go ?_ | with_reducible refine Go.gtI_go ?_ | with_reducible refine Go.geI_go ?_ | with_reducible refine Go.eqI_go ?_ | with_reducible refine Go.neI_go ?_ | with_reducible refine Go.eqS_go ?_ | with_reducible refine Go.rng1_go ?_ | ((first | with_reducible apply Go.ixL_go | with_reducible apply Go.ixT_go); first | exact DL.at0 _ _ | exact DL.at1 _ _ _ | exact DL.at2 _ _ _ _ | exact DL.at3 _ _ _ _ _ | exact DL.at4 _ _ _ _ _ _) | ((with_reducible apply Go.frz_go); exact rfl) | ((with_reducible apply Go.frz_sh); exact rfl) | with_reducible refine Go.mn_go ?_ | with_reducible refine Go.andV_go ?_ | ((first | with_reducible apply Go.sqT_go | with_reducible apply Go.sqL_go); exact rfl) | with_reducible refine Go.gsC_go ?_ | with_reducible refine Go.gsN_go ?_ | with_reducible refine Go.ifT (by decide +kernel) ?_ | with_reducible refine Go.ifF (by decide +kernel) ?_ | with_reducible refine Go.cat_go ?_ | with_reducible refine Go.callO_go ?_ | ((with_reducible apply Go.retO_go); exact rfl) | with_reducible refine Go.retN_go ?_ | with_reducible refine Go.ifN_go ?_ | with_reducible refine Go.yes_go ?_ | with_reducible refine Go.isI_go ?_ | with_reducible refine Go.isB_go ?_ | with_reducible refine Go.isN_go ?_ | with_reducible refine Go.notN_go ?_ | with_reducible refine Go.lrev_go ?_ | with_reducible refine Go.bk_go ?_ | with_reducible refine Go.ct_go ?_ | with_reducible refine Go.rng2_go ?_ | with_reducible refine Go.orV_go ?_ | with_reducible refine Go.notV_go ?_ | ((with_reducible apply Go.extT_go); exact rfl) | with_reducible refine Go.isI2_go ?_ | with_reducible refine Go.dict2_go ?_ | with_reducible refine Go.callE_go ?_ | with_reducible refine Go.callEK_go ?_ | with_reducible refine Go.raise0_go ?_ | with_reducible refine Go.raise1_go ?_ | ((with_reducible apply Go.is1_go); exact rfl) | ((with_reducible apply Go.isT_go); exact rfl) | ((with_reducible apply Go.fld_go); exact rfl) | ((with_reducible apply Go.setIx_go); exact rfl) | unfold fForS | unfold fLc | dsimp only [seqOf, List.set_cons_zero, List.set_cons_succ, setAll, wipeE])))
theorem enumL_go {fa : SE} {ρ : Env} {Q : List D → Prop} (h : fa ρ fun d => match d with | .list ds => Q (enumD 0 ds) | _ => False) : fEnum fa ρ Q := h
theorem law3 {x y z : Ch} (hx : Cx x) (hy : Cx y) (hz : Cx z) {E : En} {s2 s8 s9 s10 s11 s12 s13 : Sl} {kp : Str} (hk : PyData.shown (.list [chD x, chD y, chD z]) = kp) {ds : List D} {w3 : Wo} (a3 : atI ds 3 = some (wdD w3)) (hw3 : Wv w3) (hE : E.rt (.bool true)) :
    (fSeqS (fIfS (fOr (fNot (fTV (fCall S__law_is_behind_right (fAC (fV 3) (fAC (fV 4) (fAC (fC (.bool true)) fAN)))))) (fNot (fTV (fCall S__law_is_put_right (fAC (fV 3) (fAC (fBin gIx (fN 7) (fC (.int 3))) (fAC (fC (.bool false)) fAN))))))) (fRet (fC (.bool false))) fNext) (fRet (fBin (gv gEq) (fCB bReprA (fLC (fNV (fLC (fV 3) (fLC (fV 4) (fLC (fV 5) fLN)))) fLN)) (fN 6)))) E [.un, .bg, s2, cC x, cC y, cC z, .sh (.str kp), .sh (.list ds), s8, s9, s10, s11, s12, s13] := by
  get_elem_tactic_extensible
  refine go_behind_right hx.v hy.v ?_
  get_elem_tactic_extensible
  refine Go.ixL_go a3 ?_
  get_elem_tactic_extensible
  refine go_put_right hx.v hw3 ?_
  get_elem_tactic_extensible
  refine (ni_three hx hy hz).reprA (by decide) (by decide) ?_
  rw [hk]
  get_elem_tactic_extensible
  rw [decide_eq_true rfl]
  exact hE
theorem law2 {x y z : Ch} (hx : Cx x) (hy : Cx y) (hz : Cx z) {E : En} {s2 s8 s9 s10 s11 s12 s13 : Sl} {kp : Str} (hk : PyData.shown (.list [chD x, chD y, chD z]) = kp) (ds : List D) (h : Ww ds) {e3 : D} (a3 : atI ds 3 = some e3) (hE : E.rt (.bool true)) :
    (fSeqS (fFrz 7 (fForS (fEnum (fV 7)) (gSq 2 (gsCons (gNm 8) (gsCons (gNm 9) gsNil))) (fForS (fSeq (fNV (fLC (fV 3) (fLC (fV 4) (fLC (fV 5) fLN))))) (gNm 10) (fIfS (fNot (fTV (fCall S__law_is_put_right (fAC (fV 10) (fAC (fV 9) (fAC (fBin (gv gEq) (fBin gMod (fCB bInt (fLC (fN 8) fLN)) (fC (.int 2))) (fC (.int 0))) fAN)))))) (fRet (fC (.bool false))) fNext)))) (fSeqS (fForS (fEnum (fNV (fLC (fTup (fLC (fV 3) (fLC (fV 4) fLN))) (fLC (fTup (fLC (fV 4) (fLC (fV 5) fLN))) (fLC (fTup (fLC (fV 5) (fLC (fV 3) fLN))) (fLC (fTup (fLC (fV 4) (fLC (fV 3) fLN))) (fLC (fTup (fLC (fV 3) (fLC (fV 3) fLN))) fLN))))))) (gSq 2 (gsCons (gNm 8) (gsCons (gSq 2 (gsCons (gNm 11) (gsCons (gNm 12) gsNil))) gsNil))) (fIfS (fNot (fTV (fCall S__law_is_behind_right (fAC (fV 11) (fAC (fV 12) (fAC (fBin (gv gEq) (fBin gMod (fCB bInt (fLC (fN 8) fLN)) (fC (.int 2))) (fC (.int 0))) fAN)))))) (fRet (fC (.bool false))) fNext)) (fSeqS (fFrz 7 (fForS (fSeq (fV 7)) (gNm 9) (fIfS (fOr (fNot (fTV (fCall S__law_are_ways_right (fAC (fV 3) (fAC (fV 4) (fAC (fV 9) fAN)))))) (fNot (fTV (fCall S__law_are_ways_right (fAC (fV 4) (fAC (fV 5) (fAC (fV 9) fAN))))))) (fRet (fC (.bool false))) fNext))) (fSeqS (fForS (fSeq (fNV (fLC (fV 3) (fLC (fV 5) fLN)))) (gNm 10) (fSeqS (fSet 13 (fCallK S_change_table [0] (fAC (fV 10) fAN))) (fIfS (fOr (fNot (fTV (fCall S__law_is_same (fAC (fV 13) (fAC (fCall S__law_table (fAC (fV 10) fAN)) fAN))))) (fNot (fTV (fCall S__law_are_errors_right (fAB 1 (fAC (fV 10) fAN)))))) (fRet (fC (.bool false))) fNext))) (fSeqS (fIfS (fAnd (fCmp gEq (fCall S__law_draw (fAB 1 (fAC (fC (.int 3)) fAN))) (fC (.int 0))) (fNot (fTV (fCall S__law_are_limits_right (fAB 1 fAN))))) (fRet (fC (.bool false))) fNext) (fSeqS (fIfS (fOr (fNot (fTV (fCall S__law_is_behind_right (fAC (fV 3) (fAC (fV 4) (fAC (fC (.bool true)) fAN)))))) (fNot (fTV (fCall S__law_is_put_right (fAC (fV 3) (fAC (fBin gIx (fN 7) (fC (.int 3))) (fAC (fC (.bool false)) fAN))))))) (fRet (fC (.bool false))) fNext) (fRet (fBin (gv gEq) (fCB bReprA (fLC (fNV (fLC (fV 3) (fLC (fV 4) (fLC (fV 5) fLN)))) fLN)) (fN 6))))))))) E [.un, .bg, s2, cC x, cC y, cC z, .sh (.str kp), .ow ds, s8, s9, s10, s11, s12, s13] := by
  obtain ⟨w3, rfl, hw3⟩ : ∃ w : Wo, e3 = wdD w ∧ Wv w := by
    obtain ⟨j, _, h2, _⟩ := atI_get a3
    exact h _ (List.mem_of_getElem? h2)
  get_elem_tactic_extensible
  refine lw1 hx hy hz (fun s8 s9 s10 => ?_) ds h _ _ _
  get_elem_tactic_extensible
  refine enumL_go ?_
  get_elem_tactic_extensible
  refine for_one ?_
  get_elem_tactic_extensible
  refine Go.modI_go (by decide) ?_
  get_elem_tactic_extensible
  refine go_behind_right hx.v hy.v ?_
  get_elem_tactic_extensible
  refine nxl ?_
  refine for_one ?_
  get_elem_tactic_extensible
  refine Go.modI_go (by decide) ?_
  get_elem_tactic_extensible
  refine go_behind_right hy.v hz.v ?_
  get_elem_tactic_extensible
  refine nxl ?_
  refine for_one ?_
  get_elem_tactic_extensible
  refine Go.modI_go (by decide) ?_
  get_elem_tactic_extensible
  refine go_behind_right hz.v hx.v ?_
  get_elem_tactic_extensible
  refine nxl ?_
  refine for_one ?_
  get_elem_tactic_extensible
  refine Go.modI_go (by decide) ?_
  get_elem_tactic_extensible
  refine go_behind_right hy.v hx.v ?_
  get_elem_tactic_extensible
  refine nxl ?_
  refine for_one ?_
  get_elem_tactic_extensible
  refine Go.modI_go (by decide) ?_
  get_elem_tactic_extensible
  refine go_behind_right hx.v hx.v ?_
  get_elem_tactic_extensible
  refine nxl ?_
  refine for_no ?_
  get_elem_tactic_extensible
  refine lw3 hx hy hz (fun s9 => ?_) ds h _
  get_elem_tactic_extensible
  refine for_one ?_
  refine lw4 hx (fun s13 => ?_)
  refine nxl ?_
  refine for_one ?_
  refine lw4 hz (fun s13 => ?_)
  refine nxl ?_
  refine for_no ?_
  get_elem_tactic_extensible
  refine go_dr 3 (by decide) (by decide) fun r r0 r1 => ?_
  get_elem_tactic_extensible
  refine Go.ifd (fun hh => ?_) (fun hh => ?_)
  · get_elem_tactic_extensible
    refine ⟨(), rfl, trivial, ?_⟩
    get_elem_tactic_extensible
    exact law3 hx hy hz hk a3 hw3 hE
  · get_elem_tactic_extensible
    exact law3 hx hy hz hk a3 hw3 hE
end T
end DL
namespace DL
namespace T
open PySem L2 PySem.Spec PyProof.Rows
local macro_rules
  | `(tactic| get_elem_tactic_extensible) => `(tactic| (repeat (first | with_reducible refine Go.lc_go ?_ | with_reducible refine Go.ln_go ?_ | ((with_reducible apply Go.v_sh); exact rfl) | ((with_reducible apply Go.n_sh); exact rfl) | ((with_reducible apply Go.n_ow); exact rfl) | ((with_reducible apply Go.ab_go); exact rfl) | ((with_reducible apply Go.app_go); exact rfl) | ((with_reducible apply Go.ext_go); exact rfl) | with_reducible refine Go.c_go ?_ | with_reducible refine Go.tup_go ?_ | with_reducible refine Go.nv_go ?_ | with_reducible refine Go.bin_go ?_ | with_reducible refine Go.slT_go ?_ | with_reducible refine Go.slL_go ?_ | with_reducible refine Go.on_go ?_ | with_reducible refine Go.os_go ?_ | with_reducible refine Go.neg_go ?_ | with_reducible refine Go.sub_go ?_ | with_reducible refine Go.addI_go ?_ | with_reducible refine Go.seqT_go ?_ | with_reducible refine Go.call_go ?_ | with_reducible refine Go.callK_go ?_ | with_reducible refine Go.cb_go ?_ | with_reducible refine Go.dict1_go ?_ | with_reducible refine Go.if_go ?_ | with_reducible refine Go.an_go ?_ | with_reducible refine Go.ac_go ?_ | with_reducible refine Go.mv_go ?_ | with_reducible refine Go.par_go ?_ | with_reducible refine Go.sq_go ?_ | with_reducible refine Go.set_go ?_ | with_reducible refine Go.setN_go ?_ | with_reducible refine Go.ret_go ?_ | with_reducible refine Go.asg_go ?_ | with_reducible refine Go.ifs_go ?_ | with_reducible refine Go.next_go ?_ | with_reducible refine Go.nm_go ?_ | with_reducible refine Go.cmp_go ?_ | with_reducible refine Go.tv_go ?_ | with_reducible refine Go.not_go ?_ | with_reducible refine Go.and_go ?_ | with_reducible refine Go.or_go ?_ | with_reducible refine Go.lenT_go ?_ | with_reducible refine Go.lenL_go ?_ | with_reducible refine Go.absI_go ?_ | with_reducible refine Go.intI_go ?_ | with_reducible refine Go.max2_go ?_ | with_reducible refine Go.min2_go ?_ | with_reducible refine Go.tupL_go ?_ | with_reducible refine Go.tupT_go ?_ | with_reducible refine Go.gv_go ?_ | with_reducible refine Go.ltI_go ?_ | with_reducible refine Go.leI_go ?_ | with_reducible refine Go.gtI_go ?_ | with_reducible refine Go.geI_go ?_ | with_reducible refine Go.eqI_go ?_ | with_reducible refine Go.neI_go ?_ | with_reducible refine Go.eqS_go ?_ | with_reducible refine Go.rng1_go ?_ | ((first | with_reducible apply Go.ixL_go | with_reducible apply Go.ixT_go); first | exact DL.at0 _ _ | exact DL.at1 _ _ _ | exact DL.at2 _ _ _ _ | exact DL.at3 _ _ _ _ _ | exact DL.at4 _ _ _ _ _ _) | ((with_reducible apply Go.frz_go); exact rfl) | ((with_reducible apply Go.frz_sh); exact rfl) | with_reducible refine Go.mn_go ?_ | with_reducible refine Go.andV_go ?_ | ((first | with_reducible apply Go.sqT_go | with_reducible apply Go.sqL_go); exact rfl) | with_reducible refine Go.gsC_go ?_ | with_reducible refine Go.gsN_go ?_ | with_reducible refine Go.ifT (by decide +kernel) ?_ | with_reducible refine Go.ifF (by decide +kernel) ?_ | with_reducible refine Go.cat_go ?_ | with_reducible refine Go.callO_go ?_ | ((with_reducible apply Go.retO_go); exact rfl) | with_reducible refine Go.retN_go ?_ | with_reducible refine Go.ifN_go ?_ | with_reducible refine Go.yes_go ?_ | with_reducible refine Go.isI_go ?_ | with_reducible refine Go.isB_go ?_ | with_reducible refine Go.isN_go ?_ | with_reducible refine Go.notN_go ?_ | with_reducible refine Go.lrev_go ?_ | with_reducible refine Go.bk_go ?_ | with_reducible refine Go.ct_go ?_ | with_reducible refine Go.rng2_go ?_ | with_reducible refine Go.orV_go ?_ | with_reducible refine Go.notV_go ?_ | ((with_reducible apply Go.extT_go); exact rfl) | with_reducible refine Go.isI2_go ?_ | with_reducible refine Go.dict2_go ?_ | with_reducible refine Go.callE_go ?_ | with_reducible refine Go.callEK_go ?_ | with_reducible refine Go.raise0_go ?_ | with_reducible refine Go.raise1_go ?_ | ((with_reducible apply Go.is1_go); exact rfl) | ((with_reducible apply Go.isT_go); exact rfl) | ((with_reducible apply Go.fld_go); exact rfl) | ((with_reducible apply Go.setIx_go); exact rfl) | unfold fForS | unfold fLc | dsimp only [seqOf, List.set_cons_zero, List.set_cons_succ, setAll, wipeE])))
theorem law1 {x y z : Ch} (hx : Cx x) (hy : Cx y) (hz : Cx z) {E : En} {s2 : Sl} (hE : E.rt (.bool true)) :
    (fSeqS (fSet 6 (fCB bReprA (fLC (fNV (fLC (fV 3) (fLC (fV 4) (fLC (fV 5) fLN)))) fLN))) (fSeqS (fSetN 7 (fLC (fTup fLN) (fLC (fTup (fLC (fC (.int 0)) fLN)) (fLC (fTup (fLC (fC (.int 1)) fLN)) (fLC (fCall S__law_own_word (fAB 1 (fAC (fCall S__law_draw (fAB 1 (fAC (fC (.int 30)) fAN))) fAN))) (fLC (fCall S__law_own_word (fAB 1 (fAC (fCall S__law_draw (fAB 1 (fAC (fC (.int 9)) fAN))) fAN))) fLN)))))) (fSeqS (fIfS (fCmp gEq (fCall S__law_draw (fAB 1 (fAC (fC (.int 6)) fAN))) (fC (.int 0))) (fApp 7 (fCall S__law_own_word (fAB 1 (fAC (fCall S__law_pick (fAB 1 (fAC (fNV (fLC (fC (.int 500)) (fLC (fC (.int 499)) (fLC (fCall S__law_draw (fAB 1 (fAC (fC (.int 501)) fAN))) fLN)))) fAN))) fAN)))) fNext) (fSeqS (fFrz 7 (fForS (fEnum (fV 7)) (gSq 2 (gsCons (gNm 8) (gsCons (gNm 9) gsNil))) (fForS (fSeq (fNV (fLC (fV 3) (fLC (fV 4) (fLC (fV 5) fLN))))) (gNm 10) (fIfS (fNot (fTV (fCall S__law_is_put_right (fAC (fV 10) (fAC (fV 9) (fAC (fBin (gv gEq) (fBin gMod (fCB bInt (fLC (fN 8) fLN)) (fC (.int 2))) (fC (.int 0))) fAN)))))) (fRet (fC (.bool false))) fNext)))) (fSeqS (fForS (fEnum (fNV (fLC (fTup (fLC (fV 3) (fLC (fV 4) fLN))) (fLC (fTup (fLC (fV 4) (fLC (fV 5) fLN))) (fLC (fTup (fLC (fV 5) (fLC (fV 3) fLN))) (fLC (fTup (fLC (fV 4) (fLC (fV 3) fLN))) (fLC (fTup (fLC (fV 3) (fLC (fV 3) fLN))) fLN))))))) (gSq 2 (gsCons (gNm 8) (gsCons (gSq 2 (gsCons (gNm 11) (gsCons (gNm 12) gsNil))) gsNil))) (fIfS (fNot (fTV (fCall S__law_is_behind_right (fAC (fV 11) (fAC (fV 12) (fAC (fBin (gv gEq) (fBin gMod (fCB bInt (fLC (fN 8) fLN)) (fC (.int 2))) (fC (.int 0))) fAN)))))) (fRet (fC (.bool false))) fNext)) (fSeqS (fFrz 7 (fForS (fSeq (fV 7)) (gNm 9) (fIfS (fOr (fNot (fTV (fCall S__law_are_ways_right (fAC (fV 3) (fAC (fV 4) (fAC (fV 9) fAN)))))) (fNot (fTV (fCall S__law_are_ways_right (fAC (fV 4) (fAC (fV 5) (fAC (fV 9) fAN))))))) (fRet (fC (.bool false))) fNext))) (fSeqS (fForS (fSeq (fNV (fLC (fV 3) (fLC (fV 5) fLN)))) (gNm 10) (fSeqS (fSet 13 (fCallK S_change_table [0] (fAC (fV 10) fAN))) (fIfS (fOr (fNot (fTV (fCall S__law_is_same (fAC (fV 13) (fAC (fCall S__law_table (fAC (fV 10) fAN)) fAN))))) (fNot (fTV (fCall S__law_are_errors_right (fAB 1 (fAC (fV 10) fAN)))))) (fRet (fC (.bool false))) fNext))) (fSeqS (fIfS (fAnd (fCmp gEq (fCall S__law_draw (fAB 1 (fAC (fC (.int 3)) fAN))) (fC (.int 0))) (fNot (fTV (fCall S__law_are_limits_right (fAB 1 fAN))))) (fRet (fC (.bool false))) fNext) (fSeqS (fIfS (fOr (fNot (fTV (fCall S__law_is_behind_right (fAC (fV 3) (fAC (fV 4) (fAC (fC (.bool true)) fAN)))))) (fNot (fTV (fCall S__law_is_put_right (fAC (fV 3) (fAC (fBin gIx (fN 7) (fC (.int 3))) (fAC (fC (.bool false)) fAN))))))) (fRet (fC (.bool false))) fNext) (fRet (fBin (gv gEq) (fCB bReprA (fLC (fNV (fLC (fV 3) (fLC (fV 4) (fLC (fV 5) fLN)))) fLN)) (fN 6)))))))))))) E [.un, .bg, s2, cC x, cC y, cC z, .un, .un, .un, .un, .un, .un, .un, .un] := by
  get_elem_tactic_extensible
  refine (ni_three hx hy hz).reprA (by decide) (by decide) ?_
  generalize hk : PyData.shown (.list [chD x, chD y, chD z]) = kp
  get_elem_tactic_extensible
  refine go_dr 30 (by decide) (by decide) fun r r0 r1 => ?_
  get_elem_tactic_extensible
  refine go_wordI (by omega) (by omega) fun w1 b1 k1 => ?_
  get_elem_tactic_extensible
  refine go_dr 9 (by decide) (by decide) fun q q0 q1 => ?_
  get_elem_tactic_extensible
  refine go_wordI (by omega) (by omega) fun w2 b2 k2 => ?_
  get_elem_tactic_extensible
  refine go_dr 6 (by decide) (by decide) fun p p0 p1 => ?_
  get_elem_tactic_extensible
  have hw1 : Wv w1 := ⟨b1, by omega⟩
  have base : ∀ d ∈ ([wdD [], wdD [0], wdD [1], wdD w1, wdD w2] : List D), ∃ w : Wo, d = wdD w ∧ Wv w := fun d hd => by
    simp only [List.mem_cons, List.not_mem_nil, or_false] at hd
    rcases hd with rfl | rfl | rfl | rfl | rfl
    · exact ⟨_, rfl, ⟨fun _ h => absurd h (by simp), by simp⟩⟩
    · exact ⟨_, rfl, wv1 (.inl rfl)⟩
    · exact ⟨_, rfl, wv1 (.inr rfl)⟩
    · exact ⟨_, rfl, hw1⟩
    · exact ⟨_, rfl, ⟨b2, by omega⟩⟩
  refine Go.ifd (fun hh => ?_) (fun hh => ?_)
  · get_elem_tactic_extensible
    refine go_dr 501 (by decide) (by decide) fun m m0 m1 => ?_
    get_elem_tactic_extensible
    refine go_pick (by simp) (by simp) fun u hu => ?_
    obtain ⟨n, rfl, n0, n1⟩ : ∃ n : Int, u = .int n ∧ 0 ≤ n ∧ n ≤ 500 := by
      simp only [List.mem_cons, List.not_mem_nil, or_false] at hu
      rcases hu with rfl | rfl | rfl
      · exact ⟨500, rfl, by decide, by decide⟩
      · exact ⟨499, rfl, by decide, by decide⟩
      · exact ⟨m, rfl, m0, by omega⟩
    get_elem_tactic_extensible
    refine go_wordI n0 (by omega) fun w4 b4 k4 => ?_
    get_elem_tactic_extensible
    refine ⟨by unfold most; simp, ?_⟩
    get_elem_tactic_extensible
    exact law2 hx hy hz hk ([wdD [], wdD [0], wdD [1], wdD w1, wdD w2] ++ [wdD w4]) (fun d hd => (List.mem_append.mp hd).elim (base d) (fun hd => ⟨w4, List.mem_singleton.mp hd, ⟨b4, by omega⟩⟩)) (e3 := wdD w1) (atI_nat (j := 3) rfl) hE
  · get_elem_tactic_extensible
    exact law2 hx hy hz hk [wdD [], wdD [0], wdD [1], wdD w1, wdD w2] base (e3 := wdD w1) (atI_nat (j := 3) rfl) hE
theorem r_law : gLaw 12 g_law := by
  unfold gLaw
  simp only [List.replicate]
  unfold g_law
  get_elem_tactic_extensible
  refine go_pick (by simp) (by simp) fun u hu => ?_
  obtain ⟨n, rfl, n1, n2⟩ : ∃ n : Nat, u = .int (n : Int) ∧ 1 ≤ n ∧ n ≤ 60 := by
    simp only [List.mem_cons, List.not_mem_nil, or_false] at hu
    rcases hu with rfl | rfl | rfl | rfl | rfl | rfl
    · exact ⟨1, rfl, by decide, by decide⟩
    · exact ⟨3, rfl, by decide, by decide⟩
    · exact ⟨6, rfl, by decide, by decide⟩
    · exact ⟨6, rfl, by decide, by decide⟩
    · exact ⟨6, rfl, by decide, by decide⟩
    · exact ⟨60, rfl, by decide, by decide⟩
  clear hu
  get_elem_tactic_extensible
  refine go_chg n1 n2 fun x hx => ?_
  get_elem_tactic_extensible
  refine go_chg (n := 6) (by decide) (by decide) fun y hy => ?_
  get_elem_tactic_extensible
  refine go_chg (n := 3) (by decide) (by decide) fun z hz => ?_
  refine ⟨rfl, ?_⟩
  get_elem_tactic_extensible
  refine go_dr 2 (by decide) (by decide) fun r r0 r1 => ?_
  get_elem_tactic_extensible
  refine Go.ifd (fun hh => ?_) (fun hh => ?_)
  · get_elem_tactic_extensible
    refine ⟨rfl, ?_⟩
    exact law1 hy hx hz rfl
  · exact law1 hx hy hz rfl
end T
end DL
namespace DL
namespace T
open PySem L2 PySem.Spec PyProof.Rows
def top (i : Nat) : Stmt := PySem.Challenge.pw_linecuts_k11_whole_changes.main.body.getD i (.Pass ⟨0, 0, 0, 0⟩)
abbrev s_is_integer : Stmt := top 12
abbrev s_is_whole : Stmt := top 13
abbrev s_is_tuple : Stmt := top 14
abbrev s_is_any_word : Stmt := top 15
abbrev s_change_error : Stmt := top 17
abbrev s_all_put_through : Stmt := top 18
abbrev s_put_through : Stmt := top 19
abbrev s_change_behind : Stmt := top 20
abbrev s_change_table : Stmt := top 21
abbrev s__law_own_bag : Stmt := top 23
abbrev s__law_draw : Stmt := top 24
abbrev s__law_pick : Stmt := top 25
abbrev s__law_is_own : Stmt := top 26
abbrev s__law_is_same : Stmt := top 27
abbrev s__law_own_word : Stmt := top 28
abbrev s__law_own_change : Stmt := top 29
abbrev s__law_size : Stmt := top 30
abbrev s__law_put : Stmt := top 31
abbrev s__law_table : Stmt := top 32
abbrev s__law_product : Stmt := top 33
abbrev s__law_ask_put : Stmt := top 34
abbrev s__law_ask_behind : Stmt := top 35
abbrev s__law_is_put_right : Stmt := top 36
abbrev s__law_is_behind_right : Stmt := top 37
abbrev s__law_are_ways_right : Stmt := top 38
abbrev s__law_due_error : Stmt := top 39
abbrev s__law_odd_words : Stmt := top 40
abbrev s__law_are_errors_right : Stmt := top 41
abbrev s__law_at : Stmt := top 42
abbrev s__law_are_limits_right : Stmt := top 43
abbrev s_law : Stmt := top 44
structure Bl (mg : Str → Option Value) : Prop where
  isinstance : mg "isinstance" = none
  bool : mg "bool" = none
  int : mg "int" = none
  len : mg "len" = none
  tuple : mg "tuple" = none
  all : mg "all" = none
  enumerate : mg "enumerate" = none
  sum : mg "sum" = none
  abs : mg "abs" = none
  list : mg "list" = none
  reversed : mg "reversed" = none
  str : mg "str" = none
  repr : mg "repr" = none
  range : mg "range" = none
  ValueError : mg "ValueError" = none
  max : mg "max" = none
  min : mg "min" = none
  c_MAX_IMAGE : ∃ t, mg "MAX_IMAGE" = some (.int 60 t)
  c_MAX_LONGEST : ∃ t, mg "MAX_LONGEST" = some (.int 2000 t)
theorem m_is_integer : ∀ ss (Q Q' : D → Prop), (∀ d, Q d → Q' d) → S_is_integer ss Q → S_is_integer ss Q' := spE_mono
theorem l_is_integer : ∀ ss (Q : D → Prop), S_is_integer ss Q → ss.length = 1 := spE_len fun _ => rfl
theorem m_is_tuple : ∀ ss (Q Q' : D → Prop), (∀ d, Q d → Q' d) → S_is_tuple ss Q → S_is_tuple ss Q' := spE_mono
theorem l_is_tuple : ∀ ss (Q : D → Prop), S_is_tuple ss Q → ss.length = 2 := spE_len fun _ => rfl
theorem m_all_put_through : ∀ ss (Q Q' : D → Prop), (∀ d, Q d → Q' d) → S_all_put_through ss Q → S_all_put_through ss Q' := spE_mono
theorem l_all_put_through : ∀ ss (Q : D → Prop), S_all_put_through ss Q → ss.length = 2 := spE_len fun _ => rfl
theorem m_change_table : ∀ ss (Q Q' : D → Prop), (∀ d, Q d → Q' d) → S_change_table ss Q → S_change_table ss Q' := spE_mono
theorem l_change_table : ∀ ss (Q : D → Prop), S_change_table ss Q → ss.length = 1 := spE_len fun _ => rfl
theorem m__law_own_bag : ∀ ss (Q Q' : D → Prop), (∀ d, Q d → Q' d) → S__law_own_bag ss Q → S__law_own_bag ss Q' := spOwn_mono
theorem l__law_own_bag : ∀ ss (Q : D → Prop), S__law_own_bag ss Q → ss.length = 1 := spOwn_len
theorem m__law_size : ∀ ss (Q Q' : D → Prop), (∀ d, Q d → Q' d) → S__law_size ss Q → S__law_size ss Q' := spE_mono
theorem l__law_size : ∀ ss (Q : D → Prop), S__law_size ss Q → ss.length = 2 := spE_len fun _ => rfl
theorem m__law_put : ∀ ss (Q Q' : D → Prop), (∀ d, Q d → Q' d) → S__law_put ss Q → S__law_put ss Q' := spE_mono
theorem l__law_put : ∀ ss (Q : D → Prop), S__law_put ss Q → ss.length = 2 := spE_len fun _ => rfl
theorem m__law_table : ∀ ss (Q Q' : D → Prop), (∀ d, Q d → Q' d) → S__law_table ss Q → S__law_table ss Q' := spE_mono
theorem l__law_table : ∀ ss (Q : D → Prop), S__law_table ss Q → ss.length = 1 := spE_len fun _ => rfl
theorem m__law_product : ∀ ss (Q Q' : D → Prop), (∀ d, Q d → Q' d) → S__law_product ss Q → S__law_product ss Q' := spE_mono
theorem l__law_product : ∀ ss (Q : D → Prop), S__law_product ss Q → ss.length = 2 := spE_len fun _ => rfl
theorem m__law_due_error : ∀ ss (Q Q' : D → Prop), (∀ d, Q d → Q' d) → S__law_due_error ss Q → S__law_due_error ss Q' := spE_mono
theorem l__law_due_error : ∀ ss (Q : D → Prop), S__law_due_error ss Q → ss.length = 1 := spE_len fun _ => rfl
theorem m_is_whole : ∀ ss (Q Q' : D → Prop), (∀ d, Q d → Q' d) → S_is_whole ss Q → S_is_whole ss Q' := spE_mono
theorem l_is_whole : ∀ ss (Q : D → Prop), S_is_whole ss Q → ss.length = 3 := spE_len fun _ => rfl
theorem m__law_pick : ∀ ss (Q Q' : D → Prop), (∀ d, Q d → Q' d) → S__law_pick ss Q → S__law_pick ss Q' := spA_mono
theorem l__law_pick : ∀ ss (Q : D → Prop), S__law_pick ss Q → ss.length = 2 := spA_len fun _ => rfl
theorem m__law_own_word : ∀ ss (Q Q' : D → Prop), (∀ d, Q d → Q' d) → S__law_own_word ss Q → S__law_own_word ss Q' := spA_mono
theorem l__law_own_word : ∀ ss (Q : D → Prop), S__law_own_word ss Q → ss.length = 2 := spA_len fun _ => rfl
theorem m_is_any_word : ∀ ss (Q Q' : D → Prop), (∀ d, Q d → Q' d) → S_is_any_word ss Q → S_is_any_word ss Q' := spE_mono
theorem l_is_any_word : ∀ ss (Q : D → Prop), S_is_any_word ss Q → ss.length = 1 := spE_len fun _ => rfl
theorem m__law_own_change : ∀ ss (Q Q' : D → Prop), (∀ d, Q d → Q' d) → S__law_own_change ss Q → S__law_own_change ss Q' := spA_mono
theorem l__law_own_change : ∀ ss (Q : D → Prop), S__law_own_change ss Q → ss.length = 2 := spA_len fun _ => rfl
theorem m__law_ask_put : ∀ ss (Q Q' : D → Prop), (∀ d, Q d → Q' d) → S__law_ask_put ss Q → S__law_ask_put ss Q' := spE_mono
theorem l__law_ask_put : ∀ ss (Q : D → Prop), S__law_ask_put ss Q → ss.length = 3 := spE_len fun _ => rfl
theorem m__law_odd_words : ∀ ss (Q Q' : D → Prop), (∀ d, Q d → Q' d) → S__law_odd_words ss Q → S__law_odd_words ss Q' := spA_mono
theorem l__law_odd_words : ∀ ss (Q : D → Prop), S__law_odd_words ss Q → ss.length = 2 := spA_len fun _ => rfl
theorem m__law_at : ∀ ss (Q Q' : D → Prop), (∀ d, Q d → Q' d) → S__law_at ss Q → S__law_at ss Q' := spA_mono
theorem l__law_at : ∀ ss (Q : D → Prop), S__law_at ss Q → ss.length = 3 := spA_len fun _ => rfl
theorem m_change_error : ∀ ss (Q Q' : D → Prop), (∀ d, Q d → Q' d) → S_change_error ss Q → S_change_error ss Q' := spE_mono
theorem l_change_error : ∀ ss (Q : D → Prop), S_change_error ss Q → ss.length = 1 := spE_len fun _ => rfl
theorem m__law_ask_behind : ∀ ss (Q Q' : D → Prop), (∀ d, Q d → Q' d) → S__law_ask_behind ss Q → S__law_ask_behind ss Q' := spE_mono
theorem l__law_ask_behind : ∀ ss (Q : D → Prop), S__law_ask_behind ss Q → ss.length = 3 := spE_len fun _ => rfl
theorem m__law_is_same : ∀ ss (Q Q' : D → Prop), (∀ d, Q d → Q' d) → S__law_is_same ss Q → S__law_is_same ss Q' := spE_mono
theorem l__law_is_same : ∀ ss (Q : D → Prop), S__law_is_same ss Q → ss.length = 2 := spE_len fun _ => rfl
theorem m__law_is_put_right : ∀ ss (Q Q' : D → Prop), (∀ d, Q d → Q' d) → S__law_is_put_right ss Q → S__law_is_put_right ss Q' := spE_mono
theorem l__law_is_put_right : ∀ ss (Q : D → Prop), S__law_is_put_right ss Q → ss.length = 3 := spE_len fun _ => rfl
theorem m__law_is_behind_right : ∀ ss (Q Q' : D → Prop), (∀ d, Q d → Q' d) → S__law_is_behind_right ss Q → S__law_is_behind_right ss Q' := spE_mono
theorem l__law_is_behind_right : ∀ ss (Q : D → Prop), S__law_is_behind_right ss Q → ss.length = 3 := spE_len fun _ => rfl
theorem m__law_are_ways_right : ∀ ss (Q Q' : D → Prop), (∀ d, Q d → Q' d) → S__law_are_ways_right ss Q → S__law_are_ways_right ss Q' := spE_mono
theorem l__law_are_ways_right : ∀ ss (Q : D → Prop), S__law_are_ways_right ss Q → ss.length = 3 := spE_len fun _ => rfl
theorem m__law_are_errors_right : ∀ ss (Q Q' : D → Prop), (∀ d, Q d → Q' d) → S__law_are_errors_right ss Q → S__law_are_errors_right ss Q' := spE_mono
theorem l__law_are_errors_right : ∀ ss (Q : D → Prop), S__law_are_errors_right ss Q → ss.length = 2 := spE_len fun _ => rfl
theorem m__law_are_limits_right : ∀ ss (Q Q' : D → Prop), (∀ d, Q d → Q' d) → S__law_are_limits_right ss Q → S__law_are_limits_right ss Q' := spE_mono
theorem l__law_are_limits_right : ∀ ss (Q : D → Prop), S__law_are_limits_right ss Q → ss.length = 1 := spE_len fun _ => rfl
theorem sc_is_integer : FnScope N_is_integer ["value"] (defScope s_is_integer) := ⟨rfl, rfl, rfl, by decide +kernel, rfl, by decide +kernel, by decide +kernel⟩
theorem der_is_integer {P : Program} {w : World} {K : PySem.W.Frag} {mg : Str → Option Value} {base : Heap} {f : Addr} {cdv : Value} {A : Around} {outer : List PySem.Env} {s : Shared} {c : C} (bl : Bl mg) (eh : ErH P K mg)  (hG : IsLst c) (hgd : A.guards = some []) (hr : Room 0 (A.deeper (envOfC "is_integer" (defScope s_is_integer) s.heap.objs.size f cdv))) : PSsd (XX P w K mg base N_is_integer "is_integer" s_is_integer f cdv A outer s c.H0) c (defBody s_is_integer) g_is_integer := by
  have hN : (XX P w K mg base N_is_integer "is_integer" s_is_integer f cdv A outer s c.H0).N.Nodup := sc_is_integer.nd
  have hc : (XX P w K mg base N_is_integer "is_integer" s_is_integer f cdv A outer s c.H0).calm = true := rfl
  have hx : ∀ e s1, ¬ (XX P w K mg base N_is_integer "is_integer" s_is_integer f cdv A outer s c.H0).xe e s1 := fun _ _ z => z
  have hp : PassesOwn (model P w) (XX P w K mg base N_is_integer "is_integer" s_is_integer f cdv A outer s c.H0).A (XX P w K mg base N_is_integer "is_integer" s_is_integer f cdv A outer s c.H0).env (XX P w K mg base N_is_integer "is_integer" s_is_integer f cdv A outer s c.H0).xe := PassesOwn.never
  have hu : (XX P w K mg base N_is_integer "is_integer" s_is_integer f cdv A outer s c.H0).A.units + 64 < cLine := units_of hr
  have hu5 : (XX P w K mg base N_is_integer "is_integer" s_is_integer f cdv A outer s c.H0).A.units + 65 < cLine := units65 hr
  exact (ss_one (s_ret (v_and (PV.b (v_isi kit_int bl.isinstance bl.int (b_name 0))) (v_one (v_not (PV.b (v_isi kit_bool bl.isinstance bl.bool (b_name 0))))))))
theorem ok_is_integer {P : Program} {w : World} {K : PySem.W.Frag} {mg : Str → Option Value} {base : Heap} {f : Addr} {fd : FuncData} (F : Fun K "is_integer" "is_integer" s_is_integer f fd) (bl : Bl mg) (eh : ErH P K mg)  : FnG IsLst P w K mg base 1 f fd ["value"] S_is_integer :=
  fng_of F sc_is_integer m_is_integer l_is_integer fun cdv A outer s c hG hgd hr => ⟨g_is_integer, der_is_integer bl eh  hG hgd hr, r_is_integer⟩
theorem sc_is_tuple : FnScope N_is_tuple ["value", "many"] (defScope s_is_tuple) := ⟨rfl, rfl, rfl, by decide +kernel, rfl, by decide +kernel, by decide +kernel⟩
theorem der_is_tuple {P : Program} {w : World} {K : PySem.W.Frag} {mg : Str → Option Value} {base : Heap} {f : Addr} {cdv : Value} {A : Around} {outer : List PySem.Env} {s : Shared} {c : C} (bl : Bl mg) (eh : ErH P K mg)  (hG : IsLst c) (hgd : A.guards = some []) (hr : Room 0 (A.deeper (envOfC "is_tuple" (defScope s_is_tuple) s.heap.objs.size f cdv))) : PSsd (XX P w K mg base N_is_tuple "is_tuple" s_is_tuple f cdv A outer s c.H0) c (defBody s_is_tuple) g_is_tuple := by
  have hN : (XX P w K mg base N_is_tuple "is_tuple" s_is_tuple f cdv A outer s c.H0).N.Nodup := sc_is_tuple.nd
  have hc : (XX P w K mg base N_is_tuple "is_tuple" s_is_tuple f cdv A outer s c.H0).calm = true := rfl
  have hx : ∀ e s1, ¬ (XX P w K mg base N_is_tuple "is_tuple" s_is_tuple f cdv A outer s c.H0).xe e s1 := fun _ _ z => z
  have hp : PassesOwn (model P w) (XX P w K mg base N_is_tuple "is_tuple" s_is_tuple f cdv A outer s c.H0).A (XX P w K mg base N_is_tuple "is_tuple" s_is_tuple f cdv A outer s c.H0).env (XX P w K mg base N_is_tuple "is_tuple" s_is_tuple f cdv A outer s c.H0).xe := PassesOwn.never
  have hu : (XX P w K mg base N_is_tuple "is_tuple" s_is_tuple f cdv A outer s c.H0).A.units + 64 < cLine := units_of hr
  have hu5 : (XX P w K mg base N_is_tuple "is_tuple" s_is_tuple f cdv A outer s c.H0).A.units + 65 < cLine := units65 hr
  exact (ss_one (s_ret (v_and (PV.b (v_isi kit_tuple bl.isinstance bl.tuple (b_name 0))) (v_one (v_cmp (o_eq hu) (PV.b (v_callB c_len bl.len (bb_cons (b_name 0) bb_nil))) (b_name 1))))))
theorem ok_is_tuple {P : Program} {w : World} {K : PySem.W.Frag} {mg : Str → Option Value} {base : Heap} {f : Addr} {fd : FuncData} (F : Fun K "is_tuple" "is_tuple" s_is_tuple f fd) (bl : Bl mg) (eh : ErH P K mg)  : FnG IsLst P w K mg base 1 f fd ["value", "many"] S_is_tuple :=
  fng_of F sc_is_tuple m_is_tuple l_is_tuple fun cdv A outer s c hG hgd hr => ⟨g_is_tuple, der_is_tuple bl eh  hG hgd hr, r_is_tuple⟩
theorem sc_all_put_through : FnScope N_all_put_through ["change", "word"] (defScope s_all_put_through) := ⟨rfl, rfl, rfl, by decide +kernel, rfl, by decide +kernel, by decide +kernel⟩
theorem der_all_put_through {P : Program} {w : World} {K : PySem.W.Frag} {mg : Str → Option Value} {base : Heap} {f : Addr} {cdv : Value} {A : Around} {outer : List PySem.Env} {s : Shared} {c : C} (bl : Bl mg) (eh : ErH P K mg)  (hG : IsLst c) (hgd : A.guards = some []) (hr : Room 0 (A.deeper (envOfC "all_put_through" (defScope s_all_put_through) s.heap.objs.size f cdv))) : PSsd (XX P w K mg base N_all_put_through "all_put_through" s_all_put_through f cdv A outer s c.H0) c (defBody s_all_put_through) g_all_put_through := by
  have hN : (XX P w K mg base N_all_put_through "all_put_through" s_all_put_through f cdv A outer s c.H0).N.Nodup := sc_all_put_through.nd
  have hc : (XX P w K mg base N_all_put_through "all_put_through" s_all_put_through f cdv A outer s c.H0).calm = true := rfl
  have hx : ∀ e s1, ¬ (XX P w K mg base N_all_put_through "all_put_through" s_all_put_through f cdv A outer s c.H0).xe e s1 := fun _ _ z => z
  have hp : PassesOwn (model P w) (XX P w K mg base N_all_put_through "all_put_through" s_all_put_through f cdv A outer s c.H0).A (XX P w K mg base N_all_put_through "all_put_through" s_all_put_through f cdv A outer s c.H0).env (XX P w K mg base N_all_put_through "all_put_through" s_all_put_through f cdv A outer s c.H0).xe := PassesOwn.never
  have hu : (XX P w K mg base N_all_put_through "all_put_through" s_all_put_through f cdv A outer s c.H0).A.units + 64 < cLine := units_of hr
  have hu5 : (XX P w K mg base N_all_put_through "all_put_through" s_all_put_through f cdv A outer s c.H0).A.units + 65 < cLine := units65 hr
  exact (ss_cons (s_setN 2 hN (n_lst d_nil)) (ss_cons (s_for hp hc (i_seq (v_name 1)) (g_nm 3 hN) (ss_one (s_extT 2 (PV.b (v_ix (b_name 0) (b_name 3)))))) (ss_one (s_ret (v_callT c_tuple bl.tuple (bb_cons (b_name 2) bb_nil))))))
theorem ok_all_put_through {P : Program} {w : World} {K : PySem.W.Frag} {mg : Str → Option Value} {base : Heap} {f : Addr} {fd : FuncData} (F : Fun K "all_put_through" "all_put_through" s_all_put_through f fd) (bl : Bl mg) (eh : ErH P K mg)  : FnG IsLst P w K mg base 1 f fd ["change", "word"] S_all_put_through :=
  fng_of F sc_all_put_through m_all_put_through l_all_put_through fun cdv A outer s c hG hgd hr => ⟨g_all_put_through, der_all_put_through bl eh  hG hgd hr, r_all_put_through⟩
theorem sc_change_table : FnScope N_change_table ["change"] (defScope s_change_table) := ⟨rfl, rfl, rfl, by decide +kernel, rfl, by decide +kernel, by decide +kernel⟩
theorem der_change_table {P : Program} {w : World} {K : PySem.W.Frag} {mg : Str → Option Value} {base : Heap} {f : Addr} {cdv : Value} {A : Around} {outer : List PySem.Env} {s : Shared} {c : C} (bl : Bl mg) (eh : ErH P K mg)  (hG : IsLst c) (hgd : A.guards = some []) (hr : Room 0 (A.deeper (envOfC "change_table" (defScope s_change_table) s.heap.objs.size f cdv))) : PSsd (XX P w K mg base N_change_table "change_table" s_change_table f cdv A outer s c.H0) c (defBody s_change_table) g_change_table := by
  have hN : (XX P w K mg base N_change_table "change_table" s_change_table f cdv A outer s c.H0).N.Nodup := sc_change_table.nd
  have hc : (XX P w K mg base N_change_table "change_table" s_change_table f cdv A outer s c.H0).calm = true := rfl
  have hx : ∀ e s1, ¬ (XX P w K mg base N_change_table "change_table" s_change_table f cdv A outer s c.H0).xe e s1 := fun _ _ z => z
  have hp : PassesOwn (model P w) (XX P w K mg base N_change_table "change_table" s_change_table f cdv A outer s c.H0).A (XX P w K mg base N_change_table "change_table" s_change_table f cdv A outer s c.H0).env (XX P w K mg base N_change_table "change_table" s_change_table f cdv A outer s c.H0).xe := PassesOwn.never
  have hu : (XX P w K mg base N_change_table "change_table" s_change_table f cdv A outer s c.H0).A.units + 64 < cLine := units_of hr
  have hu5 : (XX P w K mg base N_change_table "change_table" s_change_table f cdv A outer s c.H0).A.units + 65 < cLine := units65 hr
  exact (ss_one (s_ret (v_callT c_tuple bl.tuple (bb_cons (PV.b (PN.v (n_lc hc hN (own := [("word", 1)]) (by first | rfl | decide +kernel) (i_seq (v_name 0)) (fun _ _ _ _ _ => (g_nm 1 (by exact hN))) (fun _ _ _ _ _ => ts_nil) (fun _ _ _ _ _ => (v_tup (d_cons (v_bin o_sub (PV.b (v_callB c_len bl.len (bb_cons (b_name 1) bb_nil))) (PV.b (v_callB (c_sumT (by exact hc)) bl.sum (bb_cons (b_name 1) bb_nil)))) (d_cons (v_callB (c_sumT (by exact hc)) bl.sum (bb_cons (b_name 1) bb_nil)) d_nil))))))) bb_nil))))
theorem ok_change_table {P : Program} {w : World} {K : PySem.W.Frag} {mg : Str → Option Value} {base : Heap} {f : Addr} {fd : FuncData} (F : Fun K "change_table" "change_table" s_change_table f fd) (bl : Bl mg) (eh : ErH P K mg)  : FnG IsLst P w K mg base 1 f fd ["change"] S_change_table :=
  fng_of F sc_change_table m_change_table l_change_table fun cdv A outer s c hG hgd hr => ⟨g_change_table, der_change_table bl eh  hG hgd hr, r_change_table⟩
theorem sc__law_own_bag : FnScope N__law_own_bag ["script"] (defScope s__law_own_bag) := ⟨rfl, rfl, rfl, by decide +kernel, rfl, by decide +kernel, by decide +kernel⟩
theorem der__law_own_bag {P : Program} {w : World} {K : PySem.W.Frag} {mg : Str → Option Value} {base : Heap} {f : Addr} {cdv : Value} {A : Around} {outer : List PySem.Env} {s : Shared} {c : C} (bl : Bl mg) (eh : ErH P K mg)  (hG : GOwn K c) (hgd : A.guards = some []) (hr : Room 0 (A.deeper (envOfC "_law_own_bag" (defScope s__law_own_bag) s.heap.objs.size f cdv))) : PSsd (XX P w K mg base N__law_own_bag "_law_own_bag" s__law_own_bag f cdv A outer s c.H0) c (defBody s__law_own_bag) g__law_own_bag := by
  have hN : (XX P w K mg base N__law_own_bag "_law_own_bag" s__law_own_bag f cdv A outer s c.H0).N.Nodup := sc__law_own_bag.nd
  have hc : (XX P w K mg base N__law_own_bag "_law_own_bag" s__law_own_bag f cdv A outer s c.H0).calm = true := rfl
  have hx : ∀ e s1, ¬ (XX P w K mg base N__law_own_bag "_law_own_bag" s__law_own_bag f cdv A outer s c.H0).xe e s1 := fun _ _ z => z
  have hp : PassesOwn (model P w) (XX P w K mg base N__law_own_bag "_law_own_bag" s__law_own_bag f cdv A outer s c.H0).A (XX P w K mg base N__law_own_bag "_law_own_bag" s__law_own_bag f cdv A outer s c.H0).env (XX P w K mg base N__law_own_bag "_law_own_bag" s__law_own_bag f cdv A outer s c.H0).xe := PassesOwn.never
  have hu : (XX P w K mg base N__law_own_bag "_law_own_bag" s__law_own_bag f cdv A outer s c.H0).A.units + 64 < cLine := units_of hr
  have hu5 : (XX P w K mg base N__law_own_bag "_law_own_bag" s__law_own_bag f cdv A outer s c.H0).A.units + 65 < cLine := units65 hr
  exact (ss_cons (s_lc 1 hc hN (own := [("cell", 2)]) (by first | rfl | decide +kernel) (i_seq (PN.v (n_script (l := none) (h := some 63) hG po_n (po_s (PV.b v_int))))) (fun _ _ _ _ _ => (g_nm 2 (by exact hN))) (fun _ _ _ _ _ => ts_nil) (fun _ _ _ _ _ => (v_callB c_abs bl.abs (bb_cons (b_name 2) bb_nil)))) (ss_cons (s_set 3 hN (v_bin o_add (PV.b v_int) (PV.b (v_callB c_len bl.len (bb_cons (b_name 1) bb_nil))))) (ss_cons (s_frz 1 (s_for hp hc (i_seq (v_name 1)) (g_nm 2 hN) (ss_one (s_set 3 hN (v_bin o_mod (PV.b (v_callT c_int bl.int (bb_cons (PV.b (v_bin o_add (PV.b (v_bin o_add (PV.b (v_bin o_mul (b_name 3) (PV.b v_int))) (PV.b (v_bin o_mod (PV.b (v_callT c_int bl.int (bb_cons (b_name 2) bb_nil))) (PV.b v_int))))) (PV.b v_int))) bb_nil))) (PV.b v_int)))))) (ss_one (s_ret (PN.v (n_lst (d_cons (PN.v (n_listRev hc bl.list bl.reversed (PV.b (PN.v (n_list bl.list (b_name 1)))))) (d_cons v_int (d_cons (v_name 3) d_nil))))))))))
theorem ok__law_own_bag {P : Program} {w : World} {K : PySem.W.Frag} {mg : Str → Option Value} {base : Heap} {f : Addr} {fd : FuncData} (F : Fun K "_law_own_bag" "_law_own_bag" s__law_own_bag f fd) (bl : Bl mg) (eh : ErH P K mg)  : FnG (GOwn K) P w K mg base 1 f fd ["script"] S__law_own_bag :=
  fng_of F sc__law_own_bag m__law_own_bag l__law_own_bag fun cdv A outer s c hG hgd hr => ⟨g__law_own_bag, der__law_own_bag bl eh  hG hgd hr, r__law_own_bag⟩
theorem sc__law_size : FnScope N__law_size ["change", "word"] (defScope s__law_size) := ⟨rfl, rfl, rfl, by decide +kernel, rfl, by decide +kernel, by decide +kernel⟩
theorem der__law_size {P : Program} {w : World} {K : PySem.W.Frag} {mg : Str → Option Value} {base : Heap} {f : Addr} {cdv : Value} {A : Around} {outer : List PySem.Env} {s : Shared} {c : C} (bl : Bl mg) (eh : ErH P K mg)  (hG : IsLst c) (hgd : A.guards = some []) (hr : Room 0 (A.deeper (envOfC "_law_size" (defScope s__law_size) s.heap.objs.size f cdv))) : PSsd (XX P w K mg base N__law_size "_law_size" s__law_size f cdv A outer s c.H0) c (defBody s__law_size) g__law_size := by
  have hN : (XX P w K mg base N__law_size "_law_size" s__law_size f cdv A outer s c.H0).N.Nodup := sc__law_size.nd
  have hc : (XX P w K mg base N__law_size "_law_size" s__law_size f cdv A outer s c.H0).calm = true := rfl
  have hx : ∀ e s1, ¬ (XX P w K mg base N__law_size "_law_size" s__law_size f cdv A outer s c.H0).xe e s1 := fun _ _ z => z
  have hp : PassesOwn (model P w) (XX P w K mg base N__law_size "_law_size" s__law_size f cdv A outer s c.H0).A (XX P w K mg base N__law_size "_law_size" s__law_size f cdv A outer s c.H0).env (XX P w K mg base N__law_size "_law_size" s__law_size f cdv A outer s c.H0).xe := PassesOwn.never
  have hu : (XX P w K mg base N__law_size "_law_size" s__law_size f cdv A outer s c.H0).A.units + 64 < cLine := units_of hr
  have hu5 : (XX P w K mg base N__law_size "_law_size" s__law_size f cdv A outer s c.H0).A.units + 65 < cLine := units65 hr
  exact (ss_cons (s_set 2 hN (v_callB (c_sumT hc) bl.sum (bb_cons (b_name 1) bb_nil))) (ss_one (s_ret (v_bin o_add (PV.b (v_bin o_mul (b_name 2) (PV.b (v_callB c_len bl.len (bb_cons (PV.b (v_ix (b_name 0) (PV.b v_int))) bb_nil))))) (PV.b (v_bin o_mul (PV.b (v_bin o_sub (PV.b (v_callB c_len bl.len (bb_cons (b_name 1) bb_nil))) (b_name 2))) (PV.b (v_callB c_len bl.len (bb_cons (PV.b (v_ix (b_name 0) (PV.b v_int))) bb_nil)))))))))
theorem ok__law_size {P : Program} {w : World} {K : PySem.W.Frag} {mg : Str → Option Value} {base : Heap} {f : Addr} {fd : FuncData} (F : Fun K "_law_size" "_law_size" s__law_size f fd) (bl : Bl mg) (eh : ErH P K mg)  : FnG IsLst P w K mg base 1 f fd ["change", "word"] S__law_size :=
  fng_of F sc__law_size m__law_size l__law_size fun cdv A outer s c hG hgd hr => ⟨g__law_size, der__law_size bl eh  hG hgd hr, r__law_size⟩
theorem sc__law_put : FnScope N__law_put ["change", "word"] (defScope s__law_put) := ⟨rfl, rfl, rfl, by decide +kernel, rfl, by decide +kernel, by decide +kernel⟩
theorem der__law_put {P : Program} {w : World} {K : PySem.W.Frag} {mg : Str → Option Value} {base : Heap} {f : Addr} {cdv : Value} {A : Around} {outer : List PySem.Env} {s : Shared} {c : C} (bl : Bl mg) (eh : ErH P K mg)  (hG : IsLst c) (hgd : A.guards = some []) (hr : Room 0 (A.deeper (envOfC "_law_put" (defScope s__law_put) s.heap.objs.size f cdv))) : PSsd (XX P w K mg base N__law_put "_law_put" s__law_put f cdv A outer s c.H0) c (defBody s__law_put) g__law_put := by
  have hN : (XX P w K mg base N__law_put "_law_put" s__law_put f cdv A outer s c.H0).N.Nodup := sc__law_put.nd
  have hc : (XX P w K mg base N__law_put "_law_put" s__law_put f cdv A outer s c.H0).calm = true := rfl
  have hx : ∀ e s1, ¬ (XX P w K mg base N__law_put "_law_put" s__law_put f cdv A outer s c.H0).xe e s1 := fun _ _ z => z
  have hp : PassesOwn (model P w) (XX P w K mg base N__law_put "_law_put" s__law_put f cdv A outer s c.H0).A (XX P w K mg base N__law_put "_law_put" s__law_put f cdv A outer s c.H0).env (XX P w K mg base N__law_put "_law_put" s__law_put f cdv A outer s c.H0).xe := PassesOwn.never
  have hu : (XX P w K mg base N__law_put "_law_put" s__law_put f cdv A outer s c.H0).A.units + 64 < cLine := units_of hr
  have hu5 : (XX P w K mg base N__law_put "_law_put" s__law_put f cdv A outer s c.H0).A.units + 65 < cLine := units65 hr
  exact (ss_cons (s_setN 2 hN (n_lst d_nil)) (ss_cons (s_for hp hc (i_seq (v_name 1)) (g_nm 3 hN) (ss_one (s_ext 2 (PV.b (PN.v (n_list bl.list (PV.b (v_ix (b_name 0) (b_name 3))))))))) (ss_one (s_ret (v_callT c_tuple bl.tuple (bb_cons (b_name 2) bb_nil))))))
theorem ok__law_put {P : Program} {w : World} {K : PySem.W.Frag} {mg : Str → Option Value} {base : Heap} {f : Addr} {fd : FuncData} (F : Fun K "_law_put" "_law_put" s__law_put f fd) (bl : Bl mg) (eh : ErH P K mg)  : FnG IsLst P w K mg base 1 f fd ["change", "word"] S__law_put :=
  fng_of F sc__law_put m__law_put l__law_put fun cdv A outer s c hG hgd hr => ⟨g__law_put, der__law_put bl eh  hG hgd hr, r__law_put⟩
theorem sc__law_table : FnScope N__law_table ["change"] (defScope s__law_table) := ⟨rfl, rfl, rfl, by decide +kernel, rfl, by decide +kernel, by decide +kernel⟩
theorem der__law_table {P : Program} {w : World} {K : PySem.W.Frag} {mg : Str → Option Value} {base : Heap} {f : Addr} {cdv : Value} {A : Around} {outer : List PySem.Env} {s : Shared} {c : C} (bl : Bl mg) (eh : ErH P K mg)  (hG : IsLst c) (hgd : A.guards = some []) (hr : Room 0 (A.deeper (envOfC "_law_table" (defScope s__law_table) s.heap.objs.size f cdv))) : PSsd (XX P w K mg base N__law_table "_law_table" s__law_table f cdv A outer s c.H0) c (defBody s__law_table) g__law_table := by
  have hN : (XX P w K mg base N__law_table "_law_table" s__law_table f cdv A outer s c.H0).N.Nodup := sc__law_table.nd
  have hc : (XX P w K mg base N__law_table "_law_table" s__law_table f cdv A outer s c.H0).calm = true := rfl
  have hx : ∀ e s1, ¬ (XX P w K mg base N__law_table "_law_table" s__law_table f cdv A outer s c.H0).xe e s1 := fun _ _ z => z
  have hp : PassesOwn (model P w) (XX P w K mg base N__law_table "_law_table" s__law_table f cdv A outer s c.H0).A (XX P w K mg base N__law_table "_law_table" s__law_table f cdv A outer s c.H0).env (XX P w K mg base N__law_table "_law_table" s__law_table f cdv A outer s c.H0).xe := PassesOwn.never
  have hu : (XX P w K mg base N__law_table "_law_table" s__law_table f cdv A outer s c.H0).A.units + 64 < cLine := units_of hr
  have hu5 : (XX P w K mg base N__law_table "_law_table" s__law_table f cdv A outer s c.H0).A.units + 65 < cLine := units65 hr
  exact (ss_one (s_ret (v_callT c_tuple bl.tuple (bb_cons (PV.b (PN.v (n_lc hc hN (own := [("word", 1)]) (by first | rfl | decide +kernel) (i_seq (v_name 0)) (fun _ _ _ _ _ => (g_nm 1 (by exact hN))) (fun _ _ _ _ _ => ts_nil) (fun _ _ _ _ _ => (v_tup (d_cons (v_bin o_sub (PV.b (v_callB c_len bl.len (bb_cons (b_name 1) bb_nil))) (PV.b (v_callB (c_sumT (by exact hc)) bl.sum (bb_cons (b_name 1) bb_nil)))) (d_cons (v_callB (c_sumT (by exact hc)) bl.sum (bb_cons (b_name 1) bb_nil)) d_nil))))))) bb_nil))))
theorem ok__law_table {P : Program} {w : World} {K : PySem.W.Frag} {mg : Str → Option Value} {base : Heap} {f : Addr} {fd : FuncData} (F : Fun K "_law_table" "_law_table" s__law_table f fd) (bl : Bl mg) (eh : ErH P K mg)  : FnG IsLst P w K mg base 1 f fd ["change"] S__law_table :=
  fng_of F sc__law_table m__law_table l__law_table fun cdv A outer s c hG hgd hr => ⟨g__law_table, der__law_table bl eh  hG hgd hr, r__law_table⟩
theorem sc__law_product : FnScope N__law_product ["one", "other"] (defScope s__law_product) := ⟨rfl, rfl, rfl, by decide +kernel, rfl, by decide +kernel, by decide +kernel⟩
theorem der__law_product {P : Program} {w : World} {K : PySem.W.Frag} {mg : Str → Option Value} {base : Heap} {f : Addr} {cdv : Value} {A : Around} {outer : List PySem.Env} {s : Shared} {c : C} (bl : Bl mg) (eh : ErH P K mg)  (hG : IsLst c) (hgd : A.guards = some []) (hr : Room 0 (A.deeper (envOfC "_law_product" (defScope s__law_product) s.heap.objs.size f cdv))) : PSsd (XX P w K mg base N__law_product "_law_product" s__law_product f cdv A outer s c.H0) c (defBody s__law_product) g__law_product := by
  have hN : (XX P w K mg base N__law_product "_law_product" s__law_product f cdv A outer s c.H0).N.Nodup := sc__law_product.nd
  have hc : (XX P w K mg base N__law_product "_law_product" s__law_product f cdv A outer s c.H0).calm = true := rfl
  have hx : ∀ e s1, ¬ (XX P w K mg base N__law_product "_law_product" s__law_product f cdv A outer s c.H0).xe e s1 := fun _ _ z => z
  have hp : PassesOwn (model P w) (XX P w K mg base N__law_product "_law_product" s__law_product f cdv A outer s c.H0).A (XX P w K mg base N__law_product "_law_product" s__law_product f cdv A outer s c.H0).env (XX P w K mg base N__law_product "_law_product" s__law_product f cdv A outer s c.H0).xe := PassesOwn.never
  have hu : (XX P w K mg base N__law_product "_law_product" s__law_product f cdv A outer s c.H0).A.units + 64 < cLine := units_of hr
  have hu5 : (XX P w K mg base N__law_product "_law_product" s__law_product f cdv A outer s c.H0).A.units + 65 < cLine := units65 hr
  exact (ss_cons (s_setN 2 hN (n_lst d_nil)) (ss_cons (s_for hp hc (i_seq (v_name 0)) (g_sq hc (gs_cons (g_nm 3 hN) (gs_cons (g_nm 4 hN) gs_nil))) (ss_one (s_app 2 (v_tup (d_cons (v_bin o_add (PV.b (v_bin o_mul (b_name 3) (PV.b (v_ix (PV.b (v_ix (b_name 1) (PV.b v_int))) (PV.b v_int))))) (PV.b (v_bin o_mul (b_name 4) (PV.b (v_ix (PV.b (v_ix (b_name 1) (PV.b v_int))) (PV.b v_int)))))) (d_cons (v_bin o_add (PV.b (v_bin o_mul (b_name 3) (PV.b (v_ix (PV.b (v_ix (b_name 1) (PV.b v_int))) (PV.b v_int))))) (PV.b (v_bin o_mul (b_name 4) (PV.b (v_ix (PV.b (v_ix (b_name 1) (PV.b v_int))) (PV.b v_int)))))) d_nil)))))) (ss_one (s_ret (v_callT c_tuple bl.tuple (bb_cons (b_name 2) bb_nil))))))
theorem ok__law_product {P : Program} {w : World} {K : PySem.W.Frag} {mg : Str → Option Value} {base : Heap} {f : Addr} {fd : FuncData} (F : Fun K "_law_product" "_law_product" s__law_product f fd) (bl : Bl mg) (eh : ErH P K mg)  : FnG IsLst P w K mg base 1 f fd ["one", "other"] S__law_product :=
  fng_of F sc__law_product m__law_product l__law_product fun cdv A outer s c hG hgd hr => ⟨g__law_product, der__law_product bl eh  hG hgd hr, r__law_product⟩
theorem sc__law_due_error : FnScope N__law_due_error ["value"] (defScope s__law_due_error) := ⟨rfl, rfl, rfl, by decide +kernel, rfl, by decide +kernel, by decide +kernel⟩
theorem der__law_due_error {P : Program} {w : World} {K : PySem.W.Frag} {mg : Str → Option Value} {base : Heap} {f : Addr} {cdv : Value} {A : Around} {outer : List PySem.Env} {s : Shared} {c : C} (bl : Bl mg) (eh : ErH P K mg)  (hG : IsLst c) (hgd : A.guards = some []) (hr : Room 0 (A.deeper (envOfC "_law_due_error" (defScope s__law_due_error) s.heap.objs.size f cdv))) : PSsd (XX P w K mg base N__law_due_error "_law_due_error" s__law_due_error f cdv A outer s c.H0) c (defBody s__law_due_error) g__law_due_error := by
  have hN : (XX P w K mg base N__law_due_error "_law_due_error" s__law_due_error f cdv A outer s c.H0).N.Nodup := sc__law_due_error.nd
  have hc : (XX P w K mg base N__law_due_error "_law_due_error" s__law_due_error f cdv A outer s c.H0).calm = true := rfl
  have hx : ∀ e s1, ¬ (XX P w K mg base N__law_due_error "_law_due_error" s__law_due_error f cdv A outer s c.H0).xe e s1 := fun _ _ z => z
  have hp : PassesOwn (model P w) (XX P w K mg base N__law_due_error "_law_due_error" s__law_due_error f cdv A outer s c.H0).A (XX P w K mg base N__law_due_error "_law_due_error" s__law_due_error f cdv A outer s c.H0).env (XX P w K mg base N__law_due_error "_law_due_error" s__law_due_error f cdv A outer s c.H0).xe := PassesOwn.never
  have hu : (XX P w K mg base N__law_due_error "_law_due_error" s__law_due_error f cdv A outer s c.H0).A.units + 64 < cLine := units_of hr
  have hu5 : (XX P w K mg base N__law_due_error "_law_due_error" s__law_due_error f cdv A outer s c.H0).A.units + 65 < cLine := units65 hr
  exact (ss_cons (s_if (PWd.t (w_or (t_not (t_val (PV.b (v_isi kit_tuple bl.isinstance bl.tuple (b_name 0))))) (w_or1 (t_cmp (o_ne hu) (PV.b (v_callB c_len bl.len (bb_cons (b_name 0) bb_nil))) (PV.b v_int))))) (ss_one (s_ret v_str)) ss_nil) (ss_cons (s_for hp hc (i_enumT bl.enumerate (v_name 0)) (g_sq hc (gs_cons (g_nm 1 hN) (gs_cons (g_nm 2 hN) gs_nil))) (ss_cons (s_if (PWd.t (w_or (t_not (t_val (PV.b (v_isi kit_tuple bl.isinstance bl.tuple (b_name 2))))) (w_or (t_cmp (o_eq hu) (b_name 2) (PV.b (v_tup d_nil))) (w_or1 (t_cmp o_gt (PV.b (v_callB c_len bl.len (bb_cons (b_name 2) bb_nil))) (PV.b v_int)))))) (ss_one (s_ret (v_tup (d_cons v_str (d_cons (v_name 1) d_nil))))) ss_nil) (ss_one (s_if (t_cmp (o_ne hu) (PV.b (PN.v (n_lc hc hN (own := [("one", 3)]) (by first | rfl | decide +kernel) (i_seq (v_name 2)) (fun _ _ _ _ _ => (g_nm 3 (by exact hN))) (fun _ _ _ _ _ => (ts_one (PWd.t (w_or (t_not (t_val (PV.b (v_isi kit_int bl.isinstance bl.int (b_name 3))))) (w_or (t_val (PV.b (v_isi kit_bool bl.isinstance bl.bool (b_name 3)))) (w_or (t_cmp o_lt (b_name 3) (PV.b v_int)) (w_or1 (t_cmp o_gt (b_name 3) (PV.b v_int))))))))) (fun _ _ _ _ _ => (v_name 3))))) (PV.b (PN.v (n_lst d_nil)))) (ss_one (s_ret (v_tup (d_cons v_str (d_cons (v_name 1) d_nil))))) ss_nil)))) (ss_one (s_ret v_non))))
theorem ok__law_due_error {P : Program} {w : World} {K : PySem.W.Frag} {mg : Str → Option Value} {base : Heap} {f : Addr} {fd : FuncData} (F : Fun K "_law_due_error" "_law_due_error" s__law_due_error f fd) (bl : Bl mg) (eh : ErH P K mg)  : FnG IsLst P w K mg base 1 f fd ["value"] S__law_due_error :=
  fng_of F sc__law_due_error m__law_due_error l__law_due_error fun cdv A outer s c hG hgd hr => ⟨g__law_due_error, der__law_due_error bl eh  hG hgd hr, r__law_due_error⟩
theorem sc_is_whole : FnScope N_is_whole ["value", "low", "high"] (defScope s_is_whole) := ⟨rfl, rfl, rfl, by decide +kernel, rfl, by decide +kernel, by decide +kernel⟩
theorem der_is_whole {P : Program} {w : World} {K : PySem.W.Frag} {mg : Str → Option Value} {base : Heap} {f : Addr} {cdv : Value} {A : Around} {outer : List PySem.Env} {s : Shared} {c : C} (bl : Bl mg) (eh : ErH P K mg) (C_is_integer : Kn P w K mg base 1 "is_integer" ["value"] S_is_integer) (hG : IsLst c) (hgd : A.guards = some []) (hr : Room 1 (A.deeper (envOfC "is_whole" (defScope s_is_whole) s.heap.objs.size f cdv))) : PSsd (XX P w K mg base N_is_whole "is_whole" s_is_whole f cdv A outer s c.H0) c (defBody s_is_whole) g_is_whole := by
  have hN : (XX P w K mg base N_is_whole "is_whole" s_is_whole f cdv A outer s c.H0).N.Nodup := sc_is_whole.nd
  have hc : (XX P w K mg base N_is_whole "is_whole" s_is_whole f cdv A outer s c.H0).calm = true := rfl
  have hx : ∀ e s1, ¬ (XX P w K mg base N_is_whole "is_whole" s_is_whole f cdv A outer s c.H0).xe e s1 := fun _ _ z => z
  have hp : PassesOwn (model P w) (XX P w K mg base N_is_whole "is_whole" s_is_whole f cdv A outer s c.H0).A (XX P w K mg base N_is_whole "is_whole" s_is_whole f cdv A outer s c.H0).env (XX P w K mg base N_is_whole "is_whole" s_is_whole f cdv A outer s c.H0).xe := PassesOwn.never
  have hu : (XX P w K mg base N_is_whole "is_whole" s_is_whole f cdv A outer s c.H0).A.units + 64 < cLine := units_of hr
  have hu5 : (XX P w K mg base N_is_whole "is_whole" s_is_whole f cdv A outer s c.H0).A.units + 65 < cLine := units65 hr
  exact (ss_one (s_ret (v_and (PV.b (v_callX C_is_integer hG hgd hr (a_cons (v_name 0) a_nil))) (v_one (v_chain o_le o_le (b_name 1) (b_name 0) (b_name 2))))))
theorem ok_is_whole {P : Program} {w : World} {K : PySem.W.Frag} {mg : Str → Option Value} {base : Heap} {f : Addr} {fd : FuncData} (F : Fun K "is_whole" "is_whole" s_is_whole f fd) (bl : Bl mg) (eh : ErH P K mg) (C_is_integer : Kn P w K mg base 1 "is_integer" ["value"] S_is_integer) : FnG IsLst P w K mg base 2 f fd ["value", "low", "high"] S_is_whole :=
  fng_of F sc_is_whole m_is_whole l_is_whole fun cdv A outer s c hG hgd hr => ⟨g_is_whole, der_is_whole bl eh C_is_integer hG hgd hr, r_is_whole⟩
theorem sc_put_through : FnScope N_put_through ["change", "word"] (defScope s_put_through) := ⟨rfl, rfl, rfl, by decide +kernel, rfl, by decide +kernel, by decide +kernel⟩
theorem der_put_through {P : Program} {w : World} {K : PySem.W.Frag} {mg : Str → Option Value} {base : Heap} {f : Addr} {cdv : Value} {A : Around} {outer : List PySem.Env} {s : Shared} {c : C} (bl : Bl mg) (eh : ErH P K mg) (C_all_put_through : Kn P w K mg base 1 "all_put_through" ["change", "word"] S_all_put_through) (hG : IsLst c) (hgd : A.guards = some []) (hr : Room 1 (A.deeper (envOfC "put_through" (defScope s_put_through) s.heap.objs.size f cdv))) {E : XK} {W : WE} (tk : Takes (XR P w K mg base N_put_through "put_through" s_put_through f cdv A outer s c.H0 E) (toW c K W)) (hp : PassesOwn (model P w) (A.deeper (envOfC "put_through" (defScope s_put_through) s.heap.objs.size f cdv)) (envOfC "put_through" (defScope s_put_through) s.heap.objs.size f cdv) (XR P w K mg base N_put_through "put_through" s_put_through f cdv A outer s c.H0 E).xe) : PSsd (XR P w K mg base N_put_through "put_through" s_put_through f cdv A outer s c.H0 E) c (defBody s_put_through) (g_put_through W) := by
  have hN : (XR P w K mg base N_put_through "put_through" s_put_through f cdv A outer s c.H0 E).N.Nodup := sc_put_through.nd
  have hc : (XR P w K mg base N_put_through "put_through" s_put_through f cdv A outer s c.H0 E).calm = true := rfl
  have hu : (XR P w K mg base N_put_through "put_through" s_put_through f cdv A outer s c.H0 E).A.units + 64 < cLine := units_of hr
  have hu5 : (XR P w K mg base N_put_through "put_through" s_put_through f cdv A outer s c.H0 E).A.units + 65 < cLine := units65 hr
  obtain ⟨_, h_MAX_LONGEST⟩ := bl.c_MAX_LONGEST
  exact (ss_cons (s_set 2 hN (v_callB (c_sumT hc) bl.sum (bb_cons (b_name 1) bb_nil))) (ss_cons (s_if (t_cmp o_gt (PV.b (v_bin o_add (PV.b (v_bin o_mul (PV.b (v_callB c_len bl.len (bb_cons (PV.b (v_ix (b_name 0) (PV.b v_int))) bb_nil))) (b_name 2))) (PV.b (v_bin o_mul (PV.b (v_callB c_len bl.len (bb_cons (PV.b (v_ix (b_name 0) (PV.b v_int))) bb_nil))) (PV.b (v_bin o_sub (PV.b (v_callB c_len bl.len (bb_cons (b_name 1) bb_nil))) (b_name 2))))))) (PV.b (v_glob (i := 2000) rfl h_MAX_LONGEST))) (ss_one (s_raise1 hc tk (eh.mk1 ("TooMany", "limit") (by decide)) hr eh.sup (eh.z _ (by decide)) (v_glob (i := 2000) rfl h_MAX_LONGEST))) ss_nil) (ss_one (s_ret (v_callX C_all_put_through hG hgd hr (a_cons (v_name 0) (a_cons (v_name 1) a_nil)))))))
theorem ok_put_through {P : Program} {w : World} {K : PySem.W.Frag} {mg : Str → Option Value} {base : Heap} {f : Addr} {fd : FuncData} (F : Fun K "put_through" "put_through" s_put_through f fd) (bl : Bl mg) (eh : ErH P K mg) (C_all_put_through : Kn P w K mg base 1 "all_put_through" ["change", "word"] S_all_put_through) : FnE IsLst P w K mg base 2 f fd ["change", "word"] S_put_through :=
  fne_of F sc_put_through m_put_through l_put_through g_put_through (fun cdv A outer s c E W hG hgd hr tk hp => der_put_through bl eh C_all_put_through hG hgd hr tk hp) r_put_through
theorem sc__law_pick : FnScope N__law_pick ["bag", "some"] (defScope s__law_pick) := ⟨rfl, rfl, rfl, by decide +kernel, rfl, by decide +kernel, by decide +kernel⟩
theorem der__law_pick {P : Program} {w : World} {K : PySem.W.Frag} {mg : Str → Option Value} {base : Heap} {f : Addr} {cdv : Value} {A : Around} {outer : List PySem.Env} {s : Shared} {c : C} (bl : Bl mg) (eh : ErH P K mg) (C__law_draw : Kn P w K mg base 1 "_law_draw" ["bag", "below"] S__law_draw) (hG : IsLst c) (hgd : A.guards = some []) (hr : Room 1 (A.deeper (envOfC "_law_pick" (defScope s__law_pick) s.heap.objs.size f cdv))) : PSsd (XX P w K mg base N__law_pick "_law_pick" s__law_pick f cdv A outer s c.H0) c (defBody s__law_pick) g__law_pick := by
  have hN : (XX P w K mg base N__law_pick "_law_pick" s__law_pick f cdv A outer s c.H0).N.Nodup := sc__law_pick.nd
  have hc : (XX P w K mg base N__law_pick "_law_pick" s__law_pick f cdv A outer s c.H0).calm = true := rfl
  have hx : ∀ e s1, ¬ (XX P w K mg base N__law_pick "_law_pick" s__law_pick f cdv A outer s c.H0).xe e s1 := fun _ _ z => z
  have hp : PassesOwn (model P w) (XX P w K mg base N__law_pick "_law_pick" s__law_pick f cdv A outer s c.H0).A (XX P w K mg base N__law_pick "_law_pick" s__law_pick f cdv A outer s c.H0).env (XX P w K mg base N__law_pick "_law_pick" s__law_pick f cdv A outer s c.H0).xe := PassesOwn.never
  have hu : (XX P w K mg base N__law_pick "_law_pick" s__law_pick f cdv A outer s c.H0).A.units + 64 < cLine := units_of hr
  have hu5 : (XX P w K mg base N__law_pick "_law_pick" s__law_pick f cdv A outer s c.H0).A.units + 65 < cLine := units65 hr
  exact (ss_one (s_ret (v_ix (b_name 1) (PV.b (v_callX C__law_draw hG hgd hr (a_bag 0 (a_cons (v_callB c_len bl.len (bb_cons (b_name 1) bb_nil)) a_nil)))))))
theorem ok__law_pick {P : Program} {w : World} {K : PySem.W.Frag} {mg : Str → Option Value} {base : Heap} {f : Addr} {fd : FuncData} (F : Fun K "_law_pick" "_law_pick" s__law_pick f fd) (bl : Bl mg) (eh : ErH P K mg) (C__law_draw : Kn P w K mg base 1 "_law_draw" ["bag", "below"] S__law_draw) : FnG IsLst P w K mg base 2 f fd ["bag", "some"] S__law_pick :=
  fng_of F sc__law_pick m__law_pick l__law_pick fun cdv A outer s c hG hgd hr => ⟨g__law_pick, der__law_pick bl eh C__law_draw hG hgd hr, r__law_pick⟩
theorem sc__law_own_word : FnScope N__law_own_word ["bag", "many"] (defScope s__law_own_word) := ⟨rfl, rfl, rfl, by decide +kernel, rfl, by decide +kernel, by decide +kernel⟩
theorem der__law_own_word {P : Program} {w : World} {K : PySem.W.Frag} {mg : Str → Option Value} {base : Heap} {f : Addr} {cdv : Value} {A : Around} {outer : List PySem.Env} {s : Shared} {c : C} (bl : Bl mg) (eh : ErH P K mg) (C__law_draw : Kn P w K mg base 1 "_law_draw" ["bag", "below"] S__law_draw) (hG : IsLst c) (hgd : A.guards = some []) (hr : Room 1 (A.deeper (envOfC "_law_own_word" (defScope s__law_own_word) s.heap.objs.size f cdv))) : PSsd (XX P w K mg base N__law_own_word "_law_own_word" s__law_own_word f cdv A outer s c.H0) c (defBody s__law_own_word) g__law_own_word := by
  have hN : (XX P w K mg base N__law_own_word "_law_own_word" s__law_own_word f cdv A outer s c.H0).N.Nodup := sc__law_own_word.nd
  have hc : (XX P w K mg base N__law_own_word "_law_own_word" s__law_own_word f cdv A outer s c.H0).calm = true := rfl
  have hx : ∀ e s1, ¬ (XX P w K mg base N__law_own_word "_law_own_word" s__law_own_word f cdv A outer s c.H0).xe e s1 := fun _ _ z => z
  have hp : PassesOwn (model P w) (XX P w K mg base N__law_own_word "_law_own_word" s__law_own_word f cdv A outer s c.H0).A (XX P w K mg base N__law_own_word "_law_own_word" s__law_own_word f cdv A outer s c.H0).env (XX P w K mg base N__law_own_word "_law_own_word" s__law_own_word f cdv A outer s c.H0).xe := PassesOwn.never
  have hu : (XX P w K mg base N__law_own_word "_law_own_word" s__law_own_word f cdv A outer s c.H0).A.units + 64 < cLine := units_of hr
  have hu5 : (XX P w K mg base N__law_own_word "_law_own_word" s__law_own_word f cdv A outer s c.H0).A.units + 65 < cLine := units65 hr
  exact (ss_cons (s_set 2 hN (v_callX C__law_draw hG hgd hr (a_bag 0 (a_cons v_int a_nil)))) (ss_cons (s_if (t_cmp (o_eq hu) (b_name 2) (PV.b v_int)) (ss_cons (s_par 3 4 hc hN (m_v (v_callX C__law_draw hG hgd hr (a_bag 0 (a_cons (v_bin o_add (b_name 1) (PV.b v_int)) a_nil))) (m_v (v_callX C__law_draw hG hgd hr (a_bag 0 (a_cons v_int a_nil))) m_nil))) (ss_one (s_ret (v_slT (PV.b (v_bin o_add (PV.b (v_bin o_add (PV.b (v_bin o_repT (PV.b (v_tup (d_cons (v_name 4) d_nil))) (b_name 3))) (PV.b (v_tup (d_cons (v_bin o_sub (PV.b v_int) (b_name 4)) d_nil))))) (PV.b (v_bin o_repT (PV.b (v_tup (d_cons (v_name 4) d_nil))) (b_name 1))))) po_n (po_s (b_name 1)))))) ss_nil) (ss_one (s_ret (v_callT c_tuple bl.tuple (bb_cons (PV.b (PN.v (n_lc hc hN (own := [("k", 5)]) (by first | rfl | decide +kernel) (i_seq (PN.v (n_lrng1 hc bl.list bl.range (b_name 1)))) (fun _ _ _ _ _ => (g_nm 5 (by exact hN))) (fun _ _ _ _ _ => ts_nil) (fun _ _ _ _ _ => (v_callX C__law_draw hG (by exact hgd) (by exact hr) (a_bag 0 (a_cons v_int a_nil))))))) bb_nil))))))
theorem ok__law_own_word {P : Program} {w : World} {K : PySem.W.Frag} {mg : Str → Option Value} {base : Heap} {f : Addr} {fd : FuncData} (F : Fun K "_law_own_word" "_law_own_word" s__law_own_word f fd) (bl : Bl mg) (eh : ErH P K mg) (C__law_draw : Kn P w K mg base 1 "_law_draw" ["bag", "below"] S__law_draw) : FnG IsLst P w K mg base 2 f fd ["bag", "many"] S__law_own_word :=
  fng_of F sc__law_own_word m__law_own_word l__law_own_word fun cdv A outer s c hG hgd hr => ⟨g__law_own_word, der__law_own_word bl eh C__law_draw hG hgd hr, r__law_own_word⟩
theorem sc_is_any_word : FnScope N_is_any_word ["value"] (defScope s_is_any_word) := ⟨rfl, rfl, rfl, by decide +kernel, rfl, by decide +kernel, by decide +kernel⟩
theorem der_is_any_word {P : Program} {w : World} {K : PySem.W.Frag} {mg : Str → Option Value} {base : Heap} {f : Addr} {cdv : Value} {A : Around} {outer : List PySem.Env} {s : Shared} {c : C} (bl : Bl mg) (eh : ErH P K mg) (C_is_whole : Kn P w K mg base 2 "is_whole" ["value", "low", "high"] S_is_whole) (hG : IsLst c) (hgd : A.guards = some []) (hr : Room 2 (A.deeper (envOfC "is_any_word" (defScope s_is_any_word) s.heap.objs.size f cdv))) : PSsd (XX P w K mg base N_is_any_word "is_any_word" s_is_any_word f cdv A outer s c.H0) c (defBody s_is_any_word) g_is_any_word := by
  have hN : (XX P w K mg base N_is_any_word "is_any_word" s_is_any_word f cdv A outer s c.H0).N.Nodup := sc_is_any_word.nd
  have hc : (XX P w K mg base N_is_any_word "is_any_word" s_is_any_word f cdv A outer s c.H0).calm = true := rfl
  have hx : ∀ e s1, ¬ (XX P w K mg base N_is_any_word "is_any_word" s_is_any_word f cdv A outer s c.H0).xe e s1 := fun _ _ z => z
  have hp : PassesOwn (model P w) (XX P w K mg base N_is_any_word "is_any_word" s_is_any_word f cdv A outer s c.H0).A (XX P w K mg base N_is_any_word "is_any_word" s_is_any_word f cdv A outer s c.H0).env (XX P w K mg base N_is_any_word "is_any_word" s_is_any_word f cdv A outer s c.H0).xe := PassesOwn.never
  have hu : (XX P w K mg base N_is_any_word "is_any_word" s_is_any_word f cdv A outer s c.H0).A.units + 64 < cLine := units_of hr
  have hu5 : (XX P w K mg base N_is_any_word "is_any_word" s_is_any_word f cdv A outer s c.H0).A.units + 65 < cLine := units65 hr
  exact (ss_one (s_ret (v_and (PV.b (v_isi kit_tuple bl.isinstance bl.tuple (b_name 0))) (v_one (v_callB (c_all hc) bl.all (bb_cons (PV.b (PN.v (n_lc hc hN (own := [("item", 1)]) (by first | rfl | decide +kernel) (i_seq (v_name 0)) (fun _ _ _ _ _ => (g_nm 1 (by exact hN))) (fun _ _ _ _ _ => ts_nil) (fun _ _ _ _ _ => (v_callX C_is_whole hG (by exact hgd) (by exact hr) (a_cons (v_name 1) (a_cons v_int (a_cons v_int a_nil)))))))) bb_nil))))))
theorem ok_is_any_word {P : Program} {w : World} {K : PySem.W.Frag} {mg : Str → Option Value} {base : Heap} {f : Addr} {fd : FuncData} (F : Fun K "is_any_word" "is_any_word" s_is_any_word f fd) (bl : Bl mg) (eh : ErH P K mg) (C_is_whole : Kn P w K mg base 2 "is_whole" ["value", "low", "high"] S_is_whole) : FnG IsLst P w K mg base 3 f fd ["value"] S_is_any_word :=
  fng_of F sc_is_any_word m_is_any_word l_is_any_word fun cdv A outer s c hG hgd hr => ⟨g_is_any_word, der_is_any_word bl eh C_is_whole hG hgd hr, r_is_any_word⟩
theorem sc_change_behind : FnScope N_change_behind ["one", "other"] (defScope s_change_behind) := ⟨rfl, rfl, rfl, by decide +kernel, rfl, by decide +kernel, by decide +kernel⟩
theorem der_change_behind {P : Program} {w : World} {K : PySem.W.Frag} {mg : Str → Option Value} {base : Heap} {f : Addr} {cdv : Value} {A : Around} {outer : List PySem.Env} {s : Shared} {c : C} (bl : Bl mg) (eh : ErH P K mg) (C_put_through : KnE P w K mg base 2 "put_through" ["change", "word"] S_put_through) (hG : IsLst c) (hgd : A.guards = some []) (hr : Room 2 (A.deeper (envOfC "change_behind" (defScope s_change_behind) s.heap.objs.size f cdv))) {E : XK} {W : WE} (tk : Takes (XR P w K mg base N_change_behind "change_behind" s_change_behind f cdv A outer s c.H0 E) (toW c K W)) (hp : PassesOwn (model P w) (A.deeper (envOfC "change_behind" (defScope s_change_behind) s.heap.objs.size f cdv)) (envOfC "change_behind" (defScope s_change_behind) s.heap.objs.size f cdv) (XR P w K mg base N_change_behind "change_behind" s_change_behind f cdv A outer s c.H0 E).xe) : PSsd (XR P w K mg base N_change_behind "change_behind" s_change_behind f cdv A outer s c.H0 E) c (defBody s_change_behind) (g_change_behind W) := by
  have hN : (XR P w K mg base N_change_behind "change_behind" s_change_behind f cdv A outer s c.H0 E).N.Nodup := sc_change_behind.nd
  have hc : (XR P w K mg base N_change_behind "change_behind" s_change_behind f cdv A outer s c.H0 E).calm = true := rfl
  have hu : (XR P w K mg base N_change_behind "change_behind" s_change_behind f cdv A outer s c.H0 E).A.units + 64 < cLine := units_of hr
  have hu5 : (XR P w K mg base N_change_behind "change_behind" s_change_behind f cdv A outer s c.H0 E).A.units + 65 < cLine := units65 hr
  exact (ss_one (s_ret (v_tup (d_cons (v_callE C_put_through tk hG hgd hr (a_cons (v_name 1) (a_cons (v_ix (b_name 0) (PV.b v_int)) a_nil))) (d_cons (v_callE C_put_through tk hG hgd hr (a_cons (v_name 1) (a_cons (v_ix (b_name 0) (PV.b v_int)) a_nil))) d_nil)))))
theorem ok_change_behind {P : Program} {w : World} {K : PySem.W.Frag} {mg : Str → Option Value} {base : Heap} {f : Addr} {fd : FuncData} (F : Fun K "change_behind" "change_behind" s_change_behind f fd) (bl : Bl mg) (eh : ErH P K mg) (C_put_through : KnE P w K mg base 2 "put_through" ["change", "word"] S_put_through) : FnE IsLst P w K mg base 3 f fd ["one", "other"] S_change_behind :=
  fne_of F sc_change_behind m_change_behind l_change_behind g_change_behind (fun cdv A outer s c E W hG hgd hr tk hp => der_change_behind bl eh C_put_through hG hgd hr tk hp) r_change_behind
theorem sc__law_own_change : FnScope N__law_own_change ["bag", "most"] (defScope s__law_own_change) := ⟨rfl, rfl, rfl, by decide +kernel, rfl, by decide +kernel, by decide +kernel⟩
theorem der__law_own_change {P : Program} {w : World} {K : PySem.W.Frag} {mg : Str → Option Value} {base : Heap} {f : Addr} {cdv : Value} {A : Around} {outer : List PySem.Env} {s : Shared} {c : C} (bl : Bl mg) (eh : ErH P K mg) (C__law_own_word : Kn P w K mg base 2 "_law_own_word" ["bag", "many"] S__law_own_word) (C__law_draw : Kn P w K mg base 2 "_law_draw" ["bag", "below"] S__law_draw) (hG : IsLst c) (hgd : A.guards = some []) (hr : Room 2 (A.deeper (envOfC "_law_own_change" (defScope s__law_own_change) s.heap.objs.size f cdv))) : PSsd (XX P w K mg base N__law_own_change "_law_own_change" s__law_own_change f cdv A outer s c.H0) c (defBody s__law_own_change) g__law_own_change := by
  have hN : (XX P w K mg base N__law_own_change "_law_own_change" s__law_own_change f cdv A outer s c.H0).N.Nodup := sc__law_own_change.nd
  have hc : (XX P w K mg base N__law_own_change "_law_own_change" s__law_own_change f cdv A outer s c.H0).calm = true := rfl
  have hx : ∀ e s1, ¬ (XX P w K mg base N__law_own_change "_law_own_change" s__law_own_change f cdv A outer s c.H0).xe e s1 := fun _ _ z => z
  have hp : PassesOwn (model P w) (XX P w K mg base N__law_own_change "_law_own_change" s__law_own_change f cdv A outer s c.H0).A (XX P w K mg base N__law_own_change "_law_own_change" s__law_own_change f cdv A outer s c.H0).env (XX P w K mg base N__law_own_change "_law_own_change" s__law_own_change f cdv A outer s c.H0).xe := PassesOwn.never
  have hu : (XX P w K mg base N__law_own_change "_law_own_change" s__law_own_change f cdv A outer s c.H0).A.units + 64 < cLine := units_of hr
  have hu5 : (XX P w K mg base N__law_own_change "_law_own_change" s__law_own_change f cdv A outer s c.H0).A.units + 65 < cLine := units65 hr
  exact (ss_cons (s_set 2 hN (v_callX C__law_own_word hG hgd hr (a_bag 0 (a_cons (v_bin o_add (PV.b v_int) (PV.b (v_callX C__law_draw hG hgd hr (a_bag 0 (a_cons (v_name 1) a_nil))))) a_nil)))) (ss_one (s_ret (v_tup (d_cons (v_name 2) (d_cons (v_callX C__law_own_word hG hgd hr (a_bag 0 (a_cons (v_bin o_add (PV.b v_int) (PV.b (v_callX C__law_draw hG hgd hr (a_bag 0 (a_cons (v_name 1) a_nil))))) a_nil))) d_nil))))))
theorem ok__law_own_change {P : Program} {w : World} {K : PySem.W.Frag} {mg : Str → Option Value} {base : Heap} {f : Addr} {fd : FuncData} (F : Fun K "_law_own_change" "_law_own_change" s__law_own_change f fd) (bl : Bl mg) (eh : ErH P K mg) (C__law_own_word : Kn P w K mg base 2 "_law_own_word" ["bag", "many"] S__law_own_word) (C__law_draw : Kn P w K mg base 2 "_law_draw" ["bag", "below"] S__law_draw) : FnG IsLst P w K mg base 3 f fd ["bag", "most"] S__law_own_change :=
  fng_of F sc__law_own_change m__law_own_change l__law_own_change fun cdv A outer s c hG hgd hr => ⟨g__law_own_change, der__law_own_change bl eh C__law_own_word C__law_draw hG hgd hr, r__law_own_change⟩
theorem sc__law_ask_put : FnScope N__law_ask_put ["change", "word", "is_named"] (defScope s__law_ask_put) := ⟨rfl, rfl, rfl, by decide +kernel, rfl, by decide +kernel, by decide +kernel⟩
theorem der__law_ask_put {P : Program} {w : World} {K : PySem.W.Frag} {mg : Str → Option Value} {base : Heap} {f : Addr} {cdv : Value} {A : Around} {outer : List PySem.Env} {s : Shared} {c : C} (bl : Bl mg) (eh : ErH P K mg) (C_put_through : KnE P w K mg base 2 "put_through" ["change", "word"] S_put_through) (K_put_through_word_change : KnEK P w K mg base 2 "put_through" ["change", "word"] ["word", "change"] [1, 0] S_put_through) (hG : IsLst c) (hgd : A.guards = some []) (hr : Room 2 (A.deeper (envOfC "_law_ask_put" (defScope s__law_ask_put) s.heap.objs.size f cdv))) : PSsd (XX P w K mg base N__law_ask_put "_law_ask_put" s__law_ask_put f cdv A outer s c.H0) c (defBody s__law_ask_put) g__law_ask_put := by
  have hN : (XX P w K mg base N__law_ask_put "_law_ask_put" s__law_ask_put f cdv A outer s c.H0).N.Nodup := sc__law_ask_put.nd
  have hc : (XX P w K mg base N__law_ask_put "_law_ask_put" s__law_ask_put f cdv A outer s c.H0).calm = true := rfl
  have hx : ∀ e s1, ¬ (XX P w K mg base N__law_ask_put "_law_ask_put" s__law_ask_put f cdv A outer s c.H0).xe e s1 := fun _ _ z => z
  have hp : PassesOwn (model P w) (XX P w K mg base N__law_ask_put "_law_ask_put" s__law_ask_put f cdv A outer s c.H0).A (XX P w K mg base N__law_ask_put "_law_ask_put" s__law_ask_put f cdv A outer s c.H0).env (XX P w K mg base N__law_ask_put "_law_ask_put" s__law_ask_put f cdv A outer s c.H0).xe := PassesOwn.never
  have hu : (XX P w K mg base N__law_ask_put "_law_ask_put" s__law_ask_put f cdv A outer s c.H0).A.units + 64 < cLine := units_of hr
  have hu5 : (XX P w K mg base N__law_ask_put "_law_ask_put" s__law_ask_put f cdv A outer s c.H0).A.units + 65 < cLine := units65 hr
  exact (ss_one (s_try_as 3 hN (fun nm hn => eh.er.exm nm hn _ (by decide)) (eh.z _ (by decide)) takes_no (fun b0 h0 W1 pn xe tk1 hp => (ss_one (s_ret (PN.v (n_lst (d_cons v_int (d_cons (v_if (t_val (b_name 2)) (v_callEK K_put_through_word_change tk1 hG hgd hr (k_cons (v_name 1) (k_cons (v_name 0) k_nil))) (v_callE C_put_through tk1 hG hgd hr (a_cons (v_name 0) (a_cons (v_name 1) a_nil)))) d_nil))))))) (fun b0 h0 a oe d nm pn hnm hz hv => (ss_cons (s_set 4 hN (v_and (PV.b (v_is1 3 eh.er hnm hz hv bl.isinstance (pc_cls (eh.z _ (by decide)) pc_nil))) (v_one (v_is1 3 eh.er hnm hz hv bl.isinstance (pc_ve bl.ValueError pc_nil))))) (ss_cons (s_set 5 hN (v_isT 3 eh.er hnm hz hv bl.isinstance (pc_cls (eh.z _ (by decide)) (pc_cls (eh.z _ (by decide)) (pc_cls (eh.z _ (by decide)) (pc_cls (eh.z _ (by decide)) (pc_cls (eh.z _ (by decide)) (pc_cls (eh.z _ (by decide)) pc_nil)))))))) (ss_one (s_ret (PN.v (n_lst (d_cons v_int (d_cons (v_fld 3 eh.er eh.fl hnm hz hv) (d_cons (v_and (b_name 4) (v_one (v_not (b_name 5)))) d_nil))))))))))))
theorem ok__law_ask_put {P : Program} {w : World} {K : PySem.W.Frag} {mg : Str → Option Value} {base : Heap} {f : Addr} {fd : FuncData} (F : Fun K "_law_ask_put" "_law_ask_put" s__law_ask_put f fd) (bl : Bl mg) (eh : ErH P K mg) (C_put_through : KnE P w K mg base 2 "put_through" ["change", "word"] S_put_through) (K_put_through_word_change : KnEK P w K mg base 2 "put_through" ["change", "word"] ["word", "change"] [1, 0] S_put_through) : FnG IsLst P w K mg base 3 f fd ["change", "word", "is_named"] S__law_ask_put :=
  fng_of F sc__law_ask_put m__law_ask_put l__law_ask_put fun cdv A outer s c hG hgd hr => ⟨g__law_ask_put, der__law_ask_put bl eh C_put_through K_put_through_word_change hG hgd hr, r__law_ask_put⟩
theorem sc__law_odd_words : FnScope N__law_odd_words ["bag", "word"] (defScope s__law_odd_words) := ⟨rfl, rfl, rfl, by decide +kernel, rfl, by decide +kernel, by decide +kernel⟩
theorem der__law_odd_words {P : Program} {w : World} {K : PySem.W.Frag} {mg : Str → Option Value} {base : Heap} {f : Addr} {cdv : Value} {A : Around} {outer : List PySem.Env} {s : Shared} {c : C} (bl : Bl mg) (eh : ErH P K mg) (C__law_draw : Kn P w K mg base 2 "_law_draw" ["bag", "below"] S__law_draw) (C__law_pick : Kn P w K mg base 2 "_law_pick" ["bag", "some"] S__law_pick) (hG : IsLst c) (hgd : A.guards = some []) (hr : Room 2 (A.deeper (envOfC "_law_odd_words" (defScope s__law_odd_words) s.heap.objs.size f cdv))) : PSsd (XX P w K mg base N__law_odd_words "_law_odd_words" s__law_odd_words f cdv A outer s c.H0) c (defBody s__law_odd_words) g__law_odd_words := by
  have hN : (XX P w K mg base N__law_odd_words "_law_odd_words" s__law_odd_words f cdv A outer s c.H0).N.Nodup := sc__law_odd_words.nd
  have hc : (XX P w K mg base N__law_odd_words "_law_odd_words" s__law_odd_words f cdv A outer s c.H0).calm = true := rfl
  have hx : ∀ e s1, ¬ (XX P w K mg base N__law_odd_words "_law_odd_words" s__law_odd_words f cdv A outer s c.H0).xe e s1 := fun _ _ z => z
  have hp : PassesOwn (model P w) (XX P w K mg base N__law_odd_words "_law_odd_words" s__law_odd_words f cdv A outer s c.H0).A (XX P w K mg base N__law_odd_words "_law_odd_words" s__law_odd_words f cdv A outer s c.H0).env (XX P w K mg base N__law_odd_words "_law_odd_words" s__law_odd_words f cdv A outer s c.H0).xe := PassesOwn.never
  have hu : (XX P w K mg base N__law_odd_words "_law_odd_words" s__law_odd_words f cdv A outer s c.H0).A.units + 64 < cLine := units_of hr
  have hu5 : (XX P w K mg base N__law_odd_words "_law_odd_words" s__law_odd_words f cdv A outer s c.H0).A.units + 65 < cLine := units65 hr
  exact (ss_cons (s_set 2 hN (v_callX C__law_draw hG hgd hr (a_bag 0 (a_cons (v_callB c_len bl.len (bb_cons (b_name 1) bb_nil)) a_nil)))) (ss_cons (s_set 3 hN (v_callX C__law_pick hG hgd hr (a_bag 0 (a_cons (PN.v (n_lst (d_cons v_int (d_cons (v_neg (PV.b v_int)) (d_cons v_bl (d_cons v_bl (d_cons v_non (d_cons v_str (d_cons v_str (d_cons (v_tup (d_cons v_int d_nil)) (d_cons (v_tup d_nil) (d_cons (PN.v (n_lst (d_cons v_int d_nil))) (d_cons (v_bin o_pow (PV.b v_int) (PV.b v_int)) (d_cons (v_bin o_powW (PV.b (v_bin o_pow (PV.b v_int) (PV.b v_int))) (PV.b v_int)) d_nil)))))))))))))) a_nil)))) (ss_cons (s_set 4 hN (v_slT (PV.b (v_bin o_repT (b_name 1) (PV.b v_int))) po_n (po_s (PV.b v_int)))) (ss_cons (s_setN 5 hN (n_lst (d_cons (v_bin o_add (PV.b (v_bin o_add (PV.b (v_slT (b_name 1) po_n (po_s (b_name 2)))) (PV.b (v_tup (d_cons (v_name 3) d_nil))))) (PV.b (v_slT (b_name 1) (po_s (PV.b (v_bin o_add (b_name 2) (PV.b v_int)))) po_n))) (d_cons (v_bin o_add (PV.b (v_slT (b_name 1) po_n (po_s (PV.b (v_neg (PV.b v_int)))))) (PV.b (v_tup (d_cons (v_name 3) d_nil)))) (d_cons (v_bin o_add (PV.b (v_tup (d_cons (v_name 3) d_nil))) (PV.b (v_slT (b_name 1) (po_s (PV.b v_int)) po_n))) d_nil))))) (ss_cons (s_app 5 (v_bin o_add (PV.b (v_slT (b_name 1) po_n (po_s (PV.b (v_neg (PV.b v_int)))))) (PV.b (v_tup (d_cons (v_cmp (o_eq hu) (PV.b (v_ix (b_name 1) (PV.b (v_neg (PV.b v_int))))) (PV.b v_int)) d_nil))))) (ss_cons (s_ext 5 (PV.b (PN.v (n_lst (d_cons (v_tup d_nil) (d_cons (PN.v (n_list bl.list (b_name 1))) (d_cons (v_tup (d_cons (v_name 1) d_nil)) (d_cons (v_bin o_add (b_name 4) (PV.b (v_tup (d_cons v_int d_nil)))) (d_cons (v_bin o_add (b_name 4) (PV.b (v_tup (d_cons v_int (d_cons v_int d_nil))))) (d_cons (v_bin o_add (b_name 4) (PV.b (v_tup (d_cons (v_name 3) d_nil)))) d_nil)))))))))) (ss_cons (s_app 5 (v_slT (PV.b (v_bin o_repT (b_name 4) (PV.b v_int))) po_n (po_s (PV.b (v_callX C__law_draw hG hgd hr (a_bag 0 (a_cons v_int a_nil))))))) (ss_cons (s_app 5 (v_callX C__law_pick hG hgd hr (a_bag 0 (a_cons (PN.v (n_lst (d_cons v_non (d_cons v_bl (d_cons v_int (d_cons v_int (d_cons v_str (d_cons v_str (d_cons v_str (d_cons (PN.v (n_lst d_nil)) (d_cons v_dict0 (d_cons (v_dict1 pk_int v_int) (d_cons (v_tup (d_cons (v_tup d_nil) d_nil)) (d_cons (v_tup (d_cons v_non d_nil)) d_nil)))))))))))))) a_nil)))) (ss_one (s_frz 5 (s_ret (v_name 5))))))))))))
theorem ok__law_odd_words {P : Program} {w : World} {K : PySem.W.Frag} {mg : Str → Option Value} {base : Heap} {f : Addr} {fd : FuncData} (F : Fun K "_law_odd_words" "_law_odd_words" s__law_odd_words f fd) (bl : Bl mg) (eh : ErH P K mg) (C__law_draw : Kn P w K mg base 2 "_law_draw" ["bag", "below"] S__law_draw) (C__law_pick : Kn P w K mg base 2 "_law_pick" ["bag", "some"] S__law_pick) : FnG IsLst P w K mg base 3 f fd ["bag", "word"] S__law_odd_words :=
  fng_of F sc__law_odd_words m__law_odd_words l__law_odd_words fun cdv A outer s c hG hgd hr => ⟨g__law_odd_words, der__law_odd_words bl eh C__law_draw C__law_pick hG hgd hr, r__law_odd_words⟩
theorem sc__law_at : FnScope N__law_at ["bag", "most", "many"] (defScope s__law_at) := ⟨rfl, rfl, rfl, by decide +kernel, rfl, by decide +kernel, by decide +kernel⟩
theorem der__law_at {P : Program} {w : World} {K : PySem.W.Frag} {mg : Str → Option Value} {base : Heap} {f : Addr} {cdv : Value} {A : Around} {outer : List PySem.Env} {s : Shared} {c : C} (bl : Bl mg) (eh : ErH P K mg) (C__law_draw : Kn P w K mg base 2 "_law_draw" ["bag", "below"] S__law_draw) (C__law_own_word : Kn P w K mg base 2 "_law_own_word" ["bag", "many"] S__law_own_word) (C__law_pick : Kn P w K mg base 2 "_law_pick" ["bag", "some"] S__law_pick) (hG : IsLst c) (hgd : A.guards = some []) (hr : Room 2 (A.deeper (envOfC "_law_at" (defScope s__law_at) s.heap.objs.size f cdv))) : PSsd (XX P w K mg base N__law_at "_law_at" s__law_at f cdv A outer s c.H0) c (defBody s__law_at) g__law_at := by
  have hN : (XX P w K mg base N__law_at "_law_at" s__law_at f cdv A outer s c.H0).N.Nodup := sc__law_at.nd
  have hc : (XX P w K mg base N__law_at "_law_at" s__law_at f cdv A outer s c.H0).calm = true := rfl
  have hx : ∀ e s1, ¬ (XX P w K mg base N__law_at "_law_at" s__law_at f cdv A outer s c.H0).xe e s1 := fun _ _ z => z
  have hp : PassesOwn (model P w) (XX P w K mg base N__law_at "_law_at" s__law_at f cdv A outer s c.H0).A (XX P w K mg base N__law_at "_law_at" s__law_at f cdv A outer s c.H0).env (XX P w K mg base N__law_at "_law_at" s__law_at f cdv A outer s c.H0).xe := PassesOwn.never
  have hu : (XX P w K mg base N__law_at "_law_at" s__law_at f cdv A outer s c.H0).A.units + 64 < cLine := units_of hr
  have hu5 : (XX P w K mg base N__law_at "_law_at" s__law_at f cdv A outer s c.H0).A.units + 65 < cLine := units65 hr
  exact (ss_cons (s_set 3 hN (v_bin o_add (PV.b (v_bin o_div (b_name 2) (PV.b (v_bin o_sub (b_name 1) (PV.b v_int))))) (PV.b v_int))) (ss_cons (s_set 4 hN (v_bin o_add (b_name 3) (PV.b (v_callX C__law_draw hG hgd hr (a_bag 0 (a_cons (v_bin o_sub (PV.b v_int) (b_name 3)) a_nil)))))) (ss_cons (s_set 5 hN (v_bin o_div (b_name 2) (b_name 4))) (ss_cons (s_set 6 hN (v_bin o_sub (b_name 2) (PV.b (v_bin o_mul (b_name 5) (b_name 4))))) (ss_cons (s_set 7 hN (v_callX C__law_draw hG hgd hr (a_bag 0 (a_cons v_int a_nil)))) (ss_cons (s_par 8 9 hc hN (m_v (v_callX C__law_own_word hG hgd hr (a_bag 0 (a_cons (v_name 4) a_nil))) (m_v (v_callX C__law_own_word hG hgd hr (a_bag 0 (a_cons (v_callB (c_max2 hc) bl.max (bb_cons (PV.b v_int) (bb_cons (b_name 6) bb_nil))) a_nil))) m_nil))) (ss_cons (s_set 10 hN (v_if (t_cmp (o_eq hu) (b_name 7) (PV.b v_int)) (v_tup (d_cons (v_name 8) (d_cons (v_name 9) d_nil))) (v_tup (d_cons (v_name 9) (d_cons (v_name 8) d_nil))))) (ss_cons (s_set 11 hN (v_callX C__law_pick hG hgd hr (a_bag 0 (a_cons (PN.v (n_lst (d_cons v_int (d_cons (v_name 5) (d_cons (v_callX C__law_draw hG hgd hr (a_bag 0 (a_cons (v_bin o_add (b_name 5) (PV.b v_int)) a_nil))) d_nil))))) a_nil)))) (ss_cons (s_set 12 hN (v_bin o_add (PV.b (v_bin o_add (PV.b (v_bin o_repT (PV.b (v_tup (d_cons (v_name 7) d_nil))) (b_name 11))) (PV.b (v_bin o_repT (PV.b (v_tup (d_cons (v_bin o_sub (PV.b v_int) (b_name 7)) d_nil))) (PV.b (v_callB (c_min2 hc) bl.min (bb_cons (PV.b v_int) (bb_cons (b_name 6) bb_nil)))))))) (PV.b (v_bin o_repT (PV.b (v_tup (d_cons (v_name 7) d_nil))) (PV.b (v_bin o_sub (b_name 5) (b_name 11))))))) (ss_one (s_ret (v_tup (d_cons (v_name 10) (d_cons (v_name 12) d_nil))))))))))))))
theorem ok__law_at {P : Program} {w : World} {K : PySem.W.Frag} {mg : Str → Option Value} {base : Heap} {f : Addr} {fd : FuncData} (F : Fun K "_law_at" "_law_at" s__law_at f fd) (bl : Bl mg) (eh : ErH P K mg) (C__law_draw : Kn P w K mg base 2 "_law_draw" ["bag", "below"] S__law_draw) (C__law_own_word : Kn P w K mg base 2 "_law_own_word" ["bag", "many"] S__law_own_word) (C__law_pick : Kn P w K mg base 2 "_law_pick" ["bag", "some"] S__law_pick) : FnG IsLst P w K mg base 3 f fd ["bag", "most", "many"] S__law_at :=
  fng_of F sc__law_at m__law_at l__law_at fun cdv A outer s c hG hgd hr => ⟨g__law_at, der__law_at bl eh C__law_draw C__law_own_word C__law_pick hG hgd hr, r__law_at⟩
theorem sc_change_error : FnScope N_change_error ["value"] (defScope s_change_error) := ⟨rfl, rfl, rfl, by decide +kernel, rfl, by decide +kernel, by decide +kernel⟩
theorem der_change_error {P : Program} {w : World} {K : PySem.W.Frag} {mg : Str → Option Value} {base : Heap} {f : Addr} {cdv : Value} {A : Around} {outer : List PySem.Env} {s : Shared} {c : C} (bl : Bl mg) (eh : ErH P K mg) (C_is_tuple : Kn P w K mg base 3 "is_tuple" ["value", "many"] S_is_tuple) (C_is_any_word : Kn P w K mg base 3 "is_any_word" ["value"] S_is_any_word) (hG : IsLst c) (hgd : A.guards = some []) (hr : Room 3 (A.deeper (envOfC "change_error" (defScope s_change_error) s.heap.objs.size f cdv))) : PSsd (XX P w K mg base N_change_error "change_error" s_change_error f cdv A outer s c.H0) c (defBody s_change_error) g_change_error := by
  have hN : (XX P w K mg base N_change_error "change_error" s_change_error f cdv A outer s c.H0).N.Nodup := sc_change_error.nd
  have hc : (XX P w K mg base N_change_error "change_error" s_change_error f cdv A outer s c.H0).calm = true := rfl
  have hx : ∀ e s1, ¬ (XX P w K mg base N_change_error "change_error" s_change_error f cdv A outer s c.H0).xe e s1 := fun _ _ z => z
  have hp : PassesOwn (model P w) (XX P w K mg base N_change_error "change_error" s_change_error f cdv A outer s c.H0).A (XX P w K mg base N_change_error "change_error" s_change_error f cdv A outer s c.H0).env (XX P w K mg base N_change_error "change_error" s_change_error f cdv A outer s c.H0).xe := PassesOwn.never
  have hu : (XX P w K mg base N_change_error "change_error" s_change_error f cdv A outer s c.H0).A.units + 64 < cLine := units_of hr
  have hu5 : (XX P w K mg base N_change_error "change_error" s_change_error f cdv A outer s c.H0).A.units + 65 < cLine := units65 hr
  obtain ⟨_, h_MAX_IMAGE⟩ := bl.c_MAX_IMAGE
  exact (ss_cons (s_if (t_not (t_val (PV.b (v_callX C_is_tuple hG hgd hr (a_cons (v_name 0) (a_cons v_int a_nil)))))) (ss_one (s_ret v_str)) ss_nil) (ss_cons (s_lc 1 hc hN (own := [("i", 2), ("own", 3)]) (by first | rfl | decide +kernel) (i_enumT bl.enumerate (v_name 0)) (fun _ _ _ _ _ => (g_sq (by exact hc) (gs_cons (g_nm 2 (by exact hN)) (gs_cons (g_nm 3 (by exact hN)) gs_nil)))) (fun _ _ _ _ _ => (ts_one (PWd.t (w_or (t_not (t_val (PV.b (v_callX C_is_any_word hG (by exact hgd) (by exact hr) (a_cons (v_name 3) a_nil))))) (w_or1 (t_not (t_chain o_le o_le (PV.b v_int) (PV.b (v_callB c_len bl.len (bb_cons (b_name 3) bb_nil))) (PV.b (v_glob (i := 60) rfl h_MAX_IMAGE))))))))) (fun _ _ _ _ _ => (v_name 2))) (ss_one (s_ret (v_if (t_cmp (o_ne hu) (b_name 1) (PV.b (PN.v (n_lst d_nil)))) (v_tup (d_cons v_str (d_cons (v_ix (b_name 1) (PV.b v_int)) d_nil))) v_non)))))
theorem ok_change_error {P : Program} {w : World} {K : PySem.W.Frag} {mg : Str → Option Value} {base : Heap} {f : Addr} {fd : FuncData} (F : Fun K "change_error" "change_error" s_change_error f fd) (bl : Bl mg) (eh : ErH P K mg) (C_is_tuple : Kn P w K mg base 3 "is_tuple" ["value", "many"] S_is_tuple) (C_is_any_word : Kn P w K mg base 3 "is_any_word" ["value"] S_is_any_word) : FnG IsLst P w K mg base 4 f fd ["value"] S_change_error :=
  fng_of F sc_change_error m_change_error l_change_error fun cdv A outer s c hG hgd hr => ⟨g_change_error, der_change_error bl eh C_is_tuple C_is_any_word hG hgd hr, r_change_error⟩
theorem sc__law_ask_behind : FnScope N__law_ask_behind ["one", "other", "is_named"] (defScope s__law_ask_behind) := ⟨rfl, rfl, rfl, by decide +kernel, rfl, by decide +kernel, by decide +kernel⟩
theorem der__law_ask_behind {P : Program} {w : World} {K : PySem.W.Frag} {mg : Str → Option Value} {base : Heap} {f : Addr} {cdv : Value} {A : Around} {outer : List PySem.Env} {s : Shared} {c : C} (bl : Bl mg) (eh : ErH P K mg) (C_change_behind : KnE P w K mg base 3 "change_behind" ["one", "other"] S_change_behind) (K_change_behind_other_one : KnEK P w K mg base 3 "change_behind" ["one", "other"] ["other", "one"] [1, 0] S_change_behind) (hG : IsLst c) (hgd : A.guards = some []) (hr : Room 3 (A.deeper (envOfC "_law_ask_behind" (defScope s__law_ask_behind) s.heap.objs.size f cdv))) : PSsd (XX P w K mg base N__law_ask_behind "_law_ask_behind" s__law_ask_behind f cdv A outer s c.H0) c (defBody s__law_ask_behind) g__law_ask_behind := by
  have hN : (XX P w K mg base N__law_ask_behind "_law_ask_behind" s__law_ask_behind f cdv A outer s c.H0).N.Nodup := sc__law_ask_behind.nd
  have hc : (XX P w K mg base N__law_ask_behind "_law_ask_behind" s__law_ask_behind f cdv A outer s c.H0).calm = true := rfl
  have hx : ∀ e s1, ¬ (XX P w K mg base N__law_ask_behind "_law_ask_behind" s__law_ask_behind f cdv A outer s c.H0).xe e s1 := fun _ _ z => z
  have hp : PassesOwn (model P w) (XX P w K mg base N__law_ask_behind "_law_ask_behind" s__law_ask_behind f cdv A outer s c.H0).A (XX P w K mg base N__law_ask_behind "_law_ask_behind" s__law_ask_behind f cdv A outer s c.H0).env (XX P w K mg base N__law_ask_behind "_law_ask_behind" s__law_ask_behind f cdv A outer s c.H0).xe := PassesOwn.never
  have hu : (XX P w K mg base N__law_ask_behind "_law_ask_behind" s__law_ask_behind f cdv A outer s c.H0).A.units + 64 < cLine := units_of hr
  have hu5 : (XX P w K mg base N__law_ask_behind "_law_ask_behind" s__law_ask_behind f cdv A outer s c.H0).A.units + 65 < cLine := units65 hr
  exact (ss_one (s_try_as 3 hN (fun nm hn => eh.er.exm nm hn _ (by decide)) (eh.z _ (by decide)) takes_no (fun b0 h0 W1 pn xe tk1 hp => (ss_one (s_ret (PN.v (n_lst (d_cons v_int (d_cons (v_if (t_val (b_name 2)) (v_callEK K_change_behind_other_one tk1 hG hgd hr (k_cons (v_name 1) (k_cons (v_name 0) k_nil))) (v_callE C_change_behind tk1 hG hgd hr (a_cons (v_name 0) (a_cons (v_name 1) a_nil)))) d_nil))))))) (fun b0 h0 a oe d nm pn hnm hz hv => (ss_cons (s_set 4 hN (v_and (PV.b (v_is1 3 eh.er hnm hz hv bl.isinstance (pc_cls (eh.z _ (by decide)) pc_nil))) (v_one (v_is1 3 eh.er hnm hz hv bl.isinstance (pc_ve bl.ValueError pc_nil))))) (ss_cons (s_set 5 hN (v_isT 3 eh.er hnm hz hv bl.isinstance (pc_cls (eh.z _ (by decide)) (pc_cls (eh.z _ (by decide)) (pc_cls (eh.z _ (by decide)) (pc_cls (eh.z _ (by decide)) (pc_cls (eh.z _ (by decide)) (pc_cls (eh.z _ (by decide)) pc_nil)))))))) (ss_one (s_ret (PN.v (n_lst (d_cons v_int (d_cons (v_fld 3 eh.er eh.fl hnm hz hv) (d_cons (v_and (b_name 4) (v_one (v_not (b_name 5)))) d_nil))))))))))))
theorem ok__law_ask_behind {P : Program} {w : World} {K : PySem.W.Frag} {mg : Str → Option Value} {base : Heap} {f : Addr} {fd : FuncData} (F : Fun K "_law_ask_behind" "_law_ask_behind" s__law_ask_behind f fd) (bl : Bl mg) (eh : ErH P K mg) (C_change_behind : KnE P w K mg base 3 "change_behind" ["one", "other"] S_change_behind) (K_change_behind_other_one : KnEK P w K mg base 3 "change_behind" ["one", "other"] ["other", "one"] [1, 0] S_change_behind) : FnG IsLst P w K mg base 4 f fd ["one", "other", "is_named"] S__law_ask_behind :=
  fng_of F sc__law_ask_behind m__law_ask_behind l__law_ask_behind fun cdv A outer s c hG hgd hr => ⟨g__law_ask_behind, der__law_ask_behind bl eh C_change_behind K_change_behind_other_one hG hgd hr, r__law_ask_behind⟩
theorem sc__law_is_own : FnScope N__law_is_own ["told"] (defScope s__law_is_own) := ⟨rfl, rfl, rfl, by decide +kernel, rfl, by decide +kernel, by decide +kernel⟩
theorem der__law_is_own {P : Program} {w : World} {K : PySem.W.Frag} {mg : Str → Option Value} {base : Heap} {f : Addr} {cdv : Value} {A : Around} {outer : List PySem.Env} {s : Shared} {c : C} (bl : Bl mg) (eh : ErH P K mg) {kk : Nat} {Sr : Spec} (C_rec : Kn P w K mg base kk "_law_is_own" ["told"] Sr) (hG : IsLst c) (hgd : A.guards = some []) (hr : Room kk (A.deeper (envOfC "_law_is_own" (defScope s__law_is_own) s.heap.objs.size f cdv))) : PSsd (XX P w K mg base N__law_is_own "_law_is_own" s__law_is_own f cdv A outer s c.H0) c (defBody s__law_is_own) (g__law_is_own Sr) := by
  have hN : (XX P w K mg base N__law_is_own "_law_is_own" s__law_is_own f cdv A outer s c.H0).N.Nodup := sc__law_is_own.nd
  have hc : (XX P w K mg base N__law_is_own "_law_is_own" s__law_is_own f cdv A outer s c.H0).calm = true := rfl
  have hx : ∀ e s1, ¬ (XX P w K mg base N__law_is_own "_law_is_own" s__law_is_own f cdv A outer s c.H0).xe e s1 := fun _ _ z => z
  have hp : PassesOwn (model P w) (XX P w K mg base N__law_is_own "_law_is_own" s__law_is_own f cdv A outer s c.H0).A (XX P w K mg base N__law_is_own "_law_is_own" s__law_is_own f cdv A outer s c.H0).env (XX P w K mg base N__law_is_own "_law_is_own" s__law_is_own f cdv A outer s c.H0).xe := PassesOwn.never
  have hu : (XX P w K mg base N__law_is_own "_law_is_own" s__law_is_own f cdv A outer s c.H0).A.units + 64 < cLine := units_of hr
  have hu5 : (XX P w K mg base N__law_is_own "_law_is_own" s__law_is_own f cdv A outer s c.H0).A.units + 65 < cLine := units65 hr
  exact (ss_cons (s_if (t_val (PV.b (v_isi kit_tuple bl.isinstance bl.tuple (b_name 0)))) (ss_one (s_ret (v_callB (c_all hc) bl.all (bb_cons (PV.b (PN.v (n_lc hc hN (own := [("one", 1)]) (by first | rfl | decide +kernel) (i_seq (v_name 0)) (fun _ _ _ _ _ => (g_nm 1 (by exact hN))) (fun _ _ _ _ _ => ts_nil) (fun _ _ _ _ _ => (v_or (PV.b (v_isi kit_int bl.isinstance bl.int (b_name 1))) (v_one (v_callX C_rec hG (by exact hgd) (by exact hr) (a_cons (v_name 1) a_nil)))))))) bb_nil)))) ss_nil) (ss_one (s_ret (v_or (PV.b (v_cmp o_isN (b_name 0) (PV.b v_non))) (v_one (v_isi2 kit_int kit_str bl.isinstance bl.int bl.str (b_name 0)))))))
theorem ok__law_is_own {P : Program} {w : World} {K : PySem.W.Frag} {mg : Str → Option Value} {base : Heap} {f : Addr} {fd : FuncData} (F : Fun K "_law_is_own" "_law_is_own" s__law_is_own f fd) (bl : Bl mg) (eh : ErH P K mg) (hm : mg "_law_is_own" = some (.ref f)) (hk : PySem.W.keepIn K (.ref f) = true) (hb : Binds K fd ["told"] [])  : ∀ n : Nat, FnG IsLst P w K mg base (0 + n) f fd ["told"] (Sn__law_is_own n)
  | 0 => fng_zero z0__law_is_own
  | n + 1 => fng_of F sc__law_is_own (mn__law_is_own (n + 1)) (ln__law_is_own (n + 1)) fun cdv A outer s c hG hgd hr => ⟨g__law_is_own (Sn__law_is_own n), der__law_is_own bl eh (Kn.mk (ok__law_is_own F bl eh hm hk hb  n) hm hk hb)  hG hgd hr, r__law_is_own n⟩
theorem sc__law_is_same : FnScope N__law_is_same ["told", "due"] (defScope s__law_is_same) := ⟨rfl, rfl, rfl, by decide +kernel, rfl, by decide +kernel, by decide +kernel⟩
theorem der__law_is_same {P : Program} {w : World} {K : PySem.W.Frag} {mg : Str → Option Value} {base : Heap} {f : Addr} {cdv : Value} {A : Around} {outer : List PySem.Env} {s : Shared} {c : C} (bl : Bl mg) (eh : ErH P K mg) (C__law_is_own : Kn P w K mg base 5 "_law_is_own" ["told"] S__law_is_own) (hG : IsLst c) (hgd : A.guards = some []) (hr : Room 5 (A.deeper (envOfC "_law_is_same" (defScope s__law_is_same) s.heap.objs.size f cdv))) : PSsd (XX P w K mg base N__law_is_same "_law_is_same" s__law_is_same f cdv A outer s c.H0) c (defBody s__law_is_same) g__law_is_same := by
  have hN : (XX P w K mg base N__law_is_same "_law_is_same" s__law_is_same f cdv A outer s c.H0).N.Nodup := sc__law_is_same.nd
  have hc : (XX P w K mg base N__law_is_same "_law_is_same" s__law_is_same f cdv A outer s c.H0).calm = true := rfl
  have hx : ∀ e s1, ¬ (XX P w K mg base N__law_is_same "_law_is_same" s__law_is_same f cdv A outer s c.H0).xe e s1 := fun _ _ z => z
  have hp : PassesOwn (model P w) (XX P w K mg base N__law_is_same "_law_is_same" s__law_is_same f cdv A outer s c.H0).A (XX P w K mg base N__law_is_same "_law_is_same" s__law_is_same f cdv A outer s c.H0).env (XX P w K mg base N__law_is_same "_law_is_same" s__law_is_same f cdv A outer s c.H0).xe := PassesOwn.never
  have hu : (XX P w K mg base N__law_is_same "_law_is_same" s__law_is_same f cdv A outer s c.H0).A.units + 64 < cLine := units_of hr
  have hu5 : (XX P w K mg base N__law_is_same "_law_is_same" s__law_is_same f cdv A outer s c.H0).A.units + 65 < cLine := units65 hr
  exact (ss_one (s_ret (v_and (PV.b (v_callX C__law_is_own hG hgd hr (a_cons (v_name 0) a_nil))) (v_one (v_cmp (o_eq hu) (PV.b (v_callB (c_reprA hgd hu) bl.repr (bb_cons (b_name 0) bb_nil))) (PV.b (v_callB (c_reprA hgd hu) bl.repr (bb_cons (b_name 1) bb_nil))))))))
theorem ok__law_is_same {P : Program} {w : World} {K : PySem.W.Frag} {mg : Str → Option Value} {base : Heap} {f : Addr} {fd : FuncData} (F : Fun K "_law_is_same" "_law_is_same" s__law_is_same f fd) (bl : Bl mg) (eh : ErH P K mg) (C__law_is_own : Kn P w K mg base 5 "_law_is_own" ["told"] S__law_is_own) : FnG IsLst P w K mg base 6 f fd ["told", "due"] S__law_is_same :=
  fng_of F sc__law_is_same m__law_is_same l__law_is_same fun cdv A outer s c hG hgd hr => ⟨g__law_is_same, der__law_is_same bl eh C__law_is_own hG hgd hr, r__law_is_same⟩
theorem sc__law_is_put_right : FnScope N__law_is_put_right ["change", "word", "is_named"] (defScope s__law_is_put_right) := ⟨rfl, rfl, rfl, by decide +kernel, rfl, by decide +kernel, by decide +kernel⟩
theorem der__law_is_put_right {P : Program} {w : World} {K : PySem.W.Frag} {mg : Str → Option Value} {base : Heap} {f : Addr} {cdv : Value} {A : Around} {outer : List PySem.Env} {s : Shared} {c : C} (bl : Bl mg) (eh : ErH P K mg) (C__law_ask_put : Kn P w K mg base 6 "_law_ask_put" ["change", "word", "is_named"] S__law_ask_put) (C__law_size : Kn P w K mg base 6 "_law_size" ["change", "word"] S__law_size) (C__law_is_same : Kn P w K mg base 6 "_law_is_same" ["told", "due"] S__law_is_same) (C__law_put : Kn P w K mg base 6 "_law_put" ["change", "word"] S__law_put) (hG : IsLst c) (hgd : A.guards = some []) (hr : Room 6 (A.deeper (envOfC "_law_is_put_right" (defScope s__law_is_put_right) s.heap.objs.size f cdv))) : PSsd (XX P w K mg base N__law_is_put_right "_law_is_put_right" s__law_is_put_right f cdv A outer s c.H0) c (defBody s__law_is_put_right) g__law_is_put_right := by
  have hN : (XX P w K mg base N__law_is_put_right "_law_is_put_right" s__law_is_put_right f cdv A outer s c.H0).N.Nodup := sc__law_is_put_right.nd
  have hc : (XX P w K mg base N__law_is_put_right "_law_is_put_right" s__law_is_put_right f cdv A outer s c.H0).calm = true := rfl
  have hx : ∀ e s1, ¬ (XX P w K mg base N__law_is_put_right "_law_is_put_right" s__law_is_put_right f cdv A outer s c.H0).xe e s1 := fun _ _ z => z
  have hp : PassesOwn (model P w) (XX P w K mg base N__law_is_put_right "_law_is_put_right" s__law_is_put_right f cdv A outer s c.H0).A (XX P w K mg base N__law_is_put_right "_law_is_put_right" s__law_is_put_right f cdv A outer s c.H0).env (XX P w K mg base N__law_is_put_right "_law_is_put_right" s__law_is_put_right f cdv A outer s c.H0).xe := PassesOwn.never
  have hu : (XX P w K mg base N__law_is_put_right "_law_is_put_right" s__law_is_put_right f cdv A outer s c.H0).A.units + 64 < cLine := units_of hr
  have hu5 : (XX P w K mg base N__law_is_put_right "_law_is_put_right" s__law_is_put_right f cdv A outer s c.H0).A.units + 65 < cLine := units65 hr
  exact (ss_cons (s_set 3 hN (v_callB (c_reprA hgd hu) bl.repr (bb_cons (PV.b (PN.v (n_lst (d_cons (v_name 0) (d_cons (v_name 1) d_nil))))) bb_nil))) (ss_cons (s_set 4 hN (v_callX C__law_ask_put hG hgd hr (a_cons (v_name 0) (a_cons (v_name 1) (a_cons (v_name 2) a_nil))))) (ss_cons (s_if (t_cmp o_gt (PV.b (v_callX C__law_size hG hgd hr (a_cons (v_name 0) (a_cons (v_name 1) a_nil)))) (PV.b v_int)) (ss_one (s_ret (v_cmp (o_eq hu) (PV.b (v_callB (c_reprA hgd hu) bl.repr (bb_cons (b_name 4) bb_nil))) (PV.b (v_callB (c_reprA hgd hu) bl.repr (bb_cons (PV.b (PN.v (n_lst (d_cons v_int (d_cons v_int (d_cons v_bl d_nil)))))) bb_nil)))))) ss_nil) (ss_one (s_ret (v_and (PV.b (v_cmp (o_eq hu) (PV.b (v_ix (b_name 4) (PV.b v_int))) (PV.b v_int))) (v_and (PV.b (v_callX C__law_is_same hG hgd hr (a_cons (v_ix (b_name 4) (PV.b v_int)) (a_cons (v_callX C__law_put hG hgd hr (a_cons (v_name 0) (a_cons (v_name 1) a_nil))) a_nil)))) (v_one (v_cmp (o_eq hu) (PV.b (v_callB (c_reprA hgd hu) bl.repr (bb_cons (PV.b (PN.v (n_lst (d_cons (v_name 0) (d_cons (v_name 1) d_nil))))) bb_nil))) (b_name 3))))))))))
theorem ok__law_is_put_right {P : Program} {w : World} {K : PySem.W.Frag} {mg : Str → Option Value} {base : Heap} {f : Addr} {fd : FuncData} (F : Fun K "_law_is_put_right" "_law_is_put_right" s__law_is_put_right f fd) (bl : Bl mg) (eh : ErH P K mg) (C__law_ask_put : Kn P w K mg base 6 "_law_ask_put" ["change", "word", "is_named"] S__law_ask_put) (C__law_size : Kn P w K mg base 6 "_law_size" ["change", "word"] S__law_size) (C__law_is_same : Kn P w K mg base 6 "_law_is_same" ["told", "due"] S__law_is_same) (C__law_put : Kn P w K mg base 6 "_law_put" ["change", "word"] S__law_put) : FnG IsLst P w K mg base 7 f fd ["change", "word", "is_named"] S__law_is_put_right :=
  fng_of F sc__law_is_put_right m__law_is_put_right l__law_is_put_right fun cdv A outer s c hG hgd hr => ⟨g__law_is_put_right, der__law_is_put_right bl eh C__law_ask_put C__law_size C__law_is_same C__law_put hG hgd hr, r__law_is_put_right⟩
theorem sc__law_is_behind_right : FnScope N__law_is_behind_right ["one", "other", "is_named"] (defScope s__law_is_behind_right) := ⟨rfl, rfl, rfl, by decide +kernel, rfl, by decide +kernel, by decide +kernel⟩
theorem der__law_is_behind_right {P : Program} {w : World} {K : PySem.W.Frag} {mg : Str → Option Value} {base : Heap} {f : Addr} {cdv : Value} {A : Around} {outer : List PySem.Env} {s : Shared} {c : C} (bl : Bl mg) (eh : ErH P K mg) (C__law_ask_behind : Kn P w K mg base 6 "_law_ask_behind" ["one", "other", "is_named"] S__law_ask_behind) (C__law_size : Kn P w K mg base 6 "_law_size" ["change", "word"] S__law_size) (C__law_put : Kn P w K mg base 6 "_law_put" ["change", "word"] S__law_put) (C__law_is_same : Kn P w K mg base 6 "_law_is_same" ["told", "due"] S__law_is_same) (C_change_table : Kn P w K mg base 6 "change_table" ["change"] S_change_table) (C__law_table : Kn P w K mg base 6 "_law_table" ["change"] S__law_table) (C__law_product : Kn P w K mg base 6 "_law_product" ["one", "other"] S__law_product) (K_change_table_change : KnK P w K mg base 6 "change_table" ["change"] ["change"] [0] S_change_table) (hG : IsLst c) (hgd : A.guards = some []) (hr : Room 6 (A.deeper (envOfC "_law_is_behind_right" (defScope s__law_is_behind_right) s.heap.objs.size f cdv))) : PSsd (XX P w K mg base N__law_is_behind_right "_law_is_behind_right" s__law_is_behind_right f cdv A outer s c.H0) c (defBody s__law_is_behind_right) g__law_is_behind_right := by
  have hN : (XX P w K mg base N__law_is_behind_right "_law_is_behind_right" s__law_is_behind_right f cdv A outer s c.H0).N.Nodup := sc__law_is_behind_right.nd
  have hc : (XX P w K mg base N__law_is_behind_right "_law_is_behind_right" s__law_is_behind_right f cdv A outer s c.H0).calm = true := rfl
  have hx : ∀ e s1, ¬ (XX P w K mg base N__law_is_behind_right "_law_is_behind_right" s__law_is_behind_right f cdv A outer s c.H0).xe e s1 := fun _ _ z => z
  have hp : PassesOwn (model P w) (XX P w K mg base N__law_is_behind_right "_law_is_behind_right" s__law_is_behind_right f cdv A outer s c.H0).A (XX P w K mg base N__law_is_behind_right "_law_is_behind_right" s__law_is_behind_right f cdv A outer s c.H0).env (XX P w K mg base N__law_is_behind_right "_law_is_behind_right" s__law_is_behind_right f cdv A outer s c.H0).xe := PassesOwn.never
  have hu : (XX P w K mg base N__law_is_behind_right "_law_is_behind_right" s__law_is_behind_right f cdv A outer s c.H0).A.units + 64 < cLine := units_of hr
  have hu5 : (XX P w K mg base N__law_is_behind_right "_law_is_behind_right" s__law_is_behind_right f cdv A outer s c.H0).A.units + 65 < cLine := units65 hr
  exact (ss_cons (s_set 3 hN (v_callB (c_reprA hgd hu) bl.repr (bb_cons (PV.b (PN.v (n_lst (d_cons (v_name 0) (d_cons (v_name 1) d_nil))))) bb_nil))) (ss_cons (s_set 4 hN (v_callX C__law_ask_behind hG hgd hr (a_cons (v_name 0) (a_cons (v_name 1) (a_cons (v_name 2) a_nil))))) (ss_cons (s_if (t_cmp o_gt (PV.b (v_callB (c_maxL hc) bl.max (bb_cons (PV.b (PN.v (n_lc hc hN (own := [("word", 5)]) (by first | rfl | decide +kernel) (i_seq (v_name 0)) (fun _ _ _ _ _ => (g_nm 5 (by exact hN))) (fun _ _ _ _ _ => ts_nil) (fun _ _ _ _ _ => (v_callX C__law_size hG (by exact hgd) (by exact hr) (a_cons (v_name 1) (a_cons (v_name 5) a_nil))))))) bb_nil))) (PV.b v_int)) (ss_one (s_ret (v_cmp (o_eq hu) (PV.b (v_callB (c_reprA hgd hu) bl.repr (bb_cons (b_name 4) bb_nil))) (PV.b (v_callB (c_reprA hgd hu) bl.repr (bb_cons (PV.b (PN.v (n_lst (d_cons v_int (d_cons v_int (d_cons v_bl d_nil)))))) bb_nil)))))) ss_nil) (ss_cons (s_set 6 hN (v_tup (d_cons (v_callX C__law_put hG hgd hr (a_cons (v_name 1) (a_cons (v_ix (b_name 0) (PV.b v_int)) a_nil))) (d_cons (v_callX C__law_put hG hgd hr (a_cons (v_name 1) (a_cons (v_ix (b_name 0) (PV.b v_int)) a_nil))) d_nil)))) (ss_cons (s_if (PWd.t (w_or (t_cmp (o_ne hu) (PV.b (v_ix (b_name 4) (PV.b v_int))) (PV.b v_int)) (w_or (t_not (t_val (PV.b (v_callX C__law_is_same hG hgd hr (a_cons (v_ix (b_name 4) (PV.b v_int)) (a_cons (v_name 6) a_nil)))))) (w_or1 (t_cmp (o_ne hu) (PV.b (v_callB (c_reprA hgd hu) bl.repr (bb_cons (PV.b (PN.v (n_lst (d_cons (v_name 0) (d_cons (v_name 1) d_nil))))) bb_nil))) (b_name 3)))))) (ss_one (s_ret v_bl)) ss_nil) (ss_cons (s_set 7 hN (v_if (t_val (b_name 2)) (v_callX C_change_table hG hgd hr (a_cons (v_ix (b_name 4) (PV.b v_int)) a_nil)) (v_callKX K_change_table_change hG hgd hr (k_cons (v_ix (b_name 4) (PV.b v_int)) k_nil)))) (ss_cons (s_if (t_not (t_val (PV.b (v_callX C__law_is_same hG hgd hr (a_cons (v_name 7) (a_cons (v_callX C__law_table hG hgd hr (a_cons (v_name 6) a_nil)) a_nil)))))) (ss_one (s_ret v_bl)) ss_nil) (ss_one (s_ret (v_callX C__law_is_same hG hgd hr (a_cons (v_name 7) (a_cons (v_callX C__law_product hG hgd hr (a_cons (v_callX C_change_table hG hgd hr (a_cons (v_name 0) a_nil)) (a_cons (v_callX C_change_table hG hgd hr (a_cons (v_name 1) a_nil)) a_nil))) a_nil))))))))))))
theorem ok__law_is_behind_right {P : Program} {w : World} {K : PySem.W.Frag} {mg : Str → Option Value} {base : Heap} {f : Addr} {fd : FuncData} (F : Fun K "_law_is_behind_right" "_law_is_behind_right" s__law_is_behind_right f fd) (bl : Bl mg) (eh : ErH P K mg) (C__law_ask_behind : Kn P w K mg base 6 "_law_ask_behind" ["one", "other", "is_named"] S__law_ask_behind) (C__law_size : Kn P w K mg base 6 "_law_size" ["change", "word"] S__law_size) (C__law_put : Kn P w K mg base 6 "_law_put" ["change", "word"] S__law_put) (C__law_is_same : Kn P w K mg base 6 "_law_is_same" ["told", "due"] S__law_is_same) (C_change_table : Kn P w K mg base 6 "change_table" ["change"] S_change_table) (C__law_table : Kn P w K mg base 6 "_law_table" ["change"] S__law_table) (C__law_product : Kn P w K mg base 6 "_law_product" ["one", "other"] S__law_product) (K_change_table_change : KnK P w K mg base 6 "change_table" ["change"] ["change"] [0] S_change_table) : FnG IsLst P w K mg base 7 f fd ["one", "other", "is_named"] S__law_is_behind_right :=
  fng_of F sc__law_is_behind_right m__law_is_behind_right l__law_is_behind_right fun cdv A outer s c hG hgd hr => ⟨g__law_is_behind_right, der__law_is_behind_right bl eh C__law_ask_behind C__law_size C__law_put C__law_is_same C_change_table C__law_table C__law_product K_change_table_change hG hgd hr, r__law_is_behind_right⟩
theorem sc__law_are_ways_right : FnScope N__law_are_ways_right ["one", "other", "word"] (defScope s__law_are_ways_right) := ⟨rfl, rfl, rfl, by decide +kernel, rfl, by decide +kernel, by decide +kernel⟩
theorem der__law_are_ways_right {P : Program} {w : World} {K : PySem.W.Frag} {mg : Str → Option Value} {base : Heap} {f : Addr} {cdv : Value} {A : Around} {outer : List PySem.Env} {s : Shared} {c : C} (bl : Bl mg) (eh : ErH P K mg) (C__law_size : Kn P w K mg base 6 "_law_size" ["change", "word"] S__law_size) (C_put_through : KnE P w K mg base 6 "put_through" ["change", "word"] S_put_through) (C_change_behind : KnE P w K mg base 6 "change_behind" ["one", "other"] S_change_behind) (C__law_is_same : Kn P w K mg base 6 "_law_is_same" ["told", "due"] S__law_is_same) (hG : IsLst c) (hgd : A.guards = some []) (hr : Room 6 (A.deeper (envOfC "_law_are_ways_right" (defScope s__law_are_ways_right) s.heap.objs.size f cdv))) : PSsd (XX P w K mg base N__law_are_ways_right "_law_are_ways_right" s__law_are_ways_right f cdv A outer s c.H0) c (defBody s__law_are_ways_right) g__law_are_ways_right := by
  have hN : (XX P w K mg base N__law_are_ways_right "_law_are_ways_right" s__law_are_ways_right f cdv A outer s c.H0).N.Nodup := sc__law_are_ways_right.nd
  have hc : (XX P w K mg base N__law_are_ways_right "_law_are_ways_right" s__law_are_ways_right f cdv A outer s c.H0).calm = true := rfl
  have hx : ∀ e s1, ¬ (XX P w K mg base N__law_are_ways_right "_law_are_ways_right" s__law_are_ways_right f cdv A outer s c.H0).xe e s1 := fun _ _ z => z
  have hp : PassesOwn (model P w) (XX P w K mg base N__law_are_ways_right "_law_are_ways_right" s__law_are_ways_right f cdv A outer s c.H0).A (XX P w K mg base N__law_are_ways_right "_law_are_ways_right" s__law_are_ways_right f cdv A outer s c.H0).env (XX P w K mg base N__law_are_ways_right "_law_are_ways_right" s__law_are_ways_right f cdv A outer s c.H0).xe := PassesOwn.never
  have hu : (XX P w K mg base N__law_are_ways_right "_law_are_ways_right" s__law_are_ways_right f cdv A outer s c.H0).A.units + 64 < cLine := units_of hr
  have hu5 : (XX P w K mg base N__law_are_ways_right "_law_are_ways_right" s__law_are_ways_right f cdv A outer s c.H0).A.units + 65 < cLine := units65 hr
  exact (ss_cons (s_if (PWd.t (w_or (t_cmp o_gt (PV.b (v_callX C__law_size hG hgd hr (a_cons (v_name 0) (a_cons (v_name 2) a_nil)))) (PV.b v_int)) (w_or1 (t_cmp o_gt (PV.b (v_callB (c_maxL hc) bl.max (bb_cons (PV.b (PN.v (n_lc hc hN (own := [("image", 3)]) (by first | rfl | decide +kernel) (i_seq (v_name 0)) (fun _ _ _ _ _ => (g_nm 3 (by exact hN))) (fun _ _ _ _ _ => ts_nil) (fun _ _ _ _ _ => (v_callX C__law_size hG (by exact hgd) (by exact hr) (a_cons (v_name 1) (a_cons (v_name 3) a_nil))))))) bb_nil))) (PV.b v_int))))) (ss_one (s_ret v_bl)) ss_nil) (ss_cons (s_par 4 5 hc hN (m_v (v_callE C_change_behind takes_no hG hgd hr (a_cons (v_name 0) (a_cons (v_name 1) a_nil))) (m_v (v_callE C_put_through takes_no hG hgd hr (a_cons (v_name 0) (a_cons (v_name 2) a_nil))) m_nil))) (ss_cons (s_if (PWd.t (w_and (t_cmp o_le (PV.b (v_callX C__law_size hG hgd hr (a_cons (v_name 1) (a_cons (v_name 5) a_nil)))) (PV.b v_int)) (w_and1 (t_cmp (o_ne hu) (PV.b (v_callB (c_reprA hgd hu) bl.repr (bb_cons (PV.b (v_callE C_put_through takes_no hG hgd hr (a_cons (v_name 4) (a_cons (v_name 2) a_nil)))) bb_nil))) (PV.b (v_callB (c_reprA hgd hu) bl.repr (bb_cons (PV.b (v_callE C_put_through takes_no hG hgd hr (a_cons (v_name 1) (a_cons (v_name 5) a_nil)))) bb_nil))))))) (ss_one (s_ret v_bl)) ss_nil) (ss_cons (s_set 6 hN (v_tup (d_cons (v_tup (d_cons v_int d_nil)) (d_cons (v_tup (d_cons v_int d_nil)) d_nil)))) (ss_cons (s_if (PWd.t (w_or (t_not (t_val (PV.b (v_callX C__law_is_same hG hgd hr (a_cons (v_callE C_change_behind takes_no hG hgd hr (a_cons (v_name 6) (a_cons (v_name 0) a_nil))) (a_cons (v_name 0) a_nil)))))) (w_or1 (t_not (t_val (PV.b (v_callX C__law_is_same hG hgd hr (a_cons (v_callE C_change_behind takes_no hG hgd hr (a_cons (v_name 0) (a_cons (v_name 6) a_nil))) (a_cons (v_name 0) a_nil))))))))) (ss_one (s_ret v_bl)) ss_nil) (ss_cons (s_set 7 hN (v_tup (d_cons (v_tup (d_cons v_int d_nil)) (d_cons (v_tup (d_cons v_int d_nil)) d_nil)))) (ss_cons (s_set 8 hN (v_callE C_change_behind takes_no hG hgd hr (a_cons (v_name 7) (a_cons (v_name 0) a_nil)))) (ss_cons (s_if (t_not (t_val (PV.b (v_callX C__law_is_same hG hgd hr (a_cons (v_name 8) (a_cons (v_tup (d_cons (v_ix (b_name 0) (PV.b v_int)) (d_cons (v_ix (b_name 0) (PV.b v_int)) d_nil))) a_nil)))))) (ss_one (s_ret v_bl)) ss_nil) (ss_one (s_ret (v_cmp (o_eq hu) (PV.b (v_callB (c_reprA hgd hu) bl.repr (bb_cons (PV.b (v_callE C_change_behind takes_no hG hgd hr (a_cons (v_name 7) (a_cons (v_name 4) a_nil)))) bb_nil))) (PV.b (v_callB (c_reprA hgd hu) bl.repr (bb_cons (PV.b (v_callE C_change_behind takes_no hG hgd hr (a_cons (v_name 8) (a_cons (v_name 1) a_nil)))) bb_nil))))))))))))))
theorem ok__law_are_ways_right {P : Program} {w : World} {K : PySem.W.Frag} {mg : Str → Option Value} {base : Heap} {f : Addr} {fd : FuncData} (F : Fun K "_law_are_ways_right" "_law_are_ways_right" s__law_are_ways_right f fd) (bl : Bl mg) (eh : ErH P K mg) (C__law_size : Kn P w K mg base 6 "_law_size" ["change", "word"] S__law_size) (C_put_through : KnE P w K mg base 6 "put_through" ["change", "word"] S_put_through) (C_change_behind : KnE P w K mg base 6 "change_behind" ["one", "other"] S_change_behind) (C__law_is_same : Kn P w K mg base 6 "_law_is_same" ["told", "due"] S__law_is_same) : FnG IsLst P w K mg base 7 f fd ["one", "other", "word"] S__law_are_ways_right :=
  fng_of F sc__law_are_ways_right m__law_are_ways_right l__law_are_ways_right fun cdv A outer s c hG hgd hr => ⟨g__law_are_ways_right, der__law_are_ways_right bl eh C__law_size C_put_through C_change_behind C__law_is_same hG hgd hr, r__law_are_ways_right⟩
theorem sc__law_are_errors_right : FnScope N__law_are_errors_right ["bag", "change"] (defScope s__law_are_errors_right) := ⟨rfl, rfl, rfl, by decide +kernel, rfl, by decide +kernel, by decide +kernel⟩
theorem der__law_are_errors_right {P : Program} {w : World} {K : PySem.W.Frag} {mg : Str → Option Value} {base : Heap} {f : Addr} {cdv : Value} {A : Around} {outer : List PySem.Env} {s : Shared} {c : C} (bl : Bl mg) (eh : ErH P K mg) (C__law_pick : Kn P w K mg base 6 "_law_pick" ["bag", "some"] S__law_pick) (C__law_odd_words : Kn P w K mg base 6 "_law_odd_words" ["bag", "word"] S__law_odd_words) (C__law_due_error : Kn P w K mg base 6 "_law_due_error" ["value"] S__law_due_error) (C_change_error : Kn P w K mg base 6 "change_error" ["value"] S_change_error) (C__law_is_same : Kn P w K mg base 6 "_law_is_same" ["told", "due"] S__law_is_same) (K_change_error_value : KnK P w K mg base 6 "change_error" ["value"] ["value"] [0] S_change_error) (hG : IsLst c) (hgd : A.guards = some []) (hr : Room 6 (A.deeper (envOfC "_law_are_errors_right" (defScope s__law_are_errors_right) s.heap.objs.size f cdv))) : PSsd (XX P w K mg base N__law_are_errors_right "_law_are_errors_right" s__law_are_errors_right f cdv A outer s c.H0) c (defBody s__law_are_errors_right) g__law_are_errors_right := by
  have hN : (XX P w K mg base N__law_are_errors_right "_law_are_errors_right" s__law_are_errors_right f cdv A outer s c.H0).N.Nodup := sc__law_are_errors_right.nd
  have hc : (XX P w K mg base N__law_are_errors_right "_law_are_errors_right" s__law_are_errors_right f cdv A outer s c.H0).calm = true := rfl
  have hx : ∀ e s1, ¬ (XX P w K mg base N__law_are_errors_right "_law_are_errors_right" s__law_are_errors_right f cdv A outer s c.H0).xe e s1 := fun _ _ z => z
  have hp : PassesOwn (model P w) (XX P w K mg base N__law_are_errors_right "_law_are_errors_right" s__law_are_errors_right f cdv A outer s c.H0).A (XX P w K mg base N__law_are_errors_right "_law_are_errors_right" s__law_are_errors_right f cdv A outer s c.H0).env (XX P w K mg base N__law_are_errors_right "_law_are_errors_right" s__law_are_errors_right f cdv A outer s c.H0).xe := PassesOwn.never
  have hu : (XX P w K mg base N__law_are_errors_right "_law_are_errors_right" s__law_are_errors_right f cdv A outer s c.H0).A.units + 64 < cLine := units_of hr
  have hu5 : (XX P w K mg base N__law_are_errors_right "_law_are_errors_right" s__law_are_errors_right f cdv A outer s c.H0).A.units + 65 < cLine := units65 hr
  exact (ss_cons (s_setN 2 hN (n_lst (d_cons (v_name 1) (d_cons (PN.v (n_list bl.list (b_name 1))) (d_cons (v_slT (b_name 1) po_n (po_s (PV.b v_int))) (d_cons (v_bin o_add (b_name 1) (PV.b (v_tup (d_cons (v_ix (b_name 1) (PV.b v_int)) d_nil)))) (d_cons (v_bin o_add (b_name 1) (PV.b (v_tup (d_cons (v_tup d_nil) d_nil)))) (d_cons (v_tup d_nil) (d_cons (v_tup (d_cons (v_name 1) d_nil)) d_nil))))))))) (ss_cons (s_app 2 (v_tup (d_cons (v_name 1) (d_cons (v_name 1) d_nil)))) (ss_cons (s_set 3 hN (PN.v (n_lst (d_cons v_non (d_cons v_bl (d_cons v_int (d_cons v_str (d_cons v_str (d_cons (PN.v (n_lst d_nil)) (d_cons v_dict0 (d_cons (v_dict2 pk_int pk_int (v_tup (d_cons v_int d_nil)) (v_tup (d_cons v_int d_nil))) (d_cons (v_tup (d_cons v_int (d_cons v_int d_nil))) (d_cons (v_tup (d_cons (v_tup (d_cons v_int d_nil)) (d_cons v_int d_nil))) (d_cons (PN.v (n_lst (d_cons (v_tup (d_cons v_int d_nil)) (d_cons (v_tup (d_cons v_int d_nil)) d_nil)))) d_nil)))))))))))))) (ss_cons (s_app 2 (v_callX C__law_pick hG hgd hr (a_bag 0 (a_cons (v_name 3) a_nil)))) (ss_cons (s_for hp hc (i_seq (PN.v (n_lrng1 hc bl.list bl.range (PV.b v_int)))) (g_nm 4 hN) (ss_one (s_for hp hc (i_seq (v_callX C__law_odd_words hG hgd hr (a_bag 0 (a_cons (v_ix (b_name 1) (b_name 4)) a_nil)))) (g_nm 5 hN) (ss_one (s_app 2 (v_if (t_cmp (o_eq hu) (b_name 4) (PV.b v_int)) (v_tup (d_cons (v_name 5) (d_cons (v_ix (b_name 1) (PV.b v_int)) d_nil))) (v_tup (d_cons (v_ix (b_name 1) (PV.b v_int)) (d_cons (v_name 5) d_nil))))))))) (ss_cons (s_set 3 hN (v_callX C__law_odd_words hG hgd hr (a_bag 0 (a_cons (v_ix (b_name 1) (PV.b v_int)) a_nil)))) (ss_cons (s_app 2 (v_tup (d_cons (v_callX C__law_pick hG hgd hr (a_bag 0 (a_cons (v_name 3) a_nil))) (d_cons (v_callX C__law_pick hG hgd hr (a_bag 0 (a_cons (v_name 3) a_nil))) d_nil)))) (ss_cons (s_app 2 (v_tup (d_cons (v_callX C__law_pick hG hgd hr (a_bag 0 (a_cons (v_name 3) a_nil))) (d_cons (v_callX C__law_pick hG hgd hr (a_bag 0 (a_cons (v_name 3) a_nil))) (d_cons (v_ix (b_name 1) (PV.b v_int)) d_nil))))) (ss_cons (s_app 2 (PN.v (n_lst (d_cons (v_callX C__law_pick hG hgd hr (a_bag 0 (a_cons (v_name 3) a_nil))) (d_cons (v_ix (b_name 1) (PV.b v_int)) d_nil))))) (ss_cons (s_frz 2 (s_for hp hc (i_enum bl.enumerate (v_name 2)) (g_sq hc (gs_cons (g_nm 6 hN) (gs_cons (g_nm 7 hN) gs_nil))) (ss_cons (s_par 8 9 hc hN (m_v (v_callX C__law_due_error hG hgd hr (a_cons (v_name 7) a_nil)) (m_v (v_callB (c_reprA hgd hu) bl.repr (bb_cons (b_name 7) bb_nil)) m_nil))) (ss_cons (s_set 10 hN (v_if (t_cmp (o_eq hu) (PV.b (v_bin o_mod (PV.b (v_callT c_int bl.int (bb_cons (b_name 6) bb_nil))) (PV.b v_int))) (PV.b v_int)) (v_callKX K_change_error_value hG hgd hr (k_cons (v_name 7) k_nil)) (v_callX C_change_error hG hgd hr (a_cons (v_name 7) a_nil)))) (ss_one (s_if (PWd.t (w_or (t_not (t_val (PV.b (v_callX C__law_is_same hG hgd hr (a_cons (v_name 10) (a_cons (v_name 8) a_nil)))))) (w_or1 (t_cmp (o_ne hu) (PV.b (v_callB (c_reprA hgd hu) bl.repr (bb_cons (b_name 7) bb_nil))) (b_name 9))))) (ss_one (s_ret v_bl)) ss_nil)))))) (ss_one (s_ret v_bl))))))))))))
theorem ok__law_are_errors_right {P : Program} {w : World} {K : PySem.W.Frag} {mg : Str → Option Value} {base : Heap} {f : Addr} {fd : FuncData} (F : Fun K "_law_are_errors_right" "_law_are_errors_right" s__law_are_errors_right f fd) (bl : Bl mg) (eh : ErH P K mg) (C__law_pick : Kn P w K mg base 6 "_law_pick" ["bag", "some"] S__law_pick) (C__law_odd_words : Kn P w K mg base 6 "_law_odd_words" ["bag", "word"] S__law_odd_words) (C__law_due_error : Kn P w K mg base 6 "_law_due_error" ["value"] S__law_due_error) (C_change_error : Kn P w K mg base 6 "change_error" ["value"] S_change_error) (C__law_is_same : Kn P w K mg base 6 "_law_is_same" ["told", "due"] S__law_is_same) (K_change_error_value : KnK P w K mg base 6 "change_error" ["value"] ["value"] [0] S_change_error) : FnG IsLst P w K mg base 7 f fd ["bag", "change"] S__law_are_errors_right :=
  fng_of F sc__law_are_errors_right m__law_are_errors_right l__law_are_errors_right fun cdv A outer s c hG hgd hr => ⟨g__law_are_errors_right, der__law_are_errors_right bl eh C__law_pick C__law_odd_words C__law_due_error C_change_error C__law_is_same K_change_error_value hG hgd hr, r__law_are_errors_right⟩
theorem sc__law_are_limits_right : FnScope N__law_are_limits_right ["bag"] (defScope s__law_are_limits_right) := ⟨rfl, rfl, rfl, by decide +kernel, rfl, by decide +kernel, by decide +kernel⟩
theorem der__law_are_limits_right {P : Program} {w : World} {K : PySem.W.Frag} {mg : Str → Option Value} {base : Heap} {f : Addr} {cdv : Value} {A : Around} {outer : List PySem.Env} {s : Shared} {c : C} (bl : Bl mg) (eh : ErH P K mg) (C__law_pick : Kn P w K mg base 7 "_law_pick" ["bag", "some"] S__law_pick) (C__law_at : Kn P w K mg base 7 "_law_at" ["bag", "most", "many"] S__law_at) (C__law_is_put_right : Kn P w K mg base 7 "_law_is_put_right" ["change", "word", "is_named"] S__law_is_put_right) (C__law_draw : Kn P w K mg base 7 "_law_draw" ["bag", "below"] S__law_draw) (C__law_size : Kn P w K mg base 7 "_law_size" ["change", "word"] S__law_size) (C__law_own_word : Kn P w K mg base 7 "_law_own_word" ["bag", "many"] S__law_own_word) (C__law_is_behind_right : Kn P w K mg base 7 "_law_is_behind_right" ["one", "other", "is_named"] S__law_is_behind_right) (C_change_behind : KnE P w K mg base 7 "change_behind" ["one", "other"] S_change_behind) (hG : IsLst c) (hgd : A.guards = some []) (hr : Room 7 (A.deeper (envOfC "_law_are_limits_right" (defScope s__law_are_limits_right) s.heap.objs.size f cdv))) : PSsd (XX P w K mg base N__law_are_limits_right "_law_are_limits_right" s__law_are_limits_right f cdv A outer s c.H0) c (defBody s__law_are_limits_right) g__law_are_limits_right := by
  have hN : (XX P w K mg base N__law_are_limits_right "_law_are_limits_right" s__law_are_limits_right f cdv A outer s c.H0).N.Nodup := sc__law_are_limits_right.nd
  have hc : (XX P w K mg base N__law_are_limits_right "_law_are_limits_right" s__law_are_limits_right f cdv A outer s c.H0).calm = true := rfl
  have hx : ∀ e s1, ¬ (XX P w K mg base N__law_are_limits_right "_law_are_limits_right" s__law_are_limits_right f cdv A outer s c.H0).xe e s1 := fun _ _ z => z
  have hp : PassesOwn (model P w) (XX P w K mg base N__law_are_limits_right "_law_are_limits_right" s__law_are_limits_right f cdv A outer s c.H0).A (XX P w K mg base N__law_are_limits_right "_law_are_limits_right" s__law_are_limits_right f cdv A outer s c.H0).env (XX P w K mg base N__law_are_limits_right "_law_are_limits_right" s__law_are_limits_right f cdv A outer s c.H0).xe := PassesOwn.never
  have hu : (XX P w K mg base N__law_are_limits_right "_law_are_limits_right" s__law_are_limits_right f cdv A outer s c.H0).A.units + 64 < cLine := units_of hr
  have hu5 : (XX P w K mg base N__law_are_limits_right "_law_are_limits_right" s__law_are_limits_right f cdv A outer s c.H0).A.units + 65 < cLine := units65 hr
  exact (ss_cons (s_set 1 hN (v_callX C__law_pick hG hgd hr (a_bag 0 (a_cons (PN.v (n_lst (d_cons v_int (d_cons v_int (d_cons v_int (d_cons v_int (d_cons v_int (d_cons v_int (d_cons v_int d_nil))))))))) a_nil)))) (ss_cons (s_asg (v_callX C__law_at hG hgd hr (a_bag 0 (a_cons v_int (a_cons (v_name 1) a_nil)))) (g_sq hc (gs_cons (g_nm 2 hN) (gs_cons (g_nm 3 hN) gs_nil)))) (ss_cons (s_if (PWd.t (w_or (t_cmp (o_ne hu) (PV.b (v_callX C__law_size hG hgd hr (a_cons (v_name 2) (a_cons (v_name 3) a_nil)))) (b_name 1)) (w_or1 (t_not (t_val (PV.b (v_callX C__law_is_put_right hG hgd hr (a_cons (v_name 2) (a_cons (v_name 3) (a_cons (v_cmp (o_eq hu) (PV.b (v_callX C__law_draw hG hgd hr (a_bag 0 (a_cons v_int a_nil)))) (PV.b v_int)) a_nil)))))))))) (ss_one (s_ret v_bl)) ss_nil) (ss_cons (s_asg (v_callX C__law_at hG hgd hr (a_bag 0 (a_cons v_int (a_cons (v_name 1) a_nil)))) (g_sq hc (gs_cons (g_nm 2 hN) (gs_cons (g_nm 3 hN) gs_nil)))) (ss_cons (s_set 4 hN (v_callX C__law_own_word hG hgd hr (a_bag 0 (a_cons (v_bin o_add (PV.b v_int) (PV.b (v_callX C__law_draw hG hgd hr (a_bag 0 (a_cons v_int a_nil))))) a_nil)))) (ss_cons (s_set 5 hN (v_if (t_cmp (o_eq hu) (PV.b (v_callX C__law_draw hG hgd hr (a_bag 0 (a_cons v_int a_nil)))) (PV.b v_int)) (v_tup (d_cons (v_name 3) (d_cons (v_name 4) d_nil))) (v_tup (d_cons (v_name 4) (d_cons (v_name 3) d_nil))))) (ss_cons (s_if (t_not (t_val (PV.b (v_callX C__law_is_behind_right hG hgd hr (a_cons (v_name 5) (a_cons (v_name 2) (a_cons (v_cmp (o_eq hu) (PV.b (v_callX C__law_draw hG hgd hr (a_bag 0 (a_cons v_int a_nil)))) (PV.b v_int)) a_nil))))))) (ss_one (s_ret v_bl)) ss_nil) (ss_cons (s_if (t_cmp o_gt (b_name 1) (PV.b v_int)) (ss_one (s_ret v_bl)) ss_nil) (ss_cons (s_set 6 hN (v_callE C_change_behind takes_no hG hgd hr (a_cons (v_name 5) (a_cons (v_name 2) a_nil)))) (ss_cons (s_if (PWd.t (w_or (t_not (t_val (PV.b (v_callX C__law_is_behind_right hG hgd hr (a_cons (v_name 6) (a_cons (v_tup (d_cons (v_tup (d_cons v_int d_nil)) (d_cons (v_tup (d_cons v_int d_nil)) d_nil))) (a_cons v_bl a_nil))))))) (w_or1 (t_not (t_val (PV.b (v_callX C__law_is_put_right hG hgd hr (a_cons (v_name 6) (a_cons (v_tup (d_cons v_int d_nil)) (a_cons v_bl a_nil)))))))))) (ss_one (s_ret v_bl)) ss_nil) (ss_cons (s_set 7 hN (v_callX C__law_pick hG hgd hr (a_bag 0 (a_cons (PN.v (n_lst (d_cons (v_tup (d_cons (v_tup (d_cons v_int (d_cons v_int d_nil))) (d_cons (v_tup (d_cons v_int d_nil)) d_nil))) (d_cons (v_tup (d_cons (v_tup (d_cons v_int d_nil)) (d_cons (v_tup (d_cons v_int (d_cons v_int d_nil))) d_nil))) (d_cons (v_tup (d_cons (v_tup (d_cons v_int d_nil)) (d_cons (v_tup (d_cons v_int d_nil)) d_nil))) (d_cons (v_tup (d_cons (v_tup (d_cons v_int (d_cons v_int d_nil))) (d_cons (v_tup (d_cons v_int (d_cons v_int d_nil))) d_nil))) d_nil)))))) a_nil)))) (ss_cons (s_if (PWd.t (w_or (t_not (t_val (PV.b (v_callX C__law_is_behind_right hG hgd hr (a_cons (v_name 6) (a_cons (v_name 7) (a_cons v_bl a_nil))))))) (w_or1 (t_not (t_val (PV.b (v_callX C__law_is_behind_right hG hgd hr (a_cons (v_tup (d_cons (v_tup (d_cons v_int d_nil)) (d_cons (v_tup (d_cons v_int d_nil)) d_nil))) (a_cons (v_name 6) (a_cons v_bl a_nil)))))))))) (ss_one (s_ret v_bl)) ss_nil) (ss_one (s_ret (v_callX C__law_is_put_right hG hgd hr (a_cons (v_name 6) (a_cons (v_callX C__law_pick hG hgd hr (a_bag 0 (a_cons (PN.v (n_lst (d_cons (v_tup (d_cons v_int d_nil)) (d_cons (v_tup (d_cons v_int (d_cons v_int d_nil))) (d_cons (v_tup (d_cons v_int (d_cons v_int d_nil))) (d_cons (v_tup (d_cons v_int (d_cons v_int d_nil))) (d_cons (v_tup d_nil) d_nil))))))) a_nil))) (a_cons v_bl a_nil))))))))))))))))))
theorem ok__law_are_limits_right {P : Program} {w : World} {K : PySem.W.Frag} {mg : Str → Option Value} {base : Heap} {f : Addr} {fd : FuncData} (F : Fun K "_law_are_limits_right" "_law_are_limits_right" s__law_are_limits_right f fd) (bl : Bl mg) (eh : ErH P K mg) (C__law_pick : Kn P w K mg base 7 "_law_pick" ["bag", "some"] S__law_pick) (C__law_at : Kn P w K mg base 7 "_law_at" ["bag", "most", "many"] S__law_at) (C__law_is_put_right : Kn P w K mg base 7 "_law_is_put_right" ["change", "word", "is_named"] S__law_is_put_right) (C__law_draw : Kn P w K mg base 7 "_law_draw" ["bag", "below"] S__law_draw) (C__law_size : Kn P w K mg base 7 "_law_size" ["change", "word"] S__law_size) (C__law_own_word : Kn P w K mg base 7 "_law_own_word" ["bag", "many"] S__law_own_word) (C__law_is_behind_right : Kn P w K mg base 7 "_law_is_behind_right" ["one", "other", "is_named"] S__law_is_behind_right) (C_change_behind : KnE P w K mg base 7 "change_behind" ["one", "other"] S_change_behind) : FnG IsLst P w K mg base 8 f fd ["bag"] S__law_are_limits_right :=
  fng_of F sc__law_are_limits_right m__law_are_limits_right l__law_are_limits_right fun cdv A outer s c hG hgd hr => ⟨g__law_are_limits_right, der__law_are_limits_right bl eh C__law_pick C__law_at C__law_is_put_right C__law_draw C__law_size C__law_own_word C__law_is_behind_right C_change_behind hG hgd hr, r__law_are_limits_right⟩
theorem sc_law : FnScope N_law ["script"] (defScope s_law) := ⟨rfl, rfl, rfl, by decide +kernel, rfl, by decide +kernel, by decide +kernel⟩
theorem sc__law_draw : FnScope ["bag", "below", "cell", "found"] ["bag", "below"] (defScope s__law_draw) := ⟨rfl, rfl, rfl, by decide +kernel, rfl, by decide +kernel, by decide +kernel⟩
theorem der__law_draw {P : Program} {w : World} {K : PySem.W.Frag} {mg : Str → Option Value} {base : Heap} {f : Addr} {cdv : Value} {A : Around} {outer : List PySem.Env} {s : Shared} {c : C} (bl : Bl mg) (hr : Room 0 (A.deeper (envOfC "_law_draw" (defScope s__law_draw) s.heap.objs.size f cdv))) : PSs (XX P w K mg base ["bag", "below", "cell", "found"] "_law_draw" s__law_draw f cdv A outer s c.H0) (defBody s__law_draw) (tDraw 48271 11 7) := by
  have hN : (XX P w K mg base ["bag", "below", "cell", "found"] "_law_draw" s__law_draw f cdv A outer s c.H0).N.Nodup := sc__law_draw.nd
  have hp : PassesOwn (model P w) (XX P w K mg base ["bag", "below", "cell", "found"] "_law_draw" s__law_draw f cdv A outer s c.H0).A (XX P w K mg base ["bag", "below", "cell", "found"] "_law_draw" s__law_draw f cdv A outer s c.H0).env (XX P w K mg base ["bag", "below", "cell", "found"] "_law_draw" s__law_draw f cdv A outer s c.H0).xe := PassesOwn.never
  have hu : (XX P w K mg base ["bag", "below", "cell", "found"] "_law_draw" s__law_draw f cdv A outer s c.H0).A.units + 64 < cLine := units_of hr
  have w1 : ∀ (σ : L2.St) (H : Hp) (b : Bool) (Q : Bool → Hp → Prop), (∃ x y, rNm 2 σ H x ∧ rPow (rK 10) (rK 9) σ H y ∧ b = gGtI x y) → Q b H → tIt gGtI (rNm 2) (rPow (rK 10) (rK 9)) σ H Q := fun σ H b Q ⟨x, y, h1, h2, e⟩ q => ⟨x, y, h1, h2, e ▸ q⟩
  exact pss_cons (ps_while hp (PW.pt (pw_and (pt_i iop_eq (pi_bag 0) pi_c) (pw_and1 (pt_full 0 hu)))) (pss_cons (ps_bagPop 0 2 hN) (pss_one (ps_bag 0 (pi_if (pt_i op_gt (pi_nm 2) (pi_bin op_pow pi_c pi_c)) w1 (pi_nm 2) pi_c)))))
    (pss_cons (ps_if (pt_i op_gt (pi_bag 0) pi_c) (pss_cons (ps_setI 3 hN (pi_bin op_mod (pi_int bl.int (pi_bag 0)) (pi_nm 1))) (pss_cons (ps_bag 0 (pi_bin iop_div (pi_bag 0) (pi_nm 1))) (pss_one (ps_retI (pi_nm 3))))) pss_nil)
    (pss_cons (ps_bag 0 (pi_bin op_mod (pi_int bl.int (pi_bin iop_add (pi_bin op_mulW (pi_bag 0) pi_c) pi_c)) pi_c)) (pss_one (ps_retI (pi_bin op_mod (pi_int bl.int (pi_bin iop_div (pi_bin op_mod (pi_int bl.int (pi_bin op_mulW (pi_bag 0) (pi_bag 0))) pi_c) pi_c)) (pi_nm 1))))))
theorem ok__law_draw {P : Program} {w : World} {K : PySem.W.Frag} {mg : Str → Option Value} {base : Heap} {f : Addr} {fd : FuncData} (F : Fun K "_law_draw" "_law_draw" s__law_draw f fd) (bl : Bl mg) : FnG IsLst P w K mg base 1 f fd ["bag", "below"] S__law_draw :=
  fng_of F sc__law_draw spDraw_mono spDraw_len fun cdv A outer s c hG hgd hr => ⟨gDraw, draw_ss (a := 48271) (b := 11) (q := 7) hG (by decide) (by decide) (by decide) (der__law_draw (c := c) bl hr), spDraw_go rfl⟩
theorem der_law {P : Program} {w : World} {K : PySem.W.Frag} {mg : Str → Option Value} {base : Heap} {f : Addr} {cdv : Value} {s : Shared} {H : Hp} {c : C} (bl : Bl mg) (eh : ErH P K mg) (C__law_pick : Kn P w K mg base 8 "_law_pick" ["bag", "some"] S__law_pick) (C__law_own_change : Kn P w K mg base 8 "_law_own_change" ["bag", "most"] S__law_own_change) (C__law_draw : Kn P w K mg base 8 "_law_draw" ["bag", "below"] S__law_draw) (C__law_own_word : Kn P w K mg base 8 "_law_own_word" ["bag", "many"] S__law_own_word) (C__law_is_put_right : Kn P w K mg base 8 "_law_is_put_right" ["change", "word", "is_named"] S__law_is_put_right) (C__law_is_behind_right : Kn P w K mg base 8 "_law_is_behind_right" ["one", "other", "is_named"] S__law_is_behind_right) (C__law_are_ways_right : Kn P w K mg base 8 "_law_are_ways_right" ["one", "other", "word"] S__law_are_ways_right) (C__law_are_errors_right : Kn P w K mg base 8 "_law_are_errors_right" ["bag", "change"] S__law_are_errors_right) (C__law_is_same : Kn P w K mg base 8 "_law_is_same" ["told", "due"] S__law_is_same) (C__law_table : Kn P w K mg base 8 "_law_table" ["change"] S__law_table) (C__law_are_limits_right : Kn P w K mg base 8 "_law_are_limits_right" ["bag"] S__law_are_limits_right) (K_change_table_change : KnK P w K mg base 8 "change_table" ["change"] ["change"] [0] S_change_table) (hG : IsLst c) (hr : Room 8 (callerA.deeper (envOfC "law" (defScope s_law) s.heap.objs.size f cdv))) : PSsd (XX P w K mg base N_law "law" s_law f cdv callerA [] s H) c (defBody s_law).tail g_law := by
  have hN : (XX P w K mg base N_law "law" s_law f cdv callerA [] s H).N.Nodup := sc_law.nd
  have hc : (XX P w K mg base N_law "law" s_law f cdv callerA [] s H).calm = true := rfl
  have hx : ∀ e s1, ¬ (XX P w K mg base N_law "law" s_law f cdv callerA [] s H).xe e s1 := fun _ _ z => z
  have hgd : (XX P w K mg base N_law "law" s_law f cdv callerA [] s H).A.guards = some [] := rfl
  have hp : PassesOwn (model P w) (XX P w K mg base N_law "law" s_law f cdv callerA [] s H).A (XX P w K mg base N_law "law" s_law f cdv callerA [] s H).env (XX P w K mg base N_law "law" s_law f cdv callerA [] s H).xe := PassesOwn.never
  have hu : (XX P w K mg base N_law "law" s_law f cdv callerA [] s H).A.units + 64 < cLine := units_of hr
  have hu5 : (XX P w K mg base N_law "law" s_law f cdv callerA [] s H).A.units + 65 < cLine := units65 hr
  exact (ss_cons (s_set 2 hN (v_callX C__law_pick hG hgd hr (a_bag 1 (a_cons (PN.v (n_lst (d_cons v_int (d_cons v_int (d_cons v_int (d_cons v_int (d_cons v_int (d_cons v_int d_nil)))))))) a_nil)))) (ss_cons (s_par3 3 4 5 hc hN (m_v (v_callX C__law_own_change hG hgd hr (a_bag 1 (a_cons (v_name 2) a_nil))) (m_v (v_callX C__law_own_change hG hgd hr (a_bag 1 (a_cons v_int a_nil))) (m_v (v_callX C__law_own_change hG hgd hr (a_bag 1 (a_cons v_int a_nil))) m_nil)))) (ss_cons (s_if (t_cmp (o_eq hu) (PV.b (v_callX C__law_draw hG hgd hr (a_bag 1 (a_cons v_int a_nil)))) (PV.b v_int)) (ss_one (s_par 3 4 hc hN (m_v (v_name 4) (m_v (v_name 3) m_nil)))) ss_nil) (ss_cons (s_set 6 hN (v_callB (c_reprA hgd hu) bl.repr (bb_cons (PV.b (PN.v (n_lst (d_cons (v_name 3) (d_cons (v_name 4) (d_cons (v_name 5) d_nil)))))) bb_nil))) (ss_cons (s_setN 7 hN (n_lst (d_cons (v_tup d_nil) (d_cons (v_tup (d_cons v_int d_nil)) (d_cons (v_tup (d_cons v_int d_nil)) (d_cons (v_callX C__law_own_word hG hgd hr (a_bag 1 (a_cons (v_callX C__law_draw hG hgd hr (a_bag 1 (a_cons v_int a_nil))) a_nil))) (d_cons (v_callX C__law_own_word hG hgd hr (a_bag 1 (a_cons (v_callX C__law_draw hG hgd hr (a_bag 1 (a_cons v_int a_nil))) a_nil))) d_nil))))))) (ss_cons (s_if (t_cmp (o_eq hu) (PV.b (v_callX C__law_draw hG hgd hr (a_bag 1 (a_cons v_int a_nil)))) (PV.b v_int)) (ss_one (s_app 7 (v_callX C__law_own_word hG hgd hr (a_bag 1 (a_cons (v_callX C__law_pick hG hgd hr (a_bag 1 (a_cons (PN.v (n_lst (d_cons v_int (d_cons v_int (d_cons (v_callX C__law_draw hG hgd hr (a_bag 1 (a_cons v_int a_nil))) d_nil))))) a_nil))) a_nil))))) ss_nil) (ss_cons (s_frz 7 (s_for hp hc (i_enum bl.enumerate (v_name 7)) (g_sq hc (gs_cons (g_nm 8 hN) (gs_cons (g_nm 9 hN) gs_nil))) (ss_one (s_for hp hc (i_seq (PN.v (n_lst (d_cons (v_name 3) (d_cons (v_name 4) (d_cons (v_name 5) d_nil)))))) (g_nm 10 hN) (ss_one (s_if (t_not (t_val (PV.b (v_callX C__law_is_put_right hG hgd hr (a_cons (v_name 10) (a_cons (v_name 9) (a_cons (v_cmp (o_eq hu) (PV.b (v_bin o_mod (PV.b (v_callT c_int bl.int (bb_cons (b_name 8) bb_nil))) (PV.b v_int))) (PV.b v_int)) a_nil))))))) (ss_one (s_ret v_bl)) ss_nil)))))) (ss_cons (s_for hp hc (i_enum bl.enumerate (PN.v (n_lst (d_cons (v_tup (d_cons (v_name 3) (d_cons (v_name 4) d_nil))) (d_cons (v_tup (d_cons (v_name 4) (d_cons (v_name 5) d_nil))) (d_cons (v_tup (d_cons (v_name 5) (d_cons (v_name 3) d_nil))) (d_cons (v_tup (d_cons (v_name 4) (d_cons (v_name 3) d_nil))) (d_cons (v_tup (d_cons (v_name 3) (d_cons (v_name 3) d_nil))) d_nil)))))))) (g_sq hc (gs_cons (g_nm 8 hN) (gs_cons (g_sq hc (gs_cons (g_nm 11 hN) (gs_cons (g_nm 12 hN) gs_nil))) gs_nil))) (ss_one (s_if (t_not (t_val (PV.b (v_callX C__law_is_behind_right hG hgd hr (a_cons (v_name 11) (a_cons (v_name 12) (a_cons (v_cmp (o_eq hu) (PV.b (v_bin o_mod (PV.b (v_callT c_int bl.int (bb_cons (b_name 8) bb_nil))) (PV.b v_int))) (PV.b v_int)) a_nil))))))) (ss_one (s_ret v_bl)) ss_nil))) (ss_cons (s_frz 7 (s_for hp hc (i_seq (v_name 7)) (g_nm 9 hN) (ss_one (s_if (PWd.t (w_or (t_not (t_val (PV.b (v_callX C__law_are_ways_right hG hgd hr (a_cons (v_name 3) (a_cons (v_name 4) (a_cons (v_name 9) a_nil))))))) (w_or1 (t_not (t_val (PV.b (v_callX C__law_are_ways_right hG hgd hr (a_cons (v_name 4) (a_cons (v_name 5) (a_cons (v_name 9) a_nil)))))))))) (ss_one (s_ret v_bl)) ss_nil)))) (ss_cons (s_for hp hc (i_seq (PN.v (n_lst (d_cons (v_name 3) (d_cons (v_name 5) d_nil))))) (g_nm 10 hN) (ss_cons (s_set 13 hN (v_callKX K_change_table_change hG hgd hr (k_cons (v_name 10) k_nil))) (ss_one (s_if (PWd.t (w_or (t_not (t_val (PV.b (v_callX C__law_is_same hG hgd hr (a_cons (v_name 13) (a_cons (v_callX C__law_table hG hgd hr (a_cons (v_name 10) a_nil)) a_nil)))))) (w_or1 (t_not (t_val (PV.b (v_callX C__law_are_errors_right hG hgd hr (a_bag 1 (a_cons (v_name 10) a_nil))))))))) (ss_one (s_ret v_bl)) ss_nil)))) (ss_cons (s_if (PWd.t (w_and (t_cmp (o_eq hu) (PV.b (v_callX C__law_draw hG hgd hr (a_bag 1 (a_cons v_int a_nil)))) (PV.b v_int)) (w_and1 (t_not (t_val (PV.b (v_callX C__law_are_limits_right hG hgd hr (a_bag 1 a_nil)))))))) (ss_one (s_ret v_bl)) ss_nil) (ss_cons (s_if (PWd.t (w_or (t_not (t_val (PV.b (v_callX C__law_is_behind_right hG hgd hr (a_cons (v_name 3) (a_cons (v_name 4) (a_cons v_bl a_nil))))))) (w_or1 (t_not (t_val (PV.b (v_callX C__law_is_put_right hG hgd hr (a_cons (v_name 3) (a_cons (v_ix (b_name 7) (PV.b v_int)) (a_cons v_bl a_nil)))))))))) (ss_one (s_ret v_bl)) ss_nil) (ss_one (s_ret (v_cmp (o_eq hu) (PV.b (v_callB (c_reprA hgd hu) bl.repr (bb_cons (PV.b (PN.v (n_lst (d_cons (v_name 3) (d_cons (v_name 4) (d_cons (v_name 5) d_nil)))))) bb_nil))) (b_name 6))))))))))))))))
theorem ok_law {P : Program} {w : World} {K : PySem.W.Frag} {mg : Str → Option Value} {base : Heap} {f fO : Addr} {fd fdO : FuncData} (F : Fun K "law" "law" s_law f fd) (bl : Bl mg) (eh : ErH P K mg) (FO : FnG (GOwn K) P w K mg base 8 fO fdO ["script"] S__law_own_bag) (gO : mg "_law_own_bag" = some (.ref fO)) (kO : PySem.W.keepIn K (.ref fO) = true) (bO : Binds K fdO ["script"] []) (C__law_pick : Kn P w K mg base 8 "_law_pick" ["bag", "some"] S__law_pick) (C__law_own_change : Kn P w K mg base 8 "_law_own_change" ["bag", "most"] S__law_own_change) (C__law_draw : Kn P w K mg base 8 "_law_draw" ["bag", "below"] S__law_draw) (C__law_own_word : Kn P w K mg base 8 "_law_own_word" ["bag", "many"] S__law_own_word) (C__law_is_put_right : Kn P w K mg base 8 "_law_is_put_right" ["change", "word", "is_named"] S__law_is_put_right) (C__law_is_behind_right : Kn P w K mg base 8 "_law_is_behind_right" ["one", "other", "is_named"] S__law_is_behind_right) (C__law_are_ways_right : Kn P w K mg base 8 "_law_are_ways_right" ["one", "other", "word"] S__law_are_ways_right) (C__law_are_errors_right : Kn P w K mg base 8 "_law_are_errors_right" ["bag", "change"] S__law_are_errors_right) (C__law_is_same : Kn P w K mg base 8 "_law_is_same" ["told", "due"] S__law_is_same) (C__law_table : Kn P w K mg base 8 "_law_table" ["change"] S__law_table) (C__law_are_limits_right : Kn P w K mg base 8 "_law_are_limits_right" ["bag"] S__law_are_limits_right) (K_change_table_change : KnK P w K mg base 8 "change_table" ["change"] ["change"] [0] S_change_table) (hb : ∀ (s : Shared) (u : Value), BindsTo s fd ⟨[u], []⟩ [("script", u)]) : FnL P w K mg base f :=
  fnl_of (n := 12) (k := 8) F sc_law rfl ⟨rfl, by decide, by decide⟩ (fun cdv s H hr => law_ss (n := 12) (ps_set (i := 1) sc_law.nd rfl (by first | exact Or.inl rfl | exact Or.inr rfl) (pe_own FO rfl hr gO kO bO)) (fun c hG => der_law (c := c) bl eh C__law_pick C__law_own_change C__law_draw C__law_own_word C__law_is_put_right C__law_is_behind_right C__law_are_ways_right C__law_are_errors_right C__law_is_same C__law_table C__law_are_limits_right K_change_table_change hG hr) r_law) hb
end T
end DL
namespace DL
namespace T
open PySem L2 PySem.Spec PyProof.Rows
/-! ### the head: facts by names -/
def dfOf (x : Str) (st : Stmt) : He.DefD := ⟨(x, none), x, x, defArgs st, defBody st, defScope st, [], []⟩
def fn : List He.DefD := ([dfOf "is_integer" s_is_integer, dfOf "is_whole" s_is_whole, dfOf "is_tuple" s_is_tuple, dfOf "is_any_word" s_is_any_word, dfOf "change_error" s_change_error, dfOf "all_put_through" s_all_put_through, dfOf "put_through" s_put_through, dfOf "change_behind" s_change_behind, dfOf "change_table" s_change_table, dfOf "_law_own_bag" s__law_own_bag, dfOf "_law_draw" s__law_draw, dfOf "_law_pick" s__law_pick, dfOf "_law_is_own" s__law_is_own, dfOf "_law_is_same" s__law_is_same, dfOf "_law_own_word" s__law_own_word, dfOf "_law_own_change" s__law_own_change, dfOf "_law_size" s__law_size, dfOf "_law_put" s__law_put, dfOf "_law_table" s__law_table, dfOf "_law_product" s__law_product, dfOf "_law_ask_put" s__law_ask_put, dfOf "_law_ask_behind" s__law_ask_behind, dfOf "_law_is_put_right" s__law_is_put_right, dfOf "_law_is_behind_right" s__law_is_behind_right, dfOf "_law_are_ways_right" s__law_are_ways_right, dfOf "_law_due_error" s__law_due_error, dfOf "_law_odd_words" s__law_odd_words, dfOf "_law_are_errors_right" s__law_are_errors_right, dfOf "_law_at" s__law_at, dfOf "_law_are_limits_right" s__law_are_limits_right] : List He.DefD) ++ ([dfOf "law" s_law] : List He.DefD)
def fa : List He.Fa := ([.glo "is_integer", .glo "is_whole", .glo "is_tuple", .glo "is_any_word", .glo "change_error", .glo "all_put_through", .glo "put_through", .glo "change_behind", .glo "change_table", .glo "_law_own_bag", .glo "_law_draw", .glo "_law_pick", .glo "_law_is_own", .glo "_law_is_same", .glo "_law_own_word", .glo "_law_own_change", .glo "_law_size", .glo "_law_put", .glo "_law_table", .glo "_law_product", .glo "_law_ask_put", .glo "_law_ask_behind", .glo "_law_is_put_right", .glo "_law_is_behind_right", .glo "_law_are_ways_right", .glo "_law_due_error", .glo "_law_odd_words", .glo "_law_are_errors_right", .glo "_law_at", .glo "_law_are_limits_right"] : List He.Fa) ++ ([.glo "law", .free "ValueError", .free "abs", .free "all", .free "bool", .free "enumerate", .free "int", .free "isinstance", .free "len", .free "list", .free "max", .free "min", .free "range", .free "repr", .free "reversed", .free "str", .free "sum", .free "tuple", .int "MAX_IMAGE" 60, .int "MAX_LONGEST" 2000, .glo "LineError", .glo "Unfit", .glo "TooMany", .glo "BadText", .glo "BadChain", .glo "BadLog", .glo "Refused", .glo "NothingToUndo", .free "super"] : List He.Fa)
abbrev R : PySem.W.OpenRow := PySem.W.OpenLaw.row PySem.Challenge.rw_linecuts_k11_whole_changes
def er : List EX.ErD := [⟨"TooMany", "TooMany.__init__", defArgs (EX.clsIni (top 5)), defBody (EX.clsIni (top 5)), defScope (EX.clsIni (top 5))⟩, ⟨"BadText", "BadText.__init__", defArgs (EX.clsIni (top 6)), defBody (EX.clsIni (top 6)), defScope (EX.clsIni (top 6))⟩, ⟨"BadChain", "BadChain.__init__", defArgs (EX.clsIni (top 7)), defBody (EX.clsIni (top 7)), defScope (EX.clsIni (top 7))⟩, ⟨"BadLog", "BadLog.__init__", defArgs (EX.clsIni (top 8)), defBody (EX.clsIni (top 8)), defScope (EX.clsIni (top 8))⟩, ⟨"Refused", "Refused.__init__", defArgs (EX.clsIni (top 9)), defBody (EX.clsIni (top 9)), defScope (EX.clsIni (top 9))⟩, ⟨"Unfit", "Unfit.__init__", defArgs (EX.clsIni (top 4)), defBody (EX.clsIni (top 4)), defScope (EX.clsIni (top 4))⟩, ⟨"NothingToUndo", "NothingToUndo.__init__", defArgs (EX.clsIni (top 10)), defBody (EX.clsIni (top 10)), defScope (EX.clsIni (top 10))⟩]
abbrev P0 : Program := PySem.Challenge.pw_linecuts_k11_whole_changes
abbrev hk : PySem.W.Hook := EX.hookX 5 P0.main.file fa fn er
def ob (s : PySem.W.SharedT) : EX.AlX := EX.obsXG 5 P0.main.file fa fn er (HandSHeadRun.getT s)
theorem ob_eq (s : PySem.W.SharedT) : ob s = hk.obs s.abs := EX.obsXG_eq (HandSHeadRun.getT_eq s)
def loose : List PySem.Str := (["MAX_IMAGE", "MAX_LONGEST", "LineError", "Unfit", "TooMany", "BadText", "BadChain", "BadLog", "Refused", "NothingToUndo", "is_integer", "is_whole", "is_tuple", "is_any_word", "change_error", "all_put_through", "put_through", "change_behind", "change_table", "_law_own_bag", "_law_draw", "_law_pick", "_law_is_own", "_law_is_same", "_law_own_word", "_law_own_change", "_law_size", "_law_put", "_law_table", "_law_product"] : List PySem.Str) ++ (["_law_ask_put", "_law_ask_behind", "_law_is_put_right", "_law_is_behind_right", "_law_are_ways_right", "_law_due_error", "_law_odd_words", "_law_are_errors_right", "_law_at", "_law_are_limits_right"] : List PySem.Str)
theorem run (w : World) : HandSHeadRun.RunEq R (PySem.W.view R.prog [44]) hk ob 20000 loose w := by
  intro os
  kernel_rfl
theorem iniF_ok {K : PySem.W.Frag} (c : EX.SaysX P0.main.file fa fn er K) (i : Nat) {d : EX.ErD} (h : er[i]? = some d) (kS : d.scope.names.lookup ("super" : Str) = some .globalImplicit) (kC : d.scope.names.lookup ("__class__" : Str) = some .free) (kI : d.scope.kind = .function) (co : d.scope.isCoroutine = false) (gen : d.scope.isGenerator = false) : ∃ f cda cc, EX.IniF P0 K (He.ga K d.nm) f d.qual d.params d.body d.scope cda cc :=
  EX.ErD.iniF (c.err i h).1 (c.err i h).2 (by kernel_rfl) kS kC kI co gen
theorem e_TooMany {K : PySem.W.Frag} (c : EX.SaysX P0.main.file fa fn er K) : EX.Ec1 P0 K (He.ga K "TooMany") "limit" :=
  EX.ec1_of (d := ⟨"TooMany", "TooMany.__init__", defArgs (EX.clsIni (top 5)), defBody (EX.clsIni (top 5)), defScope (EX.clsIni (top 5))⟩) (sf := "self") rfl (iniF_ok c 0 rfl rfl rfl rfl rfl rfl) ⟨_, rfl, rfl⟩ (fun _ _ _ _ _ _ _ _ _ => rfl) rfl rfl (by decide +kernel) (by decide) (by decide) (c.fld _ (by decide) _ (by decide)) (fun _ _ => rfl) (fun _ _ => rfl) (fun _ _ _ _ => ⟨_, rfl⟩)
theorem e_BadText {K : PySem.W.Frag} (c : EX.SaysX P0.main.file fa fn er K) : EX.Ec1 P0 K (He.ga K "BadText") "place" :=
  EX.ec1_of (d := ⟨"BadText", "BadText.__init__", defArgs (EX.clsIni (top 6)), defBody (EX.clsIni (top 6)), defScope (EX.clsIni (top 6))⟩) (sf := "self") rfl (iniF_ok c 1 rfl rfl rfl rfl rfl rfl) ⟨_, rfl, rfl⟩ (fun _ _ _ _ _ _ _ _ _ => rfl) rfl rfl (by decide +kernel) (by decide) (by decide) (c.fld _ (by decide) _ (by decide)) (fun _ _ => rfl) (fun _ _ => rfl) (fun _ _ _ _ => ⟨_, rfl⟩)
theorem e_BadChain {K : PySem.W.Frag} (c : EX.SaysX P0.main.file fa fn er K) : EX.Ec1 P0 K (He.ga K "BadChain") "error" :=
  EX.ec1_of (d := ⟨"BadChain", "BadChain.__init__", defArgs (EX.clsIni (top 7)), defBody (EX.clsIni (top 7)), defScope (EX.clsIni (top 7))⟩) (sf := "self") rfl (iniF_ok c 2 rfl rfl rfl rfl rfl rfl) ⟨_, rfl, rfl⟩ (fun _ _ _ _ _ _ _ _ _ => rfl) rfl rfl (by decide +kernel) (by decide) (by decide) (c.fld _ (by decide) _ (by decide)) (fun _ _ => rfl) (fun _ _ => rfl) (fun _ _ _ _ => ⟨_, rfl⟩)
theorem e_BadLog {K : PySem.W.Frag} (c : EX.SaysX P0.main.file fa fn er K) : EX.Ec1 P0 K (He.ga K "BadLog") "place" :=
  EX.ec1_of (d := ⟨"BadLog", "BadLog.__init__", defArgs (EX.clsIni (top 8)), defBody (EX.clsIni (top 8)), defScope (EX.clsIni (top 8))⟩) (sf := "self") rfl (iniF_ok c 3 rfl rfl rfl rfl rfl rfl) ⟨_, rfl, rfl⟩ (fun _ _ _ _ _ _ _ _ _ => rfl) rfl rfl (by decide +kernel) (by decide) (by decide) (c.fld _ (by decide) _ (by decide)) (fun _ _ => rfl) (fun _ _ => rfl) (fun _ _ _ _ => ⟨_, rfl⟩)
theorem e_Refused {K : PySem.W.Frag} (c : EX.SaysX P0.main.file fa fn er K) : EX.Ec1 P0 K (He.ga K "Refused") "word" :=
  EX.ec1_of (d := ⟨"Refused", "Refused.__init__", defArgs (EX.clsIni (top 9)), defBody (EX.clsIni (top 9)), defScope (EX.clsIni (top 9))⟩) (sf := "self") rfl (iniF_ok c 4 rfl rfl rfl rfl rfl rfl) ⟨_, rfl, rfl⟩ (fun _ _ _ _ _ _ _ _ _ => rfl) rfl rfl (by decide +kernel) (by decide) (by decide) (c.fld _ (by decide) _ (by decide)) (fun _ _ => rfl) (fun _ _ => rfl) (fun _ _ _ _ => ⟨_, rfl⟩)
theorem e_Unfit {K : PySem.W.Frag} (c : EX.SaysX P0.main.file fa fn er K) : EX.Ec0 P0 K (He.ga K "Unfit") :=
  EX.ec0_of (d := ⟨"Unfit", "Unfit.__init__", defArgs (EX.clsIni (top 4)), defBody (EX.clsIni (top 4)), defScope (EX.clsIni (top 4))⟩) (sf := "self") rfl (iniF_ok c 5 rfl rfl rfl rfl rfl rfl) ⟨_, rfl, rfl⟩ (fun _ _ _ _ _ _ _ _ => rfl) rfl (by decide +kernel) (fun _ => rfl) (fun _ _ _ _ => ⟨_, rfl⟩)
theorem e_NothingToUndo {K : PySem.W.Frag} (c : EX.SaysX P0.main.file fa fn er K) : EX.Ec0 P0 K (He.ga K "NothingToUndo") :=
  EX.ec0_of (d := ⟨"NothingToUndo", "NothingToUndo.__init__", defArgs (EX.clsIni (top 10)), defBody (EX.clsIni (top 10)), defScope (EX.clsIni (top 10))⟩) (sf := "self") rfl (iniF_ok c 6 rfl rfl rfl rfl rfl rfl) ⟨_, rfl, rfl⟩ (fun _ _ _ _ _ _ _ _ => rfl) rfl (by decide +kernel) (fun _ => rfl) (fun _ _ _ _ => ⟨_, rfl⟩)
theorem errs {K : PySem.W.Frag} {h : Heap} {mg : Str → Option Value} (X : K.In h) (G : h.Ns mainGlobals mg) (c : EX.SaysX P0.main.file fa fn er K) : ErH P0 K mg := by
  refine ⟨c.erF, c.fld, He.free_ok X G (c.d.fact 58 (f := .free "super") rfl), fun T hT => ?_, fun p hp => ?_, fun n hn => ?_⟩
  · simp only [errN, List.mem_cons, List.not_mem_nil, or_false] at hT
    rcases hT with rfl | rfl | rfl | rfl | rfl | rfl | rfl | rfl
    · exact He.glo_ok X G (c.d.fact 50 (f := .glo "LineError") rfl)
    · exact He.glo_ok X G (c.d.fact 51 (f := .glo "Unfit") rfl)
    · exact He.glo_ok X G (c.d.fact 52 (f := .glo "TooMany") rfl)
    · exact He.glo_ok X G (c.d.fact 53 (f := .glo "BadText") rfl)
    · exact He.glo_ok X G (c.d.fact 54 (f := .glo "BadChain") rfl)
    · exact He.glo_ok X G (c.d.fact 55 (f := .glo "BadLog") rfl)
    · exact He.glo_ok X G (c.d.fact 56 (f := .glo "Refused") rfl)
    · exact He.glo_ok X G (c.d.fact 57 (f := .glo "NothingToUndo") rfl)
  · simp only [err1, List.mem_cons, List.not_mem_nil, or_false] at hp
    rcases hp with rfl | rfl | rfl | rfl | rfl
    · exact e_TooMany c
    · exact e_BadText c
    · exact e_BadChain c
    · exact e_BadLog c
    · exact e_Refused c
  · simp only [err0, List.mem_cons, List.not_mem_nil, or_false] at hn
    rcases hn with rfl | rfl
    · exact e_Unfit c
    · exact e_NothingToUndo c
theorem facts {P : Program} {w : World} {K : PySem.W.Frag} {h : Heap} {mg : Str → Option Value} {f : Addr} (X : K.In h) (G : h.Ns mainGlobals mg) (hfa : mg ("law" : Str) = some (.ref f)) (c : He.SaysD fa fn K) (eh : ErH P K mg) : ∀ base : Heap, K.In base → base.Ns mainGlobals mg → FnL P w K mg base f := by
  have bl : Bl mg := ⟨He.free_ok X G (c.fact 37 (f := .free "isinstance") rfl), He.free_ok X G (c.fact 34 (f := .free "bool") rfl), He.free_ok X G (c.fact 36 (f := .free "int") rfl), He.free_ok X G (c.fact 38 (f := .free "len") rfl), He.free_ok X G (c.fact 47 (f := .free "tuple") rfl), He.free_ok X G (c.fact 33 (f := .free "all") rfl), He.free_ok X G (c.fact 35 (f := .free "enumerate") rfl), He.free_ok X G (c.fact 46 (f := .free "sum") rfl), He.free_ok X G (c.fact 32 (f := .free "abs") rfl), He.free_ok X G (c.fact 39 (f := .free "list") rfl), He.free_ok X G (c.fact 44 (f := .free "reversed") rfl), He.free_ok X G (c.fact 45 (f := .free "str") rfl), He.free_ok X G (c.fact 43 (f := .free "repr") rfl), He.free_ok X G (c.fact 42 (f := .free "range") rfl), He.free_ok X G (c.fact 31 (f := .free "ValueError") rfl), He.free_ok X G (c.fact 40 (f := .free "max") rfl), He.free_ok X G (c.fact 41 (f := .free "min") rfl), He.int_ok X G (c.fact 48 (f := .int "MAX_IMAGE" 60) rfl), He.int_ok X G (c.fact 49 (f := .int "MAX_LONGEST" 2000) rfl)⟩
  obtain ⟨fd__law_draw, F__law_draw⟩ := c.def_ 10 (d := dfOf "_law_draw" s__law_draw) rfl
  have z__law_draw := He.glo_ok X G (c.fact 10 (f := .glo "_law_draw") rfl)
  obtain ⟨fd_is_integer, F_is_integer⟩ := c.def_ 0 (d := dfOf "is_integer" s_is_integer) rfl
  have z_is_integer := He.glo_ok X G (c.fact 0 (f := .glo "is_integer") rfl)
  obtain ⟨fd_is_tuple, F_is_tuple⟩ := c.def_ 2 (d := dfOf "is_tuple" s_is_tuple) rfl
  have z_is_tuple := He.glo_ok X G (c.fact 2 (f := .glo "is_tuple") rfl)
  obtain ⟨fd_all_put_through, F_all_put_through⟩ := c.def_ 5 (d := dfOf "all_put_through" s_all_put_through) rfl
  have z_all_put_through := He.glo_ok X G (c.fact 5 (f := .glo "all_put_through") rfl)
  obtain ⟨fd_change_table, F_change_table⟩ := c.def_ 8 (d := dfOf "change_table" s_change_table) rfl
  have z_change_table := He.glo_ok X G (c.fact 8 (f := .glo "change_table") rfl)
  obtain ⟨fd__law_own_bag, F__law_own_bag⟩ := c.def_ 9 (d := dfOf "_law_own_bag" s__law_own_bag) rfl
  have z__law_own_bag := He.glo_ok X G (c.fact 9 (f := .glo "_law_own_bag") rfl)
  obtain ⟨fd__law_size, F__law_size⟩ := c.def_ 16 (d := dfOf "_law_size" s__law_size) rfl
  have z__law_size := He.glo_ok X G (c.fact 16 (f := .glo "_law_size") rfl)
  obtain ⟨fd__law_put, F__law_put⟩ := c.def_ 17 (d := dfOf "_law_put" s__law_put) rfl
  have z__law_put := He.glo_ok X G (c.fact 17 (f := .glo "_law_put") rfl)
  obtain ⟨fd__law_table, F__law_table⟩ := c.def_ 18 (d := dfOf "_law_table" s__law_table) rfl
  have z__law_table := He.glo_ok X G (c.fact 18 (f := .glo "_law_table") rfl)
  obtain ⟨fd__law_product, F__law_product⟩ := c.def_ 19 (d := dfOf "_law_product" s__law_product) rfl
  have z__law_product := He.glo_ok X G (c.fact 19 (f := .glo "_law_product") rfl)
  obtain ⟨fd__law_due_error, F__law_due_error⟩ := c.def_ 25 (d := dfOf "_law_due_error" s__law_due_error) rfl
  have z__law_due_error := He.glo_ok X G (c.fact 25 (f := .glo "_law_due_error") rfl)
  obtain ⟨fd_is_whole, F_is_whole⟩ := c.def_ 1 (d := dfOf "is_whole" s_is_whole) rfl
  have z_is_whole := He.glo_ok X G (c.fact 1 (f := .glo "is_whole") rfl)
  obtain ⟨fd_put_through, F_put_through⟩ := c.def_ 6 (d := dfOf "put_through" s_put_through) rfl
  have z_put_through := He.glo_ok X G (c.fact 6 (f := .glo "put_through") rfl)
  obtain ⟨fd__law_pick, F__law_pick⟩ := c.def_ 11 (d := dfOf "_law_pick" s__law_pick) rfl
  have z__law_pick := He.glo_ok X G (c.fact 11 (f := .glo "_law_pick") rfl)
  obtain ⟨fd__law_own_word, F__law_own_word⟩ := c.def_ 14 (d := dfOf "_law_own_word" s__law_own_word) rfl
  have z__law_own_word := He.glo_ok X G (c.fact 14 (f := .glo "_law_own_word") rfl)
  obtain ⟨fd_is_any_word, F_is_any_word⟩ := c.def_ 3 (d := dfOf "is_any_word" s_is_any_word) rfl
  have z_is_any_word := He.glo_ok X G (c.fact 3 (f := .glo "is_any_word") rfl)
  obtain ⟨fd_change_behind, F_change_behind⟩ := c.def_ 7 (d := dfOf "change_behind" s_change_behind) rfl
  have z_change_behind := He.glo_ok X G (c.fact 7 (f := .glo "change_behind") rfl)
  obtain ⟨fd__law_own_change, F__law_own_change⟩ := c.def_ 15 (d := dfOf "_law_own_change" s__law_own_change) rfl
  have z__law_own_change := He.glo_ok X G (c.fact 15 (f := .glo "_law_own_change") rfl)
  obtain ⟨fd__law_ask_put, F__law_ask_put⟩ := c.def_ 20 (d := dfOf "_law_ask_put" s__law_ask_put) rfl
  have z__law_ask_put := He.glo_ok X G (c.fact 20 (f := .glo "_law_ask_put") rfl)
  obtain ⟨fd__law_odd_words, F__law_odd_words⟩ := c.def_ 26 (d := dfOf "_law_odd_words" s__law_odd_words) rfl
  have z__law_odd_words := He.glo_ok X G (c.fact 26 (f := .glo "_law_odd_words") rfl)
  obtain ⟨fd__law_at, F__law_at⟩ := c.def_ 28 (d := dfOf "_law_at" s__law_at) rfl
  have z__law_at := He.glo_ok X G (c.fact 28 (f := .glo "_law_at") rfl)
  obtain ⟨fd_change_error, F_change_error⟩ := c.def_ 4 (d := dfOf "change_error" s_change_error) rfl
  have z_change_error := He.glo_ok X G (c.fact 4 (f := .glo "change_error") rfl)
  obtain ⟨fd__law_ask_behind, F__law_ask_behind⟩ := c.def_ 21 (d := dfOf "_law_ask_behind" s__law_ask_behind) rfl
  have z__law_ask_behind := He.glo_ok X G (c.fact 21 (f := .glo "_law_ask_behind") rfl)
  obtain ⟨fd__law_is_own, F__law_is_own⟩ := c.def_ 12 (d := dfOf "_law_is_own" s__law_is_own) rfl
  have z__law_is_own := He.glo_ok X G (c.fact 12 (f := .glo "_law_is_own") rfl)
  obtain ⟨fd__law_is_same, F__law_is_same⟩ := c.def_ 13 (d := dfOf "_law_is_same" s__law_is_same) rfl
  have z__law_is_same := He.glo_ok X G (c.fact 13 (f := .glo "_law_is_same") rfl)
  obtain ⟨fd__law_is_put_right, F__law_is_put_right⟩ := c.def_ 22 (d := dfOf "_law_is_put_right" s__law_is_put_right) rfl
  have z__law_is_put_right := He.glo_ok X G (c.fact 22 (f := .glo "_law_is_put_right") rfl)
  obtain ⟨fd__law_is_behind_right, F__law_is_behind_right⟩ := c.def_ 23 (d := dfOf "_law_is_behind_right" s__law_is_behind_right) rfl
  have z__law_is_behind_right := He.glo_ok X G (c.fact 23 (f := .glo "_law_is_behind_right") rfl)
  obtain ⟨fd__law_are_ways_right, F__law_are_ways_right⟩ := c.def_ 24 (d := dfOf "_law_are_ways_right" s__law_are_ways_right) rfl
  have z__law_are_ways_right := He.glo_ok X G (c.fact 24 (f := .glo "_law_are_ways_right") rfl)
  obtain ⟨fd__law_are_errors_right, F__law_are_errors_right⟩ := c.def_ 27 (d := dfOf "_law_are_errors_right" s__law_are_errors_right) rfl
  have z__law_are_errors_right := He.glo_ok X G (c.fact 27 (f := .glo "_law_are_errors_right") rfl)
  obtain ⟨fd__law_are_limits_right, F__law_are_limits_right⟩ := c.def_ 29 (d := dfOf "_law_are_limits_right" s__law_are_limits_right) rfl
  have z__law_are_limits_right := He.glo_ok X G (c.fact 29 (f := .glo "_law_are_limits_right") rfl)
  obtain ⟨fd_law, F_law⟩ := c.def_ 30 (d := dfOf "law" s_law) rfl
  have e := hfa.symm.trans (He.glo_ok X G (c.fact 30 (f := .glo "law") rfl))
  cases e
  intro base _ _
  have b__law_draw : Binds K fd__law_draw ["bag", "below"] [] := F__law_draw.bindsN (fun _ _ _ _ _ _ us hl => match us, hl with | [_, _], _ => rfl)
  have O__law_draw := ok__law_draw (P := P) (w := w) (base := base) (fun_of F__law_draw) bl 
  have C__law_draw : Kn P w K mg base 1 "_law_draw" ["bag", "below"] S__law_draw := Kn.mk O__law_draw z__law_draw F__law_draw.kp b__law_draw
  have b_is_integer : Binds K fd_is_integer ["value"] [] := F_is_integer.bindsN (fun _ _ _ _ _ _ us hl => match us, hl with | [_], _ => rfl)
  have O_is_integer := ok_is_integer (P := P) (w := w) (base := base) (fun_of F_is_integer) bl eh 
  have C_is_integer : Kn P w K mg base 1 "is_integer" ["value"] S_is_integer := Kn.mk O_is_integer z_is_integer F_is_integer.kp b_is_integer
  have b_is_tuple : Binds K fd_is_tuple ["value", "many"] [] := F_is_tuple.bindsN (fun _ _ _ _ _ _ us hl => match us, hl with | [_, _], _ => rfl)
  have O_is_tuple := ok_is_tuple (P := P) (w := w) (base := base) (fun_of F_is_tuple) bl eh 
  have C_is_tuple : Kn P w K mg base 1 "is_tuple" ["value", "many"] S_is_tuple := Kn.mk O_is_tuple z_is_tuple F_is_tuple.kp b_is_tuple
  have b_all_put_through : Binds K fd_all_put_through ["change", "word"] [] := F_all_put_through.bindsN (fun _ _ _ _ _ _ us hl => match us, hl with | [_, _], _ => rfl)
  have O_all_put_through := ok_all_put_through (P := P) (w := w) (base := base) (fun_of F_all_put_through) bl eh 
  have C_all_put_through : Kn P w K mg base 1 "all_put_through" ["change", "word"] S_all_put_through := Kn.mk O_all_put_through z_all_put_through F_all_put_through.kp b_all_put_through
  have b_change_table : Binds K fd_change_table ["change"] [] := F_change_table.bindsN (fun _ _ _ _ _ _ us hl => match us, hl with | [_], _ => rfl)
  have O_change_table := ok_change_table (P := P) (w := w) (base := base) (fun_of F_change_table) bl eh 
  have C_change_table : Kn P w K mg base 1 "change_table" ["change"] S_change_table := Kn.mk O_change_table z_change_table F_change_table.kp b_change_table
  have K_change_table_change := KnK.mk (ks := ["change"]) (is := [0]) O_change_table z_change_table F_change_table.kp (kwb_of (x := "change_table") (qual := "change_table") (st := s_change_table) (fun_of F_change_table) (fun _ _ _ _ _ _ ws hl => match ws, hl with | [_], _ => rfl))
  have b__law_own_bag : Binds K fd__law_own_bag ["script"] [] := F__law_own_bag.bindsN (fun _ _ _ _ _ _ us hl => match us, hl with | [_], _ => rfl)
  have O__law_own_bag := ok__law_own_bag (P := P) (w := w) (base := base) (fun_of F__law_own_bag) bl eh 
  have b__law_size : Binds K fd__law_size ["change", "word"] [] := F__law_size.bindsN (fun _ _ _ _ _ _ us hl => match us, hl with | [_, _], _ => rfl)
  have O__law_size := ok__law_size (P := P) (w := w) (base := base) (fun_of F__law_size) bl eh 
  have C__law_size : Kn P w K mg base 1 "_law_size" ["change", "word"] S__law_size := Kn.mk O__law_size z__law_size F__law_size.kp b__law_size
  have b__law_put : Binds K fd__law_put ["change", "word"] [] := F__law_put.bindsN (fun _ _ _ _ _ _ us hl => match us, hl with | [_, _], _ => rfl)
  have O__law_put := ok__law_put (P := P) (w := w) (base := base) (fun_of F__law_put) bl eh 
  have C__law_put : Kn P w K mg base 1 "_law_put" ["change", "word"] S__law_put := Kn.mk O__law_put z__law_put F__law_put.kp b__law_put
  have b__law_table : Binds K fd__law_table ["change"] [] := F__law_table.bindsN (fun _ _ _ _ _ _ us hl => match us, hl with | [_], _ => rfl)
  have O__law_table := ok__law_table (P := P) (w := w) (base := base) (fun_of F__law_table) bl eh 
  have C__law_table : Kn P w K mg base 1 "_law_table" ["change"] S__law_table := Kn.mk O__law_table z__law_table F__law_table.kp b__law_table
  have b__law_product : Binds K fd__law_product ["one", "other"] [] := F__law_product.bindsN (fun _ _ _ _ _ _ us hl => match us, hl with | [_, _], _ => rfl)
  have O__law_product := ok__law_product (P := P) (w := w) (base := base) (fun_of F__law_product) bl eh 
  have C__law_product : Kn P w K mg base 1 "_law_product" ["one", "other"] S__law_product := Kn.mk O__law_product z__law_product F__law_product.kp b__law_product
  have b__law_due_error : Binds K fd__law_due_error ["value"] [] := F__law_due_error.bindsN (fun _ _ _ _ _ _ us hl => match us, hl with | [_], _ => rfl)
  have O__law_due_error := ok__law_due_error (P := P) (w := w) (base := base) (fun_of F__law_due_error) bl eh 
  have C__law_due_error : Kn P w K mg base 1 "_law_due_error" ["value"] S__law_due_error := Kn.mk O__law_due_error z__law_due_error F__law_due_error.kp b__law_due_error
  have b_is_whole : Binds K fd_is_whole ["value", "low", "high"] [] := F_is_whole.bindsN (fun _ _ _ _ _ _ us hl => match us, hl with | [_, _, _], _ => rfl)
  have O_is_whole := ok_is_whole (P := P) (w := w) (base := base) (fun_of F_is_whole) bl eh (C_is_integer.up (by decide))
  have C_is_whole : Kn P w K mg base 2 "is_whole" ["value", "low", "high"] S_is_whole := Kn.mk O_is_whole z_is_whole F_is_whole.kp b_is_whole
  have b_put_through : Binds K fd_put_through ["change", "word"] [] := F_put_through.bindsN (fun _ _ _ _ _ _ us hl => match us, hl with | [_, _], _ => rfl)
  have O_put_through := ok_put_through (P := P) (w := w) (base := base) (fun_of F_put_through) bl eh (C_all_put_through.up (by decide))
  have C_put_through : KnE P w K mg base 2 "put_through" ["change", "word"] S_put_through := KnE.mk O_put_through z_put_through F_put_through.kp b_put_through
  have K_put_through_word_change := KnEK.mk (ks := ["word", "change"]) (is := [1, 0]) O_put_through z_put_through F_put_through.kp (kwb_of (x := "put_through") (qual := "put_through") (st := s_put_through) (fun_of F_put_through) (fun _ _ _ _ _ _ ws hl => match ws, hl with | [_, _], _ => rfl))
  have b__law_pick : Binds K fd__law_pick ["bag", "some"] [] := F__law_pick.bindsN (fun _ _ _ _ _ _ us hl => match us, hl with | [_, _], _ => rfl)
  have O__law_pick := ok__law_pick (P := P) (w := w) (base := base) (fun_of F__law_pick) bl eh (C__law_draw.up (by decide))
  have C__law_pick : Kn P w K mg base 2 "_law_pick" ["bag", "some"] S__law_pick := Kn.mk O__law_pick z__law_pick F__law_pick.kp b__law_pick
  have b__law_own_word : Binds K fd__law_own_word ["bag", "many"] [] := F__law_own_word.bindsN (fun _ _ _ _ _ _ us hl => match us, hl with | [_, _], _ => rfl)
  have O__law_own_word := ok__law_own_word (P := P) (w := w) (base := base) (fun_of F__law_own_word) bl eh (C__law_draw.up (by decide))
  have C__law_own_word : Kn P w K mg base 2 "_law_own_word" ["bag", "many"] S__law_own_word := Kn.mk O__law_own_word z__law_own_word F__law_own_word.kp b__law_own_word
  have b_is_any_word : Binds K fd_is_any_word ["value"] [] := F_is_any_word.bindsN (fun _ _ _ _ _ _ us hl => match us, hl with | [_], _ => rfl)
  have O_is_any_word := ok_is_any_word (P := P) (w := w) (base := base) (fun_of F_is_any_word) bl eh (C_is_whole.up (by decide))
  have C_is_any_word : Kn P w K mg base 3 "is_any_word" ["value"] S_is_any_word := Kn.mk O_is_any_word z_is_any_word F_is_any_word.kp b_is_any_word
  have b_change_behind : Binds K fd_change_behind ["one", "other"] [] := F_change_behind.bindsN (fun _ _ _ _ _ _ us hl => match us, hl with | [_, _], _ => rfl)
  have O_change_behind := ok_change_behind (P := P) (w := w) (base := base) (fun_of F_change_behind) bl eh (C_put_through.up (by decide))
  have C_change_behind : KnE P w K mg base 3 "change_behind" ["one", "other"] S_change_behind := KnE.mk O_change_behind z_change_behind F_change_behind.kp b_change_behind
  have K_change_behind_other_one := KnEK.mk (ks := ["other", "one"]) (is := [1, 0]) O_change_behind z_change_behind F_change_behind.kp (kwb_of (x := "change_behind") (qual := "change_behind") (st := s_change_behind) (fun_of F_change_behind) (fun _ _ _ _ _ _ ws hl => match ws, hl with | [_, _], _ => rfl))
  have b__law_own_change : Binds K fd__law_own_change ["bag", "most"] [] := F__law_own_change.bindsN (fun _ _ _ _ _ _ us hl => match us, hl with | [_, _], _ => rfl)
  have O__law_own_change := ok__law_own_change (P := P) (w := w) (base := base) (fun_of F__law_own_change) bl eh (C__law_own_word.up (by decide)) (C__law_draw.up (by decide))
  have C__law_own_change : Kn P w K mg base 3 "_law_own_change" ["bag", "most"] S__law_own_change := Kn.mk O__law_own_change z__law_own_change F__law_own_change.kp b__law_own_change
  have b__law_ask_put : Binds K fd__law_ask_put ["change", "word", "is_named"] [] := F__law_ask_put.bindsN (fun _ _ _ _ _ _ us hl => match us, hl with | [_, _, _], _ => rfl)
  have O__law_ask_put := ok__law_ask_put (P := P) (w := w) (base := base) (fun_of F__law_ask_put) bl eh (C_put_through.up (by decide)) (K_put_through_word_change.up (by decide))
  have C__law_ask_put : Kn P w K mg base 3 "_law_ask_put" ["change", "word", "is_named"] S__law_ask_put := Kn.mk O__law_ask_put z__law_ask_put F__law_ask_put.kp b__law_ask_put
  have b__law_odd_words : Binds K fd__law_odd_words ["bag", "word"] [] := F__law_odd_words.bindsN (fun _ _ _ _ _ _ us hl => match us, hl with | [_, _], _ => rfl)
  have O__law_odd_words := ok__law_odd_words (P := P) (w := w) (base := base) (fun_of F__law_odd_words) bl eh (C__law_draw.up (by decide)) (C__law_pick.up (by decide))
  have C__law_odd_words : Kn P w K mg base 3 "_law_odd_words" ["bag", "word"] S__law_odd_words := Kn.mk O__law_odd_words z__law_odd_words F__law_odd_words.kp b__law_odd_words
  have b__law_at : Binds K fd__law_at ["bag", "most", "many"] [] := F__law_at.bindsN (fun _ _ _ _ _ _ us hl => match us, hl with | [_, _, _], _ => rfl)
  have O__law_at := ok__law_at (P := P) (w := w) (base := base) (fun_of F__law_at) bl eh (C__law_draw.up (by decide)) (C__law_own_word.up (by decide)) (C__law_pick.up (by decide))
  have C__law_at : Kn P w K mg base 3 "_law_at" ["bag", "most", "many"] S__law_at := Kn.mk O__law_at z__law_at F__law_at.kp b__law_at
  have b_change_error : Binds K fd_change_error ["value"] [] := F_change_error.bindsN (fun _ _ _ _ _ _ us hl => match us, hl with | [_], _ => rfl)
  have O_change_error := ok_change_error (P := P) (w := w) (base := base) (fun_of F_change_error) bl eh (C_is_tuple.up (by decide)) (C_is_any_word.up (by decide))
  have C_change_error : Kn P w K mg base 4 "change_error" ["value"] S_change_error := Kn.mk O_change_error z_change_error F_change_error.kp b_change_error
  have K_change_error_value := KnK.mk (ks := ["value"]) (is := [0]) O_change_error z_change_error F_change_error.kp (kwb_of (x := "change_error") (qual := "change_error") (st := s_change_error) (fun_of F_change_error) (fun _ _ _ _ _ _ ws hl => match ws, hl with | [_], _ => rfl))
  have b__law_ask_behind : Binds K fd__law_ask_behind ["one", "other", "is_named"] [] := F__law_ask_behind.bindsN (fun _ _ _ _ _ _ us hl => match us, hl with | [_, _, _], _ => rfl)
  have O__law_ask_behind := ok__law_ask_behind (P := P) (w := w) (base := base) (fun_of F__law_ask_behind) bl eh (C_change_behind.up (by decide)) (K_change_behind_other_one.up (by decide))
  have C__law_ask_behind : Kn P w K mg base 4 "_law_ask_behind" ["one", "other", "is_named"] S__law_ask_behind := Kn.mk O__law_ask_behind z__law_ask_behind F__law_ask_behind.kp b__law_ask_behind
  have b__law_is_own : Binds K fd__law_is_own ["told"] [] := F__law_is_own.bindsN (fun _ _ _ _ _ _ us hl => match us, hl with | [_], _ => rfl)
  have O__law_is_own := ok__law_is_own (P := P) (w := w) (base := base) (fun_of F__law_is_own) bl eh z__law_is_own F__law_is_own.kp b__law_is_own  R__law_is_own
  have C__law_is_own : Kn P w K mg base 5 "_law_is_own" ["told"] S__law_is_own := Kn.mk O__law_is_own z__law_is_own F__law_is_own.kp b__law_is_own
  have b__law_is_same : Binds K fd__law_is_same ["told", "due"] [] := F__law_is_same.bindsN (fun _ _ _ _ _ _ us hl => match us, hl with | [_, _], _ => rfl)
  have O__law_is_same := ok__law_is_same (P := P) (w := w) (base := base) (fun_of F__law_is_same) bl eh (C__law_is_own.up (by decide))
  have C__law_is_same : Kn P w K mg base 6 "_law_is_same" ["told", "due"] S__law_is_same := Kn.mk O__law_is_same z__law_is_same F__law_is_same.kp b__law_is_same
  have b__law_is_put_right : Binds K fd__law_is_put_right ["change", "word", "is_named"] [] := F__law_is_put_right.bindsN (fun _ _ _ _ _ _ us hl => match us, hl with | [_, _, _], _ => rfl)
  have O__law_is_put_right := ok__law_is_put_right (P := P) (w := w) (base := base) (fun_of F__law_is_put_right) bl eh (C__law_ask_put.up (by decide)) (C__law_size.up (by decide)) (C__law_is_same.up (by decide)) (C__law_put.up (by decide))
  have C__law_is_put_right : Kn P w K mg base 7 "_law_is_put_right" ["change", "word", "is_named"] S__law_is_put_right := Kn.mk O__law_is_put_right z__law_is_put_right F__law_is_put_right.kp b__law_is_put_right
  have b__law_is_behind_right : Binds K fd__law_is_behind_right ["one", "other", "is_named"] [] := F__law_is_behind_right.bindsN (fun _ _ _ _ _ _ us hl => match us, hl with | [_, _, _], _ => rfl)
  have O__law_is_behind_right := ok__law_is_behind_right (P := P) (w := w) (base := base) (fun_of F__law_is_behind_right) bl eh (C__law_ask_behind.up (by decide)) (C__law_size.up (by decide)) (C__law_put.up (by decide)) (C__law_is_same.up (by decide)) (C_change_table.up (by decide)) (C__law_table.up (by decide)) (C__law_product.up (by decide)) (K_change_table_change.up (by decide))
  have C__law_is_behind_right : Kn P w K mg base 7 "_law_is_behind_right" ["one", "other", "is_named"] S__law_is_behind_right := Kn.mk O__law_is_behind_right z__law_is_behind_right F__law_is_behind_right.kp b__law_is_behind_right
  have b__law_are_ways_right : Binds K fd__law_are_ways_right ["one", "other", "word"] [] := F__law_are_ways_right.bindsN (fun _ _ _ _ _ _ us hl => match us, hl with | [_, _, _], _ => rfl)
  have O__law_are_ways_right := ok__law_are_ways_right (P := P) (w := w) (base := base) (fun_of F__law_are_ways_right) bl eh (C__law_size.up (by decide)) (C_put_through.up (by decide)) (C_change_behind.up (by decide)) (C__law_is_same.up (by decide))
  have C__law_are_ways_right : Kn P w K mg base 7 "_law_are_ways_right" ["one", "other", "word"] S__law_are_ways_right := Kn.mk O__law_are_ways_right z__law_are_ways_right F__law_are_ways_right.kp b__law_are_ways_right
  have b__law_are_errors_right : Binds K fd__law_are_errors_right ["bag", "change"] [] := F__law_are_errors_right.bindsN (fun _ _ _ _ _ _ us hl => match us, hl with | [_, _], _ => rfl)
  have O__law_are_errors_right := ok__law_are_errors_right (P := P) (w := w) (base := base) (fun_of F__law_are_errors_right) bl eh (C__law_pick.up (by decide)) (C__law_odd_words.up (by decide)) (C__law_due_error.up (by decide)) (C_change_error.up (by decide)) (C__law_is_same.up (by decide)) (K_change_error_value.up (by decide))
  have C__law_are_errors_right : Kn P w K mg base 7 "_law_are_errors_right" ["bag", "change"] S__law_are_errors_right := Kn.mk O__law_are_errors_right z__law_are_errors_right F__law_are_errors_right.kp b__law_are_errors_right
  have b__law_are_limits_right : Binds K fd__law_are_limits_right ["bag"] [] := F__law_are_limits_right.bindsN (fun _ _ _ _ _ _ us hl => match us, hl with | [_], _ => rfl)
  have O__law_are_limits_right := ok__law_are_limits_right (P := P) (w := w) (base := base) (fun_of F__law_are_limits_right) bl eh (C__law_pick.up (by decide)) (C__law_at.up (by decide)) (C__law_is_put_right.up (by decide)) (C__law_draw.up (by decide)) (C__law_size.up (by decide)) (C__law_own_word.up (by decide)) (C__law_is_behind_right.up (by decide)) (C_change_behind.up (by decide))
  have C__law_are_limits_right : Kn P w K mg base 8 "_law_are_limits_right" ["bag"] S__law_are_limits_right := Kn.mk O__law_are_limits_right z__law_are_limits_right F__law_are_limits_right.kp b__law_are_limits_right
  have hb := FunD.bindsA (ps := ["script"]) F_law (fun _ _ _ _ _ _ us hl => match us, hl with | [_], _ => rfl)
  exact ok_law (fun_of F_law) bl eh (O__law_own_bag.up (by decide)) z__law_own_bag F__law_own_bag.kp b__law_own_bag (C__law_pick.up (by decide)) (C__law_own_change.up (by decide)) (C__law_draw.up (by decide)) (C__law_own_word.up (by decide)) (C__law_is_put_right.up (by decide)) (C__law_is_behind_right.up (by decide)) (C__law_are_ways_right.up (by decide)) (C__law_are_errors_right.up (by decide)) (C__law_is_same.up (by decide)) (C__law_table.up (by decide)) (C__law_are_limits_right.up (by decide)) (K_change_table_change.up (by decide)) fun s v => hb s [v] rfl
end T
end DL
open PySem PySem.W PySem.Calls PyProof.Rows
theorem PySem.Challenge.cw_linecuts_k11_whole_changes_holds : PySem.Challenge.rw_linecuts_k11_whole_changes.Holds := by
  w_on; o_law
  refine HandSHeadRun.head_any (r := OpenLaw.row PySem.Challenge.rw_linecuts_k11_whole_changes) (q := view (OpenLaw.row PySem.Challenge.rw_linecuts_k11_whole_changes).prog [44]) (H := DL.T.hk) (ob := DL.T.ob) (M := 20000) (loose := DL.T.loose) (d := HandSHeadRun.topDef (OpenLaw.row PySem.Challenge.rw_linecuts_k11_whole_changes).prog 44) (kwd := []) DL.T.ob_eq
    (by kernel_rfl) (fun s => by kernel_rfl) DL.T.run (by kernel_rfl) (by kernel_rfl) (by kernel_rfl) (by rfl) (by first | assumption | decide +kernel) (by decide +kernel) ⟨rfl, rfl, rfl, rfl, rfl, by decide +kernel⟩ ?hw ?hc
  case hw => w_witness2
  case hc =>
    refine DL.walk_law (l := PySem.Challenge.rw_linecuts_k11_whole_changes) (n := 63) rfl (by decide) (by kernel_rfl) ?F
    intro w mg fa h Y G hmg0
    obtain ⟨K, KX, c⟩ := Y
    have hmg : mg ("law" : PySem.Str) = some (.ref fa) := by
      have e : (HandSHeadRun.topDef (OpenLaw.row PySem.Challenge.rw_linecuts_k11_whole_changes).prog 44).name = ("law" : PySem.Str) := by kernel_rfl
      rw [← e]
      exact hmg0
    exact ⟨K, KX, DL.T.facts (P := (PySem.Challenge.rw_linecuts_k11_whole_changes).prog) (w := w) KX G hmg c.d (DL.T.errs KX G c)⟩
