import PyProof.Rows.All
import Wide.All
import OpenK.AllK
import Wide.FinOn
import HandS.ForMost
import HandS.Evl
import HandS.Wide
import HandS.Style
import HandS.TupAny
import HandS.Conv
import HandS.Zip
import HandS.RevTup
import HandS.Rev
import HandS.NoneIn
import HandS.WideBits
import HandS.Exc
import HandS.Ends
import KE.KExcSuper
import HandS.ExcInit
import HandS.ExcIs
import HandS.ExcField
import HandS.HeadEnd
import HandS.Defaults
import HandS.HeadHook1
import HandS.TryMany
import HandS.TupMul
import HandS.SortInts
import HandS.Deep
import KE.KTupSum
import HandS.IsInst
import HandS.Dict
import KE.KExcIs
import HandS.HeadHook2
import KE.GoesMore
import HandS.Iter
import HandS.Flt
import PyProof.Rows.Digits
import HandS.HotCalls
import PySem.Challenge.RW_linecuts_k01_whole_surds
import KE.KStateDown
import HandS.Head0
import HandS.Head1
import HandS.Head2
set_option Elab.async false
set_option linter.all false
set_option maxRecDepth 100000
set_option maxHeartbeats 0
set_option autoImplicit false
set_option exponentiation.threshold 2000
/-! DL: data-level readings over the hand layer. What a piece of syntax does is told as a function on data (PyData); slots hold data that stands (sh), a list of one's own (ow) or the bag (bg). -/
namespace DL
open PySem L2
abbrev D := PyData
abbrev Ex := Evl.Ex
/-- an error: its class's name, its field -/
structure Xn where
  nm : Str
  fl : Option (Str × D)
/-- what a slot holds -/
inductive Sl where
  | un
  | sh (d : D)
  | ow (ds : List D)
  | bg
  | ex (x : Xn)
abbrev Env := List Sl
/-- the bag: where it stands, its objects, what is known of them; B0, H0: the state at the entry -/
structure Bg where
  pb : Addr
  mem : Addr → Prop
  ok : Hp → Prop
  loc : ∀ H H' : Hp, (∀ a, mem a → H' a = H a) → ok H → ok H'
structure C extends Bg where
  B0 : Hp
  H0 : Hp
  xa : Addr := 0
  xd : Option Addr := none
  xn : Str := ""
def C.isBag (c : C) (a : Addr) : Prop := c.mem a
structure BagOk (c : C) (B H : Hp) : Prop where
  out : ∀ a, c.isBag a → B a = none
  here : ∀ a, c.isBag a → H a ≠ none
  ok : c.ok H
theorem BagOk.keep {c : C} {B H B' H' : Hp} (b : BagOk c B H) (k : ∀ a, c.isBag a → B' a = B a ∧ H' a = H a) : BagOk c B' H' :=
  ⟨fun a ha => by rw [(k a ha).1]; exact b.out a ha, fun a ha => by rw [(k a ha).2]; exact b.here a ha, c.loc H H' (fun a ha => (k a ha).2) b.ok⟩
/-- the state of the data: B, what stands and is shared, within H -/
structure Wd (c : C) (B H : Hp) : Prop where
  sub : Ex B H
  bag : BagOk c B H
/-- from one state to a later one: nothing that stood has changed but the bag; what is shared grew by new objects -/
structure Gr (c : C) (B H B' H' : Hp) : Prop where
  b : Ex B B'
  h : ∀ a o, ¬ c.isBag a → H a = some o → H' a = some o
  n : ∀ a, H a ≠ none → B' a = B a
  w : Wd c B' H'
theorem Wd.nb {c : C} {B H : Hp} (w : Wd c B H) {a : Addr} {o : HO} (h : B a = some o) : ¬ c.isBag a := by
  intro z
  rw [w.bag.out a z] at h
  cases h
theorem Wd.there {c : C} {B H : Hp} (w : Wd c B H) {a : Addr} (h : c.isBag a) : H a ≠ none := w.bag.here a h
/-- what is not there is no part of the bag -/
theorem Wd.off {c : C} {B H : Hp} (w : Wd c B H) {a p : Addr} (h : c.isBag a) (hp : H p = none) : a ≠ p := fun z => w.there h (by rw [z]; exact hp)
theorem Gr.refl {c : C} {B H : Hp} (w : Wd c B H) : Gr c B H B H := ⟨Evl.Ex.refl B, fun _ _ _ h => h, fun _ _ => rfl, w⟩
theorem Gr.trans {c : C} {B H B1 H1 B2 H2 : Hp} (w : Wd c B H) (x : Gr c B H B1 H1) (y : Gr c B1 H1 B2 H2) : Gr c B H B2 H2 := by
  refine ⟨x.b.trans y.b, fun a o nb h => y.h a o nb (x.h a o nb h), fun a h => ?_, y.w⟩
  rw [← x.n a h]
  refine y.n a ?_
  by_cases hb : c.isBag a
  · exact x.w.there hb
  · cases e : H a with
    | none => exact absurd e h
    | some o => rw [x.h a o hb e]; exact fun q => nomatch q
/-- a new shared object -/
theorem Gr.new {c : C} {B H : Hp} (w : Wd c B H) {p : Addr} {o : HO} (hp : H p = none) : Gr c B H (upd B p o) (upd H p o) := by
  have hB : B p = none := Evl.fresh_back w.sub hp
  refine ⟨Evl.Ex.new hB, fun a u _ e => ?_, fun a e => ?_, fun a u e => ?_, w.bag.keep fun a ha => ⟨upd_ne (w.off ha hp), upd_ne (w.off ha hp)⟩⟩
  · rw [upd_ne (ne_of_none e hp)]; exact e
  · exact upd_ne fun z => e (by rw [z]; exact hp)
  · by_cases z : a = p
    · subst z; rw [upd_same] at e ⊢; exact e
    · rw [upd_ne z] at e ⊢; exact w.sub a u e
/-- a new object that is not shared (yet) -/
theorem Gr.newO {c : C} {B H : Hp} (w : Wd c B H) {p : Addr} {o : HO} (hp : H p = none) : Gr c B H B (upd H p o) := by
  have hB : B p = none := Evl.fresh_back w.sub hp
  refine ⟨Evl.Ex.refl B, fun a u _ e => ?_, fun a e => rfl, fun a u e => ?_, w.bag.keep fun a ha => ⟨rfl, upd_ne (w.off ha hp)⟩⟩
  · rw [upd_ne (ne_of_none e hp)]; exact e
  · have z : a ≠ p := ne_of_none e hB
    rw [upd_ne z]; exact w.sub a u e
/-! ### data that stands -/
def kD : Key → D
  | .inl i => .int i
  | .inr x => .str x
mutual
inductive Rp (B : Hp) : V → D → Prop
  | non : Rp B .non .none
  | bl (b : Bool) : Rp B (.bl b) (.bool b)
  | int (i : Int) : Rp B (.int i) (.int i)
  | str (x : Str) : Rp B (.str x) (.str x)
  | lst {a : Addr} {xs : List V} {ds : List D} : B a = some (.lst xs) → RpA B xs ds → Rp B (.ref a) (.list ds)
  | tup {a : Addr} {xs : List V} {ds : List D} : B a = some (.tup xs) → RpA B xs ds → Rp B (.ref a) (.tuple ds)
  | dct {a : Addr} {kvs : List (Key × V)} {ds : List D} : B a = some (.dK kvs) → RpA B (kvs.map (·.2)) ds → Rp B (.ref a) (.dict ((kvs.map fun p => kD p.1).zip ds))
inductive RpA (B : Hp) : List V → List D → Prop
  | nil : RpA B [] []
  | cons {v : V} {vs : List V} {d : D} {ds : List D} : Rp B v d → RpA B vs ds → RpA B (v :: vs) (d :: ds)
end
mutual
theorem rp_mono {B B' : Hp} (e : Ex B B') : ∀ {v : V} {d : D}, Rp B v d → Rp B' v d
  | _, _, .non => .non
  | _, _, .bl b => .bl b
  | _, _, .int i => .int i
  | _, _, .str x => .str x
  | _, _, .lst h1 h2 => .lst (e _ _ h1) (rpa_mono e h2)
  | _, _, .tup h1 h2 => .tup (e _ _ h1) (rpa_mono e h2)
  | _, _, .dct h1 h2 => .dct (e _ _ h1) (rpa_mono e h2)
theorem rpa_mono {B B' : Hp} (e : Ex B B') : ∀ {v : List V} {d : List D}, RpA B v d → RpA B' v d
  | _, _, .nil => .nil
  | _, _, .cons h1 h2 => .cons (rp_mono e h1) (rpa_mono e h2)
end
mutual
theorem rp_dp {K : PySem.W.Frag} {B : Hp} : ∀ {v : V} {d : D}, Rp B v d → d.canLay0 = true → Dp K B v d
  | _, _, .non, _ => .non
  | _, _, .bl b, _ => .bl b
  | _, _, .int i, _ => .int i
  | _, _, .str x, _ => .str x
  | _, _, .lst h1 h2, c => .lst (SqL.of h1) (rpa_dp h2 (by simpa [PyData.canLay0] using c))
  | _, _, .tup h1 h2, c => .tup (SqT.of h1) (rpa_dp h2 (by simpa [PyData.canLay0] using c))
  | _, _, .dct _ _, c => by simp [PyData.canLay0] at c
theorem rpa_dp {K : PySem.W.Frag} {B : Hp} : ∀ {v : List V} {d : List D}, RpA B v d → PyData.canLayAll0 d = true → DpAll K B v d
  | _, _, .nil, _ => .nil
  | _, _, .cons h1 h2, c => by
    have c' := c
    simp only [PyData.canLayAll0, Bool.and_eq_true] at c'
    exact .cons (rp_dp h1 c'.1) (rpa_dp h2 c'.2)
end
section
variable {B : Hp}
theorem rpa_len : ∀ {v : List V} {d : List D}, RpA B v d → v.length = d.length
  | _, _, .nil => rfl
  | _, _, .cons _ h2 => by rw [List.length_cons, List.length_cons, rpa_len h2]
theorem rpa_get : ∀ {vs : List V} {ds : List D} {i : Nat} {d : D}, RpA B vs ds → ds[i]? = some d → ∃ v, vs[i]? = some v ∧ Rp B v d
  | _, _, _, _, .nil, e => by simp at e
  | _, _, 0, _, .cons h1 _, e => by simp at e; subst e; exact ⟨_, rfl, h1⟩
  | _, _, i + 1, _, .cons _ h2, e => by
    obtain ⟨v, h3, h4⟩ := rpa_get (i := i) h2 (by simpa using e)
    exact ⟨v, by simpa using h3, h4⟩
theorem rpa_get' : ∀ {vs : List V} {ds : List D} {i : Nat} {v : V}, RpA B vs ds → vs[i]? = some v → ∃ d, ds[i]? = some d ∧ Rp B v d
  | _, _, _, _, .nil, e => by simp at e
  | _, _, 0, _, .cons h1 _, e => by simp at e; subst e; exact ⟨_, rfl, h1⟩
  | _, _, i + 1, _, .cons _ h2, e => by
    obtain ⟨v, h3, h4⟩ := rpa_get' (i := i) h2 (by simpa using e)
    exact ⟨v, by simpa using h3, h4⟩
theorem rpa_app : ∀ {vs ws : List V} {ds es : List D}, RpA B vs ds → RpA B ws es → RpA B (vs ++ ws) (ds ++ es)
  | _, _, _, _, .nil, h => h
  | _, _, _, _, .cons h1 h2, h => .cons h1 (rpa_app h2 h)
theorem rpa_take : ∀ {vs : List V} {ds : List D} (n : Nat), RpA B vs ds → RpA B (vs.take n) (ds.take n)
  | _, _, 0, _ => .nil
  | _, _, _ + 1, .nil => .nil
  | _, _, n + 1, .cons h1 h2 => .cons h1 (rpa_take n h2)
theorem rpa_drop : ∀ {vs : List V} {ds : List D} (n : Nat), RpA B vs ds → RpA B (vs.drop n) (ds.drop n)
  | _, _, 0, h => h
  | _, _, _ + 1, .nil => .nil
  | _, _, n + 1, .cons _ h2 => rpa_drop n h2
theorem rpa_set {v : V} {d : D} (h : Rp B v d) : ∀ {vs : List V} {ds : List D} (i : Nat), RpA B vs ds → RpA B (vs.set i v) (ds.set i d)
  | _, _, _, .nil => .nil
  | _, _, 0, .cons _ h2 => .cons h h2
  | _, _, i + 1, .cons h1 h2 => .cons h1 (rpa_set h i h2)
theorem rpa_rev : ∀ {vs : List V} {ds : List D}, RpA B vs ds → RpA B vs.reverse ds.reverse
  | _, _, .nil => .nil
  | _, _, .cons h1 h2 => by rw [List.reverse_cons, List.reverse_cons]; exact rpa_app (rpa_rev h2) (.cons h1 .nil)
theorem rpa_ints : ∀ {vs : List V} {ns : List Int}, RpA B vs (ns.map PyData.int) → vs = ns.map V.int
  | _, [], h => by cases h; rfl
  | _, n :: ns, h => by
    cases h with
    | cons h1 h2 =>
      cases h1
      rw [rpa_ints h2]; rfl
theorem rpa_of_ints : ∀ (ns : List Int), RpA B (ns.map V.int) (ns.map PyData.int)
  | [] => .nil
  | n :: ns => .cons (.int n) (rpa_of_ints ns)
theorem rpa_bls : ∀ {vs : List V} {ns : List Bool}, RpA B vs (ns.map PyData.bool) → vs = ns.map V.bl
  | _, [], h => by cases h; rfl
  | _, n :: ns, h => by
    cases h with
    | cons h1 h2 =>
      cases h1
      rw [rpa_bls h2]; rfl
theorem rpa_strs : ∀ {vs : List V} {ns : List Str}, RpA B vs (ns.map PyData.str) → vs = ns.map V.str
  | _, [], h => by cases h; rfl
  | _, n :: ns, h => by
    cases h with
    | cons h1 h2 =>
      cases h1
      rw [rpa_strs h2]; rfl
theorem rpa_nil_iff {vs : List V} {ds : List D} (h : RpA B vs ds) : vs = [] ↔ ds = [] := by
  have e := rpa_len h
  rw [← List.length_eq_zero_iff, ← List.length_eq_zero_iff, e]
theorem rp_lst {v : V} {ds : List D} (h : Rp B v (.list ds)) : ∃ a xs, v = .ref a ∧ B a = some (.lst xs) ∧ RpA B xs ds := by
  cases h with
  | lst h1 h2 => exact ⟨_, _, rfl, h1, h2⟩
theorem rp_tup {v : V} {ds : List D} (h : Rp B v (.tuple ds)) : ∃ a xs, v = .ref a ∧ B a = some (.tup xs) ∧ RpA B xs ds := by
  cases h with
  | tup h1 h2 => exact ⟨_, _, rfl, h1, h2⟩
theorem rp_int {v : V} {i : Int} (h : Rp B v (.int i)) : v = .int i := by cases h; rfl
theorem rp_bl {v : V} {i : Bool} (h : Rp B v (.bool i)) : v = .bl i := by cases h; rfl
theorem rp_str {v : V} {i : Str} (h : Rp B v (.str i)) : v = .str i := by cases h; rfl
theorem rp_non {v : V} (h : Rp B v .none) : v = .non := by cases h; rfl
end
/-- a value that may be read: shared, or a list of one's own -/
def Bw (c : C) (B H : Hp) (v : V) (d : D) : Prop :=
  Rp B v d ∨ ∃ p vs ds, v = .ref p ∧ d = .list ds ∧ ¬ c.isBag p ∧ B p = none ∧ H p = some (.lst vs) ∧ RpA B vs ds
section
variable {c : C} {B H B' H' : Hp} {v : V} {d : D}
theorem Bw.of (h : Rp B v d) : Bw c B H v d := .inl h
theorem Bw.mono (g : Gr c B H B' H') (h : Bw c B H v d) : Bw c B' H' v d := by
  rcases h with h | ⟨p, vs, ds, h1, h2, h3, h4, h5, h6⟩
  · exact .inl (rp_mono g.b h)
  · refine .inr ⟨p, vs, ds, h1, h2, h3, ?_, g.h p _ h3 h5, rpa_mono g.b h6⟩
    rw [g.n p (by rw [h5]; exact fun q => nomatch q)]; exact h4
theorem Bw.rp (w : Wd c B H) (h : Bw c B H v d) : Rp H v d := by
  rcases h with h | ⟨p, vs, ds, rfl, rfl, h3, h4, h5, h6⟩
  · exact rp_mono w.sub h
  · exact .lst h5 (rpa_mono w.sub h6)
theorem Bw.list {ds : List D} (w : Wd c B H) (h : Bw c B H v (.list ds)) : ∃ a xs, v = .ref a ∧ H a = some (.lst xs) ∧ RpA B xs ds := by
  rcases h with h | ⟨p, vs, es, rfl, e, h3, h4, h5, h6⟩
  · obtain ⟨a, xs, rfl, h1, h2⟩ := rp_lst h
    exact ⟨a, xs, rfl, w.sub _ _ h1, h2⟩
  · cases e
    exact ⟨p, vs, rfl, h5, h6⟩
theorem Bw.tup {ds : List D} (w : Wd c B H) (h : Bw c B H v (.tuple ds)) : ∃ a xs, v = .ref a ∧ H a = some (.tup xs) ∧ RpA B xs ds := by
  rcases h with h | ⟨p, vs, es, rfl, e, h3, h4, h5, h6⟩
  · obtain ⟨a, xs, rfl, h1, h2⟩ := rp_tup h
    exact ⟨a, xs, rfl, w.sub _ _ h1, h2⟩
  · cases e
theorem Bw.int {i : Int} (h : Bw c B H v (.int i)) : v = .int i := by
  rcases h with h | ⟨p, vs, es, rfl, e, _⟩
  · exact rp_int h
  · cases e
theorem Bw.bl {i : Bool} (h : Bw c B H v (.bool i)) : v = .bl i := by
  rcases h with h | ⟨p, vs, es, rfl, e, _⟩
  · exact rp_bl h
  · cases e
theorem Bw.str {i : Str} (h : Bw c B H v (.str i)) : v = .str i := by
  rcases h with h | ⟨p, vs, es, rfl, e, _⟩
  · exact rp_str h
  · cases e
theorem Bw.non (h : Bw c B H v .none) : v = .non := by
  rcases h with h | ⟨p, vs, es, rfl, e, _⟩
  · exact rp_non h
  · cases e
end
/-- the error that a suite holds -/
def ExOk (c : C) (B H : Hp) (x : Xn) : Prop := (x.nm = c.xn ∧ (x.fl = none → c.xd = none)) ∧ ∀ y dv, x.fl = some (y, dv) → ∃ dd v, c.xd = some dd ∧ ¬ c.isBag dd ∧ H dd = some (.xd [(y, v)]) ∧ Rp B v dv
theorem ExOk.mono {c : C} {B H B' H' : Hp} {x : Xn} (g : Gr c B H B' H') (h : ExOk c B H x) : ExOk c B' H' x :=
  ⟨h.1, fun y dv e => let ⟨dd, v, h1, h2, h3, h4⟩ := h.2 y dv e; ⟨dd, v, h1, h2, g.h dd _ h2 h3, rp_mono g.b h4⟩⟩
/-- what slot holds what -/
def SlOk (c : C) (B H : Hp) (σ : St) (i : Nat) : Sl → Prop
  | .un => True
  | .sh d => ∃ v, σ[i]? = some (some v) ∧ Rp B v d
  | .ow ds => ∃ p vs, σ[i]? = some (some (.ref p)) ∧ c.H0 p = none ∧ ¬ c.isBag p ∧ B p = none ∧ H p = some (.lst vs) ∧ RpA B vs ds
  | .bg => σ[i]? = some (some (.ref c.pb))
  | .ex x => σ[i]? = some (some (.ref c.xa)) ∧ ExOk c B H x
structure EOk (c : C) (B H : Hp) (σ : St) (ρ : Env) : Prop where
  w0 : Wd c c.B0 c.H0
  w : Wd c B H
  g : Gr c c.B0 c.H0 B H
  len : ρ.length = σ.length
  sl : ∀ i s, ρ[i]? = some s → SlOk c B H σ i s
  ap : ∀ (i j : Nat) (p : Addr) (ds es : List D), i ≠ j → ρ[i]? = some (Sl.ow ds) → ρ[j]? = some (Sl.ow es) → σ[i]? = some (some (V.ref p)) → ¬ σ[j]? = some (some (V.ref p))
section
variable {c : C} {B H B' H' : Hp} {σ : St} {ρ : Env}
theorem SlOk.mono {i : Nat} {s : Sl} (g : Gr c B H B' H') (h : SlOk c B H σ i s) : SlOk c B' H' σ i s := by
  cases s with
  | un => trivial
  | sh d => obtain ⟨v, h1, h2⟩ := h; exact ⟨v, h1, rp_mono g.b h2⟩
  | ow ds =>
    obtain ⟨p, vs, h1, h2, h3, h4, h5, h6⟩ := h
    refine ⟨p, vs, h1, h2, h3, ?_, g.h p _ h3 h5, rpa_mono g.b h6⟩
    rw [g.n p (by rw [h5]; exact fun q => nomatch q)]; exact h4
  | bg => exact h
  | ex x => exact ⟨h.1, h.2.mono g⟩
theorem EOk.mono (e : EOk c B H σ ρ) (g : Gr c B H B' H') : EOk c B' H' σ ρ :=
  ⟨e.w0, g.w, e.g.trans e.w0 g, e.len, fun i s h => (e.sl i s h).mono g, e.ap⟩
end
end DL
namespace DL
open PySem L2 PyProof.Rows
abbrev SE := Env → (D → Prop) → Prop
abbrev ST := Env → (Bool → Prop) → Prop
abbrev SA := Env → (List Sl → Prop) → Prop
/-- the i-th slot -/
def lk : Env → Nat → Sl
  | [], _ => .un
  | s :: _, 0 => s
  | _ :: r, n + 1 => lk r n
theorem lk_get : ∀ {ρ : Env} {i : Nat} {s : Sl}, lk ρ i = s → s ≠ .un → ρ[i]? = some s
  | [], _, _, h, n => by simp only [lk] at h; exact absurd h.symm n
  | s :: _, 0, _, h, _ => by simp only [lk] at h; rw [h]; rfl
  | _ :: r, i + 1, s, h, n => by
    have := lk_get (ρ := r) (i := i) (s := s) (by simpa only [lk] using h) n
    simpa using this
def Mono (f : SE) : Prop := ∀ ρ (Q Q' : D → Prop), (∀ d, Q d → Q' d) → f ρ Q → f ρ Q'
def MonoT (f : ST) : Prop := ∀ ρ (Q Q' : Bool → Prop), (∀ d, Q d → Q' d) → f ρ Q → f ρ Q'
def MonoA (f : SA) : Prop := ∀ ρ (Q Q' : List Sl → Prop), (∀ d, Q d → Q' d) → f ρ Q → f ρ Q'
def toV (c : C) (f : SE) : TE := fun σ H Q => ∃ B ρ, EOk c B H σ ρ ∧ f ρ fun d => ∀ v B' H', Gr c B H B' H' → Rp B' v d → Q v H'
def toB (c : C) (f : SE) : TE := fun σ H Q => ∃ B ρ, EOk c B H σ ρ ∧ f ρ fun d => ∀ v B' H', Gr c B H B' H' → Bw c B' H' v d → Q v H'
def toT (c : C) (f : ST) : TT := fun σ H Q => ∃ B ρ, EOk c B H σ ρ ∧ f ρ fun b => ∀ B' H', Gr c B H B' H' → Q b H'
/-- an argument -/
def ArgOk (c : C) (B H : Hp) (v : V) : Sl → Prop
  | .sh d => Rp B v d
  | .bg => v = .ref c.pb
  | _ => False
def ArgsOk (c : C) (B H : Hp) : List V → List Sl → Prop
  | [], [] => True
  | v :: vs, s :: ss => ArgOk c B H v s ∧ ArgsOk c B H vs ss
  | _, _ => False
def toA (c : C) (f : SA) : TA := fun σ H Q => ∃ B ρ, EOk c B H σ ρ ∧ f ρ fun ss => ∀ vs B' H', Gr c B H B' H' → ArgsOk c B' H' vs ss → Q vs H'
theorem ArgOk.mono {c : C} {B H B' H' : Hp} (g : Gr c B H B' H') {v : V} {s : Sl} (h : ArgOk c B H v s) : ArgOk c B' H' v s := by
  cases s with
  | sh d => exact rp_mono g.b h
  | bg => exact h
  | ex x => exact h
  | un => exact h
  | ow ds => exact h
theorem ArgsOk.mono {c : C} {B H B' H' : Hp} (g : Gr c B H B' H') : ∀ {vs : List V} {ss : List Sl}, ArgsOk c B H vs ss → ArgsOk c B' H' vs ss
  | [], [], _ => trivial
  | _ :: _, _ :: _, h => ⟨h.1.mono g, ArgsOk.mono g h.2⟩
  | [], _ :: _, h => h
  | _ :: _, [], h => h
structure PV (X : Cx) (c : C) (e : Expr) (f : SE) : Prop where
  mono : Mono f
  pe : PE X e (toV c f)
structure PB (X : Cx) (c : C) (e : Expr) (f : SE) : Prop where
  mono : Mono f
  pe : PE X e (toB c f)
structure PTd (X : Cx) (c : C) (e : Expr) (f : ST) : Prop where
  mono : MonoT f
  pt : PT X e (toT c f)
structure PAd (X : Cx) (c : C) (es : List Expr) (f : SA) : Prop where
  mono : MonoA f
  pa : PA X es (toA c f)
theorem pe_weak {X : Cx} {e : Expr} {t t' : TE} (h : PE X e t) (w : ∀ σ H Q, t' σ H Q → t σ H Q) : PE X e t' := ⟨fun pins s σ H Q I q => h.run pins s σ H Q I (w σ H Q q)⟩
theorem pt_weak {X : Cx} {e : Expr} {t t' : TT} (h : PT X e t) (w : ∀ σ H Q, t' σ H Q → t σ H Q) : PT X e t' := ⟨fun pins s σ H Q I q => h.run pins s σ H Q I (w σ H Q q)⟩
theorem pa_weak {X : Cx} {e : List Expr} {t t' : TA} (h : PA X e t) (w : ∀ σ H Q, t' σ H Q → t σ H Q) : PA X e t' := ⟨fun pos pins s σ H Q I q => h.run pos pins s σ H Q I (w σ H Q q)⟩
theorem ps_weak {X : Cx} {e : Stmt} {t t' : TS} (h : PS X e t) (w : ∀ D σ H, t' D σ H → t D σ H) : PS X e t' := ⟨fun pins s σ H D I q => h.run pins s σ H D I (w D σ H q)⟩
theorem pss_weak {X : Cx} {e : List Stmt} {t t' : TS} (h : PSs X e t) (w : ∀ D σ H, t' D σ H → t D σ H) : PSs X e t' := ⟨fun pins s σ H D I q => h.run pins s σ H D I (w D σ H q)⟩
section
variable {X : Cx} {c : C}
/-- what stands may be read -/
theorem PV.b {e : Expr} {f : SE} (h : PV X c e f) : PB X c e f :=
  ⟨h.mono, pe_weak h.pe fun σ H Q ⟨B, ρ, ok, q⟩ => ⟨B, ρ, ok, h.mono _ _ _ (fun d k v B' H' g r => k v B' H' g (.inl r)) q⟩⟩
/-! ### names, constants -/
def fV (i : Nat) : SE := fun ρ Q => match lk ρ i with | .sh d => Q d | _ => False
def fN (i : Nat) : SE := fun ρ Q => match lk ρ i with | .sh d => Q d | .ow ds => Q (.list ds) | _ => False
def fC (d : D) : SE := fun _ Q => Q d
theorem v_name (i : Nat) {x : Str} {pos : Pos} (hN : X.N[i]? = some x := by rfl) (hv : Vis X.env.scope x := by first | exact Or.inl rfl | exact Or.inr (Or.inl rfl) | exact Or.inr (Or.inr rfl))
    (hd : (x == ("__debug__" : Str)) = false := by decide) (hcd : (x == ("__classdict__" : Str)) = false := by decide) : PV X c (.Name x pos) (fV i) := by
  refine ⟨fun ρ Q Q' k h => ?_, pe_weak (pe_var hN hv hd hcd) fun σ H Q ⟨B, ρ, ok, h⟩ => ?_⟩
  · unfold fV at h ⊢
    cases e : lk ρ i with
    | sh d => rw [e] at h; exact k d h
    | _ => rw [e] at h; exact h
  · unfold fV at h
    cases e : lk ρ i with
    | sh d =>
      rw [e] at h
      obtain ⟨v, h1, h2⟩ := ok.sl i _ (lk_get e (fun z => nomatch z))
      exact ⟨v, h1, h v B H (Gr.refl ok.w) h2⟩
    | _ => rw [e] at h; exact h.elim
theorem b_name (i : Nat) {x : Str} {pos : Pos} (hN : X.N[i]? = some x := by rfl) (hv : Vis X.env.scope x := by first | exact Or.inl rfl | exact Or.inr (Or.inl rfl) | exact Or.inr (Or.inr rfl))
    (hd : (x == ("__debug__" : Str)) = false := by decide) (hcd : (x == ("__classdict__" : Str)) = false := by decide) : PB X c (.Name x pos) (fN i) := by
  refine ⟨fun ρ Q Q' k h => ?_, pe_weak (pe_var hN hv hd hcd) fun σ H Q ⟨B, ρ, ok, h⟩ => ?_⟩
  · unfold fN at h ⊢
    cases e : lk ρ i with
    | sh d => rw [e] at h; exact k d h
    | ow d => rw [e] at h; exact k _ h
    | _ => rw [e] at h; exact h
  · unfold fN at h
    cases e : lk ρ i with
    | sh d =>
      rw [e] at h
      obtain ⟨v, h1, h2⟩ := ok.sl i _ (lk_get e (fun z => nomatch z))
      exact ⟨v, h1, h v B H (Gr.refl ok.w) (.inl h2)⟩
    | ow ds =>
      rw [e] at h
      obtain ⟨p, vs, h1, h2, h3, h4, h5, h6⟩ := ok.sl i _ (lk_get e (fun z => nomatch z))
      exact ⟨_, h1, h _ B H (Gr.refl ok.w) (.inr ⟨p, vs, ds, rfl, rfl, h3, h4, h5, h6⟩)⟩
    | _ => rw [e] at h; exact h.elim
theorem mono_C {d : D} : Mono (fC d) := fun _ _ _ k h => k _ h
theorem cst {e : Expr} {v : V} {d : D} (h : PE X e (tC v)) (r : ∀ B, Rp B v d) : PV X c e (fC d) :=
  ⟨mono_C, pe_weak h fun σ H Q ⟨B, ρ, ok, q⟩ => q v B H (Gr.refl ok.w) (r B)⟩
theorem v_int {i : Int} {j : Nat} {pos : Pos} : PV X c (.Constant (.int i) j pos) (fC (.int i)) := cst pe_int fun _ => .int i
theorem v_bl {i : Bool} {j : Nat} {pos : Pos} : PV X c (.Constant (.bool i) j pos) (fC (.bool i)) := cst pe_bl fun _ => .bl i
theorem v_non {j : Nat} {pos : Pos} : PV X c (.Constant .none j pos) (fC .none) := cst pe_non fun _ => .non
theorem v_str {i : Str} {j : Nat} {pos : Pos} : PV X c (.Constant (.str i) j pos) (fC (.str i)) := cst pe_str fun _ => .str i
/-- a module's constant that is an int -/
theorem v_glob {x : Str} {i : Int} {t : Tok} {pos : Pos} (hg : Gl X x) (hm : X.mg x = some (.int i t)) (hd : (x == ("__debug__" : Str)) = false := by decide) : PV X c (.Name x pos) (fC (.int i)) :=
  cst (v := .int i) (pe_glob hg hm ⟨t, rfl⟩ hd) fun _ => .int i
/-! ### two-place operations -/
abbrev G2 := D → D → (D → Prop) → Prop
def MonoG (g : G2) : Prop := ∀ d e (Q Q' : D → Prop), (∀ z, Q z → Q' z) → g d e Q → g d e Q'
def rD (c : C) (g : G2) : R2 := fun x y H Q => ∃ B d e, Wd c B H ∧ Bw c B H x d ∧ Bw c B H y e ∧ g d e fun z => ∀ v B' H', Gr c B H B' H' → Rp B' v z → Q v H'
structure OpD (X : Cx) (c : C) (f : Value → Value → Sem Value) (g : G2) : Prop where
  mono : MonoG g
  op : OpR X f (rD c g)
theorem opr_weak {f : Value → Value → Sem Value} {r r' : R2} (h : OpR X f r) (w : ∀ x y H Q, r' x y H Q → r x y H Q) : OpR X f r' := fun pins s σ H x y v u Q I rx ry q => h pins s σ H x y v u Q I rx ry (w x y H Q q)
def fBin (g : G2) (fa fb : SE) : SE := fun ρ Q => fa ρ fun d => fb ρ fun e => g d e Q
theorem mono_Bin {g : G2} {fa fb : SE} (hg : MonoG g) (ha : Mono fa) (hb : Mono fb) : Mono (fBin g fa fb) := fun ρ Q Q' k h =>
  ha ρ _ _ (fun d hd => hb ρ _ _ (fun e he => hg d e _ _ k he) hd) h
theorem bin_go {g : G2} {fa fb : SE} (hg : MonoG g) (ha : Mono fa) (hb : Mono fb) (σ : L2.St) (H : Hp) (Q : VK) (h : toV c (fBin g fa fb) σ H Q) : tOp (rD c g) (toB c fa) (toB c fb) σ H Q := by
  obtain ⟨B, ρ, ok, h⟩ := h
  refine ⟨B, ρ, ok, ha _ _ _ (fun d hd v B1 H1 g1 r1 => ?_) h⟩
  refine ⟨B1, ρ, ok.mono g1, hb _ _ _ (fun e he u B2 H2 g2 r2 => ?_) hd⟩
  exact ⟨B2, d, e, g2.w, r1.mono g2, r2, hg _ _ _ _ (fun z hz w B3 H3 g3 r3 => hz w B3 H3 ((g1.trans ok.w g2).trans ok.w g3) r3) he⟩
theorem v_bin {op : Operator} {g : G2} {a b : Expr} {fa fb : SE} {pos : Pos} (ho : OpD X c (binaryOp op) g) (ha : PB X c a fa) (hb : PB X c b fb) : PV X c (.BinOp a op b pos) (fBin g fa fb) :=
  ⟨mono_Bin ho.mono ha.mono hb.mono, pe_weak (pe_op ho.op ha.pe hb.pe) (bin_go ho.mono ha.mono hb.mono)⟩
def gSub : G2 | .int i, .int j, Q => Q (.int (i - j)) | _, _, _ => False
def gAdd : G2
  | .int i, .int j, Q => Q (.int (i + j))
  | .tuple xs, .tuple ys, Q => xs.length + ys.length ≤ sizeLine ∧ Q (.tuple (xs ++ ys))
  | .list xs, .list ys, Q => xs.length + ys.length ≤ sizeLine ∧ Q (.list (xs ++ ys))
  | .str x, .str y, Q => x.length + y.length ≤ sizeLine ∧ Q (.str (x ++ y))
  | _, _, _ => False
def gMul : G2 | .int i, .int j, Q => CMulW i j ∧ Q (.int (i * j)) | _, _, _ => False
def gDiv : G2 | .int i, .int j, Q => j.natAbs.log2 < 9000 ∧ (if 0 < j then Q (.int (i / j)) else j ≠ 0 ∧ Q (.int (i.fdiv j))) | _, _, _ => False
def gMod : G2 | .int i, .int j, Q => (if 0 < j then Q (.int (i % j)) else j ≠ 0 ∧ Q (.int (i.fmod j))) | _, _, _ => False
def gPow : G2 | .int i, .int j, Q => CPow i j ∧ Q (.int (i ^ j.toNat)) | _, _, _ => False
def gShl : G2 | .int i, .int j, Q => CPow i j ∧ Q (.int (i * 2 ^ j.toNat)) | _, _, _ => False
def gShr : G2 | .int i, .int j, Q => 0 ≤ j ∧ Q (.int (i / 2 ^ j.toNat)) | _, _, _ => False
theorem opd_int {f : Value → Value → Sem Value} {g : G2} {P : Int → Int → Prop} {k : Int → Int → Int} (h : OpR X f (rI P fun i j => .int (k i j)))
    (hg : ∀ d e Q, g d e Q → ∃ i j, d = .int i ∧ e = .int j ∧ P i j ∧ Q (.int (k i j))) (m : MonoG g) : OpD X c f g :=
  ⟨m, opr_weak h fun x y H Q ⟨B, d, e, w, r1, r2, q⟩ => by
    obtain ⟨i, j, e1, e2, p, q2⟩ := hg d e _ q
    subst e1 e2
    exact ⟨i, j, r1.int, r2.int, p, q2 _ B H (Gr.refl w) (.int _)⟩⟩
theorem rI0_I {f : Value → Value → Sem Value} {k : Int → Int → V} (h : OpR X f (rI0 k)) : OpR X f (rI (fun _ _ => True) k) := opr_weak h fun _ _ _ _ ⟨i, j, h1, h2, _, h3⟩ => ⟨i, j, h1, h2, h3⟩
theorem m_Sub : MonoG gSub := fun d e Q Q' k h => by cases d <;> cases e <;> first | exact k _ h | exact h.elim
theorem o_sub : OpD X c (binaryOp .Sub) gSub := opd_int (rI0_I op_sub) (fun d e Q h => by cases d <;> cases e <;> first | exact ⟨_, _, rfl, rfl, trivial, h⟩ | exact h.elim) m_Sub
theorem m_Mul : MonoG gMul := fun d e Q Q' k h => by cases d <;> cases e <;> first | exact ⟨h.1, k _ h.2⟩ | exact h.elim
theorem o_mul : OpD X c (binaryOp .Mult) gMul := opd_int op_mulW (fun d e Q h => by cases d <;> cases e <;> first | exact ⟨_, _, rfl, rfl, h.1, h.2⟩ | exact h.elim) m_Mul
theorem m_Pow : MonoG gPow := fun d e Q Q' k h => by cases d <;> cases e <;> first | exact ⟨h.1, k _ h.2⟩ | exact h.elim
theorem o_pow : OpD X c (binaryOp .Pow) gPow := opd_int op_pow (fun d e Q h => by cases d <;> cases e <;> first | exact ⟨_, _, rfl, rfl, h.1, h.2⟩ | exact h.elim) m_Pow
theorem m_Shl : MonoG gShl := fun d e Q Q' k h => by cases d <;> cases e <;> first | exact ⟨h.1, k _ h.2⟩ | exact h.elim
theorem o_shl : OpD X c (binaryOp .LShift) gShl := opd_int op_shl (fun d e Q h => by cases d <;> cases e <;> first | exact ⟨_, _, rfl, rfl, h.1, h.2⟩ | exact h.elim) m_Shl
theorem m_Shr : MonoG gShr := fun d e Q Q' k h => by cases d <;> cases e <;> first | exact ⟨h.1, k _ h.2⟩ | exact h.elim
theorem o_shr : OpD X c (binaryOp .RShift) gShr := opd_int (P := fun _ j => 0 ≤ j) op_shr (fun d e Q h => by cases d <;> cases e <;> first | exact ⟨_, _, rfl, rfl, h.1, h.2⟩ | exact h.elim) m_Shr
theorem op_fdivA : OpR X (binaryOp .FloorDiv) (rI (fun _ j => j ≠ 0 ∧ j.natAbs.log2 < 9000) fun i j => .int (i.fdiv j)) := opI fun i j _ _ _ _ _ hc q => by
  exact floordiv_int hc.1 q (.inl (PyProof.noPylong_of_log2 hc.2))
theorem m_Div : MonoG gDiv := fun d e Q Q' k h => by
  cases d <;> cases e <;> first
    | exact h.elim
    | (refine ⟨h.1, ?_⟩
       have h2 := h.2
       split at h2
       · rw [if_pos (by assumption)]; exact k _ h2
       · rw [if_neg (by assumption)]; exact ⟨h2.1, k _ h2.2⟩)
theorem o_div : OpD X c (binaryOp .FloorDiv) gDiv := opd_int op_fdivA (fun d e Q h => by
  cases d <;> cases e <;> first
    | exact h.elim
    | (refine ⟨_, _, rfl, rfl, ?_⟩
       obtain ⟨h1, h2⟩ := h
       split at h2
       · rename_i hp
         exact ⟨⟨by omega, h1⟩, by rw [Int.fdiv_eq_ediv_of_nonneg _ (by omega)]; exact h2⟩
       · exact ⟨⟨h2.1, h1⟩, h2.2⟩)) m_Div
theorem m_Mod : MonoG gMod := fun d e Q Q' k h => by
  cases d <;> cases e <;> first
    | exact h.elim
    | (have h2 := h
       simp only [gMod] at h2 ⊢
       split at h2
       · rw [if_pos (by assumption)]; exact k _ h2
       · rw [if_neg (by assumption)]; exact ⟨h2.1, k _ h2.2⟩)
theorem o_mod : OpD X c (binaryOp .Mod) gMod := opd_int op_modN (fun d e Q h => by
  cases d <;> cases e <;> first
    | exact h.elim
    | (refine ⟨_, _, rfl, rfl, ?_⟩
       have h2 := h
       simp only [gMod] at h2
       split at h2
       · rename_i hp
         exact ⟨by omega, by rw [Int.fmod_eq_emod_of_nonneg _ (by omega)]; exact h2⟩
       · exact ⟨h2.1, h2.2⟩)) m_Mod
theorem m_Add : MonoG gAdd := fun d e Q Q' k h => by cases d <;> cases e <;> first | exact k _ h | exact ⟨h.1, k _ h.2⟩ | exact h.elim
theorem o_add : OpD X c (binaryOp .Add) gAdd := by
  refine ⟨m_Add, fun pins s σ H x y v u Q I rx ry ⟨B, d, e, w, r1, r2, q⟩ => ?_⟩
  cases d <;> cases e <;> first | exact q.elim | skip
  · exact op_add pins s σ H x y v u Q I rx ry ⟨_, _, r1.int, r2.int, q _ B H (Gr.refl w) (.int _)⟩
  · exact op_add_str pins s σ H x y v u Q I rx ry ⟨_, _, r1.str, r2.str, q.1, q.2 _ B H (Gr.refl w) (.str _)⟩
  · obtain ⟨a, xs, rfl, h1, h2⟩ := r1.list w
    obtain ⟨b, ys, rfl, h3, h4⟩ := r2.list w
    refine op_cat pins s σ H _ _ v u Q I rx ry ⟨a, b, xs, ys, rfl, rfl, h1, h3, ?_, fun p hp => ?_⟩
    · rw [rpa_len h2, rpa_len h4]; exact q.1
    · have g := Gr.new (o := .lst (xs ++ ys)) w hp
      exact q.2 _ _ _ g (.lst upd_same (rpa_app (rpa_mono g.b h2) (rpa_mono g.b h4)))
  · obtain ⟨a, xs, rfl, h1, h2⟩ := r1.tup w
    obtain ⟨b, ys, rfl, h3, h4⟩ := r2.tup w
    refine op_catA pins s σ H _ _ v u Q I rx ry ⟨a, b, xs, ys, rfl, rfl, SqT.of h1, SqT.of h3, ?_, fun z => ?_, fun _ z => ?_, fun _ _ p hp => ?_⟩
    · rw [rpa_len h2, rpa_len h4]; exact q.1
    · have z' := (rpa_nil_iff h2).mp z
      subst z'
      rcases r2 with r2 | ⟨_, _, _, _, e, _⟩
      · exact q.2 _ B H (Gr.refl w) r2
      · cases e
    · have z' := (rpa_nil_iff h4).mp z
      subst z'
      rcases r1 with r1 | ⟨_, _, _, _, e, _⟩
      · have q2 := q.2
        rw [List.append_nil] at q2
        exact q2 _ B H (Gr.refl w) r1
      · cases e
    · have g := Gr.new (o := .tup (xs ++ ys)) w hp
      exact q.2 _ _ _ g (.tup upd_same (rpa_app (rpa_mono g.b h2) (rpa_mono g.b h4)))
/-! ### one place -/
def fNeg (fa : SE) : SE := fun ρ Q => fa ρ fun d => match d with | .int i => Q (.int (-i)) | _ => False
theorem v_neg {a : Expr} {fa : SE} {pos : Pos} (ha : PB X c a fa) : PV X c (.UnaryOp .USub a pos) (fNeg fa) := by
  refine ⟨fun ρ Q Q' k h => ha.mono _ _ _ (fun d hd => ?_) h, pe_weak (pe_un un_neg ha.pe) fun σ H Q ⟨B, ρ, ok, h⟩ => ?_⟩
  · cases d <;> first | exact k _ hd | exact hd.elim
  · refine ⟨B, ρ, ok, ha.mono _ _ _ (fun d hd v B1 H1 g1 r1 => ?_) h⟩
    cases d <;> first | exact hd.elim | skip
    rename_i i
    exact ⟨i, r1.int, hd _ B1 H1 g1 (.int _)⟩
/-! ### comparisons -/
abbrev GC := D → D → (Bool → Prop) → Prop
def MonoC (g : GC) : Prop := ∀ d e (Q Q' : Bool → Prop), (∀ z, Q z → Q' z) → g d e Q → g d e Q'
def rC (c : C) (g : GC) : R2 := fun x y H Q => ∃ B d e, Wd c B H ∧ Bw c B H x d ∧ Bw c B H y e ∧ g d e fun b => Q (.bl b) H
structure CmpD (X : Cx) (c : C) (op : CmpOp) (g : GC) : Prop where
  mono : MonoC g
  op : OpR X (compareOp op) (rC c g)
def gv (g : GC) : G2 := fun d e Q => g d e fun b => Q (.bool b)
def fCmp (g : GC) (fa fb : SE) : ST := fun ρ Q => fa ρ fun d => fb ρ fun e => g d e Q
theorem CmpD.v {op : CmpOp} {g : GC} (h : CmpD X c op g) : OpD X c (compareOp op) (gv g) :=
  ⟨fun d e Q Q' k q => h.mono d e _ _ (fun b hb => k _ hb) q, opr_weak h.op fun x y H Q ⟨B, d, e, w, r1, r2, q⟩ => ⟨B, d, e, w, r1, r2, h.mono _ _ _ _ (fun b hb => hb _ B H (Gr.refl w) (.bl b)) q⟩⟩
theorem v_cmp {op : CmpOp} {g : GC} {a b : Expr} {fa fb : SE} {pos : Pos} (ho : CmpD X c op g) (ha : PB X c a fa) (hb : PB X c b fb) (hm : behindInMarks op b = false := by first | exact nomark _ | with_unfolding_all rfl) : PV X c (.Compare a [op] [b] pos) (fBin (gv g) fa fb) :=
  ⟨mono_Bin ho.v.mono ha.mono hb.mono, pe_weak (pe_cmpR ho.v.op ha.pe hb.pe hm) (bin_go ho.v.mono ha.mono hb.mono)⟩
theorem t_cmp {op : CmpOp} {g : GC} {a b : Expr} {fa fb : SE} {pos : Pos} (ho : CmpD X c op g) (ha : PB X c a fa) (hb : PB X c b fb) (hm : behindInMarks op b = false := by first | exact nomark _ | with_unfolding_all rfl) : PTd X c (.Compare a [op] [b] pos) (fCmp g fa fb) := by
  refine ⟨fun ρ Q Q' k h => ha.mono _ _ _ (fun d hd => hb.mono _ _ _ (fun e he => ho.mono _ _ _ _ k he) hd) h, pt_weak (pt_cmpR ho.op ha.pe hb.pe hm) fun σ H Q ⟨B, ρ, ok, h⟩ => ?_⟩
  refine ⟨B, ρ, ok, ha.mono _ _ _ (fun d hd v B1 H1 g1 r1 => ?_) h⟩
  refine ⟨B1, ρ, ok.mono g1, hb.mono _ _ _ (fun e he u B2 H2 g2 r2 => ?_) hd⟩
  exact ⟨B2, d, e, g2.w, r1.mono g2, r2, ho.mono _ _ _ _ (fun b hb => ⟨b, rfl, hb B2 H2 (g1.trans ok.w g2)⟩) he⟩
def gLt : GC | .int i, .int j, Q => Q (decide (i < j)) | _, _, _ => False
def gLe : GC | .int i, .int j, Q => Q (decide (i ≤ j)) | _, _, _ => False
def gGt : GC | .int i, .int j, Q => Q (decide (j < i)) | _, _, _ => False
def gGe : GC | .int i, .int j, Q => Q (decide (j ≤ i)) | _, _, _ => False
theorem cmpd_int {op : CmpOp} {g : GC} {k : Int → Int → Bool} (h : OpR X (compareOp op) (rI0 fun i j => .bl (k i j))) (hg : ∀ d e Q, g d e Q → ∃ i j, d = .int i ∧ e = .int j ∧ Q (k i j)) (m : MonoC g) : CmpD X c op g :=
  ⟨m, opr_weak h fun x y H Q ⟨B, d, e, w, r1, r2, q⟩ => by
    obtain ⟨i, j, e1, e2, q2⟩ := hg d e _ q
    subst e1 e2
    exact ⟨i, j, r1.int, r2.int, q2⟩⟩
theorem m_Lt : MonoC gLt := fun d e Q Q' k h => by cases d <;> cases e <;> first | exact k _ h | exact h.elim
theorem m_Le : MonoC gLe := fun d e Q Q' k h => by cases d <;> cases e <;> first | exact k _ h | exact h.elim
theorem m_Gt : MonoC gGt := fun d e Q Q' k h => by cases d <;> cases e <;> first | exact k _ h | exact h.elim
theorem m_Ge : MonoC gGe := fun d e Q Q' k h => by cases d <;> cases e <;> first | exact k _ h | exact h.elim
theorem o_lt : CmpD X c .Lt gLt := cmpd_int op_lt (fun d e Q h => by cases d <;> cases e <;> first | exact ⟨_, _, rfl, rfl, h⟩ | exact h.elim) m_Lt
theorem o_le : CmpD X c .LtE gLe := cmpd_int op_le (fun d e Q h => by cases d <;> cases e <;> first | exact ⟨_, _, rfl, rfl, h⟩ | exact h.elim) m_Le
theorem o_gt : CmpD X c .Gt gGt := cmpd_int op_gt (fun d e Q h => by cases d <;> cases e <;> first | exact ⟨_, _, rfl, rfl, h⟩ | exact h.elim) m_Gt
theorem o_ge : CmpD X c .GtE gGe := cmpd_int op_ge (fun d e Q h => by cases d <;> cases e <;> first | exact ⟨_, _, rfl, rfl, h⟩ | exact h.elim) m_Ge
/-- equality: ints by themselves, else data -/
def gEq : GC
  | .int i, .int j, Q => Q (decide (i = j))
  | .str x, .str y, Q => Q (decide (x = y))
  | .bool a, .bool b, Q => Q (decide (a = b))
  | d, e, Q => SeqAt.shaped d = true ∧ SeqAt.shaped e = true ∧ Q (PyData.eqv d e)
def gNe : GC
  | .int i, .int j, Q => Q (!decide (i = j))
  | .str x, .str y, Q => Q (!decide (x = y))
  | .bool a, .bool b, Q => Q (!decide (a = b))
  | d, e, Q => SeqAt.shaped d = true ∧ SeqAt.shaped e = true ∧ Q (!PyData.eqv d e)
theorem m_Eq : MonoC gEq := fun d e Q Q' k h => by
  unfold gEq at h ⊢
  split at h <;> first | exact k _ h | exact ⟨h.1, h.2.1, k _ h.2.2⟩
theorem m_Ne : MonoC gNe := fun d e Q Q' k h => by
  unfold gNe at h ⊢
  split at h <;> first | exact k _ h | exact ⟨h.1, h.2.1, k _ h.2.2⟩
theorem eqv_int (i j : Int) : PyData.eqv (.int i) (.int j) = decide (i = j) := by
  simp only [PyData.eqv]
  rfl
theorem shaped_int (i : Int) : SeqAt.shaped (.int i) = true := by simp [SeqAt.shaped, PyData.canLay0, PyData.depth]
theorem opr_or {f : Value → Value → Sem Value} {r r' : R2} (h : OpR X f r) (h' : OpR X f r') : OpR X f fun x y H Q => r x y H Q ∨ r' x y H Q := fun pins s σ H x y v u Q I rx ry q => q.elim (h pins s σ H x y v u Q I rx ry) (h' pins s σ H x y v u Q I rx ry)
theorem o_eq (hu : X.A.units + 64 < cLine) : CmpD X c .Eq gEq := by
  refine ⟨m_Eq, opr_weak (opr_or (op_eqD hu) op_eq) fun x y H Q ⟨B, d, e, w, r1, r2, q⟩ => ?_⟩
  have gen : (SeqAt.shaped d = true ∧ SeqAt.shaped e = true ∧ Q (.bl (PyData.eqv d e)) H) → rEqD X.K x y H Q ∨ rEq x y H Q := fun q' =>
    .inl ⟨d, e, rp_dp (r1.rp w) (SeqAt.canLay_of_shaped q'.1), rp_dp (r2.rp w) (SeqAt.canLay_of_shaped q'.2.1), q'.1, q'.2.1, q'.2.2⟩
  unfold gEq at q
  split at q
  · exact gen ⟨shaped_int _, shaped_int _, by rw [eqv_int]; exact q⟩
  · rw [r1.str, r2.str]
    refine .inr ⟨rfl, ?_⟩
    simpa using q
  · rw [r1.bl, r2.bl]
    refine .inr ⟨rfl, ?_⟩
    simpa using q
  · exact gen q
theorem o_ne (hu : X.A.units + 64 < cLine) : CmpD X c .NotEq gNe := by
  refine ⟨m_Ne, opr_weak (opr_or (op_neD hu) op_ne) fun x y H Q ⟨B, d, e, w, r1, r2, q⟩ => ?_⟩
  have gen : (SeqAt.shaped d = true ∧ SeqAt.shaped e = true ∧ Q (.bl (!PyData.eqv d e)) H) → rNeD X.K x y H Q ∨ rNe x y H Q := fun q' =>
    .inl ⟨d, e, rp_dp (r1.rp w) (SeqAt.canLay_of_shaped q'.1), rp_dp (r2.rp w) (SeqAt.canLay_of_shaped q'.2.1), q'.1, q'.2.1, q'.2.2⟩
  unfold gNe at q
  split at q
  · exact gen ⟨shaped_int _, shaped_int _, by rw [eqv_int]; exact q⟩
  · rw [r1.str, r2.str]
    refine .inr ⟨rfl, ?_⟩
    simpa using q
  · rw [r1.bl, r2.bl]
    refine .inr ⟨rfl, ?_⟩
    simpa using q
  · exact gen q
/-- is None -/
def isNone : D → Bool | .none => true | _ => false
def gIsN : GC | d, .none, Q => Q (isNone d) | _, _, _ => False
def gNotN : GC | d, .none, Q => Q (!isNone d) | _, _, _ => False
theorem m_IsN : MonoC gIsN := fun d e Q Q' k h => by cases e <;> first | exact k _ h | exact h.elim
theorem m_NotN : MonoC gNotN := fun d e Q Q' k h => by cases e <;> first | exact k _ h | exact h.elim
theorem bw_none {B H : Hp} {v : V} {d : D} (r : Bw c B H v d) : decide (v = .non) = isNone d := by
  rcases r with r | ⟨p, vs, ds, rfl, rfl, _⟩
  · cases r <;> rfl
  · rfl
theorem o_isN : CmpD X c .Is gIsN := ⟨m_IsN, opr_weak op_isN fun x y H Q ⟨B, d, e, w, r1, r2, q⟩ => by
  cases e <;> first | exact q.elim | exact ⟨r2.non, by rw [bw_none r1]; exact q⟩⟩
theorem o_notN : CmpD X c .IsNot gNotN := ⟨m_NotN, opr_weak op_notN fun x y H Q ⟨B, d, e, w, r1, r2, q⟩ => by
  cases e <;> first | exact q.elim | exact ⟨r2.non, by rw [bw_none r1]; exact q⟩⟩
/-! ### truth -/
def fTV (fa : SE) : ST := fun ρ Q => fa ρ fun d => match d with | .bool b => Q b | _ => False
theorem t_val {e : Expr} {fa : SE} (ha : PB X c e fa) (he : ∀ whole, isTrue e X.env whole = (do let v ← whole; standAt e.pos; holding [v] (truthy v)) := by intro _; rfl) : PTd X c e (fTV fa) := by
  refine ⟨fun ρ Q Q' k h => ha.mono _ _ _ (fun d hd => ?_) h, pt_weak (pt_val ha.pe he) fun σ H Q ⟨B, ρ, ok, h⟩ => ?_⟩
  · cases d <;> first | exact k _ hd | exact hd.elim
  · refine ⟨B, ρ, ok, ha.mono _ _ _ (fun d hd v B1 H1 g1 r1 => ?_) h⟩
    cases d <;> first | exact hd.elim | skip
    rename_i i
    exact ⟨i, r1.bl, hd B1 H1 g1⟩
def fNot (fa : ST) : ST := fun ρ Q => fa ρ fun b => Q (!b)
theorem t_not {a : Expr} {fa : ST} {pos : Pos} (ha : PTd X c a fa) : PTd X c (.UnaryOp .Not a pos) (fNot fa) :=
  ⟨fun ρ Q Q' k h => ha.mono _ _ _ (fun b hb => k _ hb) h, pt_weak (pt_not ha.pt) fun σ H Q ⟨B, ρ, ok, h⟩ => ⟨B, ρ, ok, h⟩⟩
/-- a chain of and, of or -/
structure PWd (X : Cx) (c : C) (e : Expr) (f : ST) : Prop where
  mono : MonoT f
  pw : PW X e (toT c f)
theorem pw_weak {X : Cx} {e : Expr} {t t' : TT} (h : PW X e t) (w : ∀ σ H Q, t' σ H Q → t σ H Q) : PW X e t' := ⟨fun wh pins s σ H Q I q => h.run wh pins s σ H Q I (w σ H Q q)⟩
def fAnd (fa fb : ST) : ST := fun ρ Q => fa ρ fun b => if b = true then fb ρ Q else Q false
def fOr (fa fb : ST) : ST := fun ρ Q => fa ρ fun b => if b = true then Q true else fb ρ Q
theorem PWd.t {e : Expr} {f : ST} (h : PWd X c e f) : PTd X c e f := ⟨h.mono, h.pw.pt⟩
theorem w_and1 {a : Expr} {fa : ST} {pos : Pos} (ha : PTd X c a fa) : PWd X c (.BoolOp .And [a] pos) fa := ⟨ha.mono, pw_and1 ha.pt⟩
theorem w_or1 {a : Expr} {fa : ST} {pos : Pos} (ha : PTd X c a fa) : PWd X c (.BoolOp .Or [a] pos) fa := ⟨ha.mono, pw_or1 ha.pt⟩
theorem mono_And {fa fb : ST} (ha : MonoT fa) (hb : MonoT fb) : MonoT (fAnd fa fb) := fun ρ Q Q' k h => ha _ _ _ (fun b hd => by
  cases b with
  | true => exact hb _ _ _ k hd
  | false => exact k _ hd) h
theorem mono_Or {fa fb : ST} (ha : MonoT fa) (hb : MonoT fb) : MonoT (fOr fa fb) := fun ρ Q Q' k h => ha _ _ _ (fun b hd => by
  cases b with
  | true => exact k _ hd
  | false => exact hb _ _ _ k hd) h
theorem w_and {a b : Expr} {rest : List Expr} {fa fb : ST} {pos : Pos} (ha : PTd X c a fa) (hb : PWd X c (.BoolOp .And (b :: rest) pos) fb) : PWd X c (.BoolOp .And (a :: b :: rest) pos) (fAnd fa fb) := by
  refine ⟨mono_And ha.mono hb.mono, pw_weak (pw_and ha.pt hb.pw) fun σ H Q ⟨B, ρ, ok, h⟩ => ⟨B, ρ, ok, ha.mono _ _ _ (fun d hd B1 H1 g1 => ?_) h⟩⟩
  cases d with
  | true => exact ⟨B1, ρ, ok.mono g1, hb.mono _ _ _ (fun e he B2 H2 g2 => he B2 H2 (g1.trans ok.w g2)) hd⟩
  | false => exact hd B1 H1 g1
theorem w_or {a b : Expr} {rest : List Expr} {fa fb : ST} {pos : Pos} (ha : PTd X c a fa) (hb : PWd X c (.BoolOp .Or (b :: rest) pos) fb) : PWd X c (.BoolOp .Or (a :: b :: rest) pos) (fOr fa fb) := by
  refine ⟨mono_Or ha.mono hb.mono, pw_weak (pw_or ha.pt hb.pw) fun σ H Q ⟨B, ρ, ok, h⟩ => ⟨B, ρ, ok, ha.mono _ _ _ (fun d hd B1 H1 g1 => ?_) h⟩⟩
  cases d with
  | false => exact ⟨B1, ρ, ok.mono g1, hb.mono _ _ _ (fun e he B2 H2 g2 => he B2 H2 (g1.trans ok.w g2)) hd⟩
  | true => exact hd B1 H1 g1
/-- as values -/
def fAndV (fa fb : SE) : SE := fun ρ Q => fa ρ fun d => match d with | .bool b => if b = true then fb ρ Q else Q (.bool false) | _ => False
def fOrV (fa fb : SE) : SE := fun ρ Q => fa ρ fun d => match d with | .bool b => if b = true then Q (.bool true) else fb ρ Q | _ => False
def fNotV (fa : SE) : SE := fun ρ Q => fa ρ fun d => match d with | .bool b => Q (.bool (!b)) | _ => False
theorem v_one {op : BoolOp} {a : Expr} {fa : SE} {pos : Pos} (ha : PV X c a fa) : PV X c (.BoolOp op [a] pos) fa := ⟨ha.mono, pe_one ha.pe⟩
theorem v_and {a b : Expr} {rest : List Expr} {fa fb : SE} {pos : Pos} (ha : PB X c a fa) (hb : PV X c (.BoolOp .And (b :: rest) pos) fb) : PV X c (.BoolOp .And (a :: b :: rest) pos) (fAndV fa fb) := by
  refine ⟨fun ρ Q Q' k h => ha.mono _ _ _ (fun d hd => ?_) h, pe_weak (pe_and ha.pe hb.pe) fun σ H Q ⟨B, ρ, ok, h⟩ => ⟨B, ρ, ok, ha.mono _ _ _ (fun d hd v B1 H1 g1 r1 => ?_) h⟩⟩
  · cases d <;> first | exact hd.elim | skip
    rename_i b
    cases b with
    | true => exact hb.mono _ _ _ k hd
    | false => exact k _ hd
  · cases d <;> first | exact hd.elim | skip
    rename_i b
    refine ⟨b, r1.bl, ?_⟩
    cases b with
    | true => exact ⟨B1, ρ, ok.mono g1, hb.mono _ _ _ (fun e he v B2 H2 g2 => he v B2 H2 (g1.trans ok.w g2)) hd⟩
    | false => exact hd _ B1 H1 g1 (.bl _)
theorem v_or {a b : Expr} {rest : List Expr} {fa fb : SE} {pos : Pos} (ha : PB X c a fa) (hb : PV X c (.BoolOp .Or (b :: rest) pos) fb) : PV X c (.BoolOp .Or (a :: b :: rest) pos) (fOrV fa fb) := by
  refine ⟨fun ρ Q Q' k h => ha.mono _ _ _ (fun d hd => ?_) h, pe_weak (pe_or ha.pe hb.pe) fun σ H Q ⟨B, ρ, ok, h⟩ => ⟨B, ρ, ok, ha.mono _ _ _ (fun d hd v B1 H1 g1 r1 => ?_) h⟩⟩
  · cases d <;> first | exact hd.elim | skip
    rename_i b
    cases b with
    | false => exact hb.mono _ _ _ k hd
    | true => exact k _ hd
  · cases d <;> first | exact hd.elim | skip
    rename_i b
    refine ⟨b, r1.bl, ?_⟩
    cases b with
    | false => exact ⟨B1, ρ, ok.mono g1, hb.mono _ _ _ (fun e he v B2 H2 g2 => he v B2 H2 (g1.trans ok.w g2)) hd⟩
    | true => exact hd _ B1 H1 g1 (.bl _)
theorem v_not {a : Expr} {fa : SE} {pos : Pos} (ha : PB X c a fa) : PV X c (.UnaryOp .Not a pos) (fNotV fa) := by
  refine ⟨fun ρ Q Q' k h => ha.mono _ _ _ (fun d hd => ?_) h, pe_weak (pe_not ha.pe) fun σ H Q ⟨B, ρ, ok, h⟩ => ⟨B, ρ, ok, ha.mono _ _ _ (fun d hd v B1 H1 g1 r1 => ?_) h⟩⟩
  · cases d <;> first | exact hd.elim | exact k _ hd
  · cases d <;> first | exact hd.elim | skip
    exact ⟨_, r1.bl, hd _ B1 H1 g1 (.bl _)⟩
def fIf (t : ST) (fa fb : SE) : SE := fun ρ Q => t ρ fun b => if b = true then fa ρ Q else fb ρ Q
theorem mono_If {t : ST} {fa fb : SE} (ht : MonoT t) (ha : Mono fa) (hb : Mono fb) : Mono (fIf t fa fb) := fun ρ Q Q' k h => ht _ _ _ (fun b hd => by
  cases b with
  | true => exact ha _ _ _ k hd
  | false => exact hb _ _ _ k hd) h
theorem v_if {t : ST} {cc a b : Expr} {fa fb : SE} {pos : Pos} (ht : PTd X c cc t) (ha : PV X c a fa) (hb : PV X c b fb) : PV X c (.IfExp cc a b pos) (fIf t fa fb) := by
  refine ⟨mono_If ht.mono ha.mono hb.mono, pe_weak (pe_ifExp ht.pt ha.pe hb.pe) fun σ H Q ⟨B, ρ, ok, h⟩ => ⟨B, ρ, ok, ht.mono _ _ _ (fun d hd B1 H1 g1 => ?_) h⟩⟩
  cases d with
  | true => exact ⟨B1, ρ, ok.mono g1, ha.mono _ _ _ (fun e he v B2 H2 g2 => he v B2 H2 (g1.trans ok.w g2)) hd⟩
  | false => exact ⟨B1, ρ, ok.mono g1, hb.mono _ _ _ (fun e he v B2 H2 g2 => he v B2 H2 (g1.trans ok.w g2)) hd⟩
end
end DL
namespace DL
open PySem L2 PyProof.Rows
/-! ### lists of expressions -/
abbrev SL := Env → (List D → Prop) → Prop
def MonoL (f : SL) : Prop := ∀ ρ (Q Q' : List D → Prop), (∀ d, Q d → Q' d) → f ρ Q → f ρ Q'
def BwA (c : C) (B H : Hp) : List V → List D → Prop
  | [], [] => True
  | v :: vs, d :: ds => Bw c B H v d ∧ BwA c B H vs ds
  | _, _ => False
theorem BwA.mono {c : C} {B H B' H' : Hp} (g : Gr c B H B' H') : ∀ {vs : List V} {ds : List D}, BwA c B H vs ds → BwA c B' H' vs ds
  | [], [], _ => trivial
  | _ :: _, _ :: _, h => ⟨h.1.mono g, BwA.mono g h.2⟩
  | [], _ :: _, h => h
  | _ :: _, [], h => h
theorem BwA.one {c : C} {B H : Hp} {vs : List V} {d : D} (h : BwA c B H vs [d]) : ∃ v, vs = [v] ∧ Bw c B H v d := by
  cases vs with
  | nil => exact h.elim
  | cons v r => cases r with
    | nil => exact ⟨v, rfl, h.1⟩
    | cons _ _ => exact h.2.elim
theorem BwA.two {c : C} {B H : Hp} {vs : List V} {d e : D} (h : BwA c B H vs [d, e]) : ∃ v u, vs = [v, u] ∧ Bw c B H v d ∧ Bw c B H u e := by
  cases vs with
  | nil => exact h.elim
  | cons v r =>
    obtain ⟨u, e1, h2⟩ := BwA.one (d := e) (vs := r) h.2
    subst e1
    exact ⟨v, u, rfl, h.1, h2⟩
theorem BwA.nil {c : C} {B H : Hp} {vs : List V} (h : BwA c B H vs []) : vs = [] := by
  cases vs with
  | nil => rfl
  | cons v r => exact h.elim
def toD (c : C) (f : SL) : TA := fun σ H Q => ∃ B ρ, EOk c B H σ ρ ∧ f ρ fun ds => ∀ vs B' H', Gr c B H B' H' → RpA B' vs ds → Q vs H'
def toDB (c : C) (f : SL) : TA := fun σ H Q => ∃ B ρ, EOk c B H σ ρ ∧ f ρ fun ds => ∀ vs B' H', Gr c B H B' H' → BwA c B' H' vs ds → Q vs H'
structure PDd (X : Cx) (c : C) (es : List Expr) (f : SL) : Prop where
  mono : MonoL f
  len : ∀ ρ Q, f ρ Q → f ρ fun ds => Q ds ∧ ds.length = es.length
  pa : PA X es (toD c f)
structure PBd (X : Cx) (c : C) (es : List Expr) (f : SL) : Prop where
  mono : MonoL f
  pa : PA X es (toDB c f)
def fLN : SL := fun _ Q => Q []
def fLC (fa : SE) (fr : SL) : SL := fun ρ Q => fa ρ fun d => fr ρ fun ds => Q (d :: ds)
section
variable {X : Cx} {c : C}
theorem mono_LC {fa : SE} {fr : SL} (ha : Mono fa) (hr : MonoL fr) : MonoL (fLC fa fr) := fun ρ Q Q' k h => ha _ _ _ (fun d hd => hr _ _ _ (fun ds he => k _ he) hd) h
theorem d_nil : PDd X c [] fLN := ⟨fun _ _ _ k h => k _ h, fun _ _ h => ⟨h, rfl⟩, pa_weak pa_nil fun σ H Q ⟨B, ρ, ok, h⟩ => h [] B H (Gr.refl ok.w) .nil⟩
theorem d_cons {e : Expr} {es : List Expr} {fa : SE} {fr : SL} (ha : PV X c e fa) (hr : PDd X c es fr) (hs : starEach (e :: es) X.env = (false, eval e X.env) :: starEach es X.env := by rfl) : PDd X c (e :: es) (fLC fa fr) := by
  refine ⟨mono_LC ha.mono hr.mono, fun ρ Q h => ha.mono _ _ _ (fun d hd => hr.mono _ _ _ (fun ds q => ⟨q.1, by rw [List.length_cons, List.length_cons, q.2]⟩) (hr.len _ _ hd)) h, pa_weak (pa_cons ha.pe hr.pa hs) fun σ H Q ⟨B, ρ, ok, h⟩ => ?_⟩
  refine ⟨B, ρ, ok, ha.mono _ _ _ (fun d hd v B1 H1 g1 r1 => ?_) h⟩
  exact ⟨B1, ρ, ok.mono g1, hr.mono _ _ _ (fun ds he vs B2 H2 g2 r2 => he _ B2 H2 (g1.trans ok.w g2) (.cons (rp_mono g2.b r1) r2)) hd⟩
theorem bb_nil : PBd X c [] fLN := ⟨fun _ _ _ k h => k _ h, pa_weak pa_nil fun σ H Q ⟨B, ρ, ok, h⟩ => h [] B H (Gr.refl ok.w) trivial⟩
theorem bb_cons {e : Expr} {es : List Expr} {fa : SE} {fr : SL} (ha : PB X c e fa) (hr : PBd X c es fr) (hs : starEach (e :: es) X.env = (false, eval e X.env) :: starEach es X.env := by rfl) : PBd X c (e :: es) (fLC fa fr) := by
  refine ⟨mono_LC ha.mono hr.mono, pa_weak (pa_cons ha.pe hr.pa hs) fun σ H Q ⟨B, ρ, ok, h⟩ => ?_⟩
  refine ⟨B, ρ, ok, ha.mono _ _ _ (fun d hd v B1 H1 g1 r1 => ?_) h⟩
  exact ⟨B1, ρ, ok.mono g1, hr.mono _ _ _ (fun ds he vs B2 H2 g2 r2 => he _ B2 H2 (g1.trans ok.w g2) ⟨r1.mono g2, r2⟩) hd⟩
/-- arguments of a def -/
def fAN : SA := fun _ Q => Q []
def fAC (fa : SE) (fr : SA) : SA := fun ρ Q => fa ρ fun d => fr ρ fun ds => Q (.sh d :: ds)
def fAB (i : Nat) (fr : SA) : SA := fun ρ Q => match lk ρ i with | .bg => fr ρ fun ds => Q (.bg :: ds) | _ => False
theorem a_nil : PAd X c [] fAN := ⟨fun _ _ _ k h => k _ h, pa_weak pa_nil fun σ H Q ⟨B, ρ, ok, h⟩ => h [] B H (Gr.refl ok.w) trivial⟩
theorem a_cons {e : Expr} {es : List Expr} {fa : SE} {fr : SA} (ha : PV X c e fa) (hr : PAd X c es fr) (hs : starEach (e :: es) X.env = (false, eval e X.env) :: starEach es X.env := by rfl) : PAd X c (e :: es) (fAC fa fr) := by
  refine ⟨fun ρ Q Q' k h => ha.mono _ _ _ (fun d hd => hr.mono _ _ _ (fun ds he => k _ he) hd) h, pa_weak (pa_cons ha.pe hr.pa hs) fun σ H Q ⟨B, ρ, ok, h⟩ => ?_⟩
  refine ⟨B, ρ, ok, ha.mono _ _ _ (fun d hd v B1 H1 g1 r1 => ?_) h⟩
  exact ⟨B1, ρ, ok.mono g1, hr.mono _ _ _ (fun ds he vs B2 H2 g2 r2 => he _ B2 H2 (g1.trans ok.w g2) ⟨rp_mono g2.b r1, r2⟩) hd⟩
/-- the bag handed on -/
theorem a_bag (i : Nat) {x : Str} {pos : Pos} {es : List Expr} {fr : SA} (hr : PAd X c es fr) (hN : X.N[i]? = some x := by rfl) (hv : Vis X.env.scope x := by first | exact Or.inl rfl | exact Or.inr (Or.inl rfl) | exact Or.inr (Or.inr rfl))
    (hs : starEach (.Name x pos :: es) X.env = (false, eval (.Name x pos) X.env) :: starEach es X.env := by rfl) (hd : (x == ("__debug__" : Str)) = false := by decide) (hcd : (x == ("__classdict__" : Str)) = false := by decide) : PAd X c (.Name x pos :: es) (fAB i fr) := by
  refine ⟨fun ρ Q Q' k h => ?_, pa_weak (pa_cons (pe_var hN hv hd hcd) hr.pa hs) fun σ H Q ⟨B, ρ, ok, h⟩ => ?_⟩
  · unfold fAB at h ⊢
    cases e : lk ρ i <;> rw [e] at h <;> first | exact h.elim | exact hr.mono _ _ _ (fun ds he => k _ he) h
  · unfold fAB at h
    cases e : lk ρ i <;> rw [e] at h <;> first | exact h.elim | skip
    have h1 := ok.sl i _ (lk_get e (fun z => nomatch z))
    exact ⟨_, h1, B, ρ, ok, hr.mono _ _ _ (fun ds he vs B2 H2 g2 r2 => he _ B2 H2 g2 ⟨rfl, r2⟩) h⟩
/-! ### new lists -/
def toN (c : C) (f : SL) : TE := fun σ H Q => ∃ B ρ, EOk c B H σ ρ ∧ f ρ fun ds => ∀ p vs B' H', Gr c B H B' H' → H p = none → B' p = none → H' p = some (.lst vs) → RpA B' vs ds → Q (.ref p) H'
structure PN (X : Cx) (c : C) (e : Expr) (f : SL) : Prop where
  mono : MonoL f
  pe : PE X e (toN c f)
/-- what is new may be shared -/
theorem Gr.share {B H B' H' : Hp} (w : Wd c B H) (g : Gr c B H B' H') {p : Addr} {vs : List V} (h0 : H p = none) (h1 : B' p = none) (h2 : H' p = some (.lst vs)) : Gr c B H (upd B' p (.lst vs)) H' := by
  have nb : ¬ c.isBag p := fun z => w.there z h0
  refine ⟨g.b.trans (Evl.Ex.new h1), g.h, fun a ha => ?_, fun a o e => ?_, g.w.bag.keep fun a ha => ⟨upd_ne fun z => nb (z ▸ ha), rfl⟩⟩
  · rw [upd_ne (fun z => ha (by rw [z]; exact h0))]
    exact g.n a ha
  · by_cases z : a = p
    · subst z
      rw [upd_same] at e
      rw [h2]; exact e
    · rw [upd_ne z] at e; exact g.w.sub a o e
def fNV (f : SL) : SE := fun ρ Q => f ρ fun ds => Q (.list ds)
theorem PN.v {e : Expr} {f : SL} (h : PN X c e f) : PV X c e (fNV f) := by
  refine ⟨fun ρ Q Q' k q => h.mono _ _ _ (fun ds hd => k _ hd) q, pe_weak h.pe fun σ H Q ⟨B, ρ, ok, q⟩ => ⟨B, ρ, ok, h.mono _ _ _ (fun ds hd p vs B' H' g h0 h1 h2 r => ?_) q⟩⟩
  have g' := Gr.share ok.w g h0 h1 h2
  exact hd _ _ _ g' (.lst upd_same (rpa_mono (Evl.Ex.new h1) r))
theorem n_lst {es : List Expr} {f : SL} {pos : Pos} (h : PDd X c es f) (hl : es.length ≤ 1000 := by decide) : PN X c (.List es pos) f := by
  refine ⟨h.mono, pe_weak (pe_lst h.pa) fun σ H Q ⟨B, ρ, ok, q⟩ => ⟨B, ρ, ok, h.mono _ _ _ (fun ds hd vs B' H' g r => ?_) (h.len _ _ q)⟩⟩
  refine ⟨?_, fun p hp => ?_⟩
  · rw [rpa_len r, hd.2]; exact Nat.le_of_lt (small1000 hl)
  · have g1 := Gr.newO (o := .lst vs) g.w hp
    have hB : B' p = none := Evl.fresh_back g.w.sub hp
    refine hd.1 p vs B' _ (g.trans ok.w g1) ?_ hB upd_same r
    cases e : H p with
    | none => rfl
    | some o =>
      by_cases z : c.isBag p
      · exact absurd hp (g.w.there z)
      · rw [g.h p o z e] at hp; cases hp
def fTup (f : SL) : SE := fun ρ Q => f ρ fun ds => Q (.tuple ds)
theorem v_tup {es : List Expr} {f : SL} {k : Nat} {pos : Pos} (h : PDd X c es f) (hl : es.length ≤ 1000 := by decide) : PV X c (.Tuple es k pos) (fTup f) := by
  refine ⟨fun ρ Q Q' k q => h.mono _ _ _ (fun ds hd => k _ hd) q, pe_weak (pe_tup h.pa) fun σ H Q ⟨B, ρ, ok, q⟩ => ⟨B, ρ, ok, h.mono _ _ _ (fun ds hd vs B' H' g r => ?_) (h.len _ _ q)⟩⟩
  refine ⟨?_, fun p hp => ?_⟩
  · rw [rpa_len r, hd.2]; exact Nat.le_of_lt (small1000 hl)
  · have g1 := Gr.new (o := .tup vs) g.w hp
    exact hd.1 _ _ _ (g.trans ok.w g1) (.tup upd_same (rpa_mono g1.b r))
/-! ### calls of what Python brings -/
abbrev GB := List D → (D → Prop) → Prop
def MonoB (g : GB) : Prop := ∀ ds (Q Q' : D → Prop), (∀ z, Q z → Q' z) → g ds Q → g ds Q'
structure CallD (X : Cx) (c : C) (f : Value) (g : GB) : Prop where
  mono : MonoB g
  call : CallR X f fun xs H Q => ∃ B ds, Wd c B H ∧ BwA c B H xs ds ∧ g ds fun z => ∀ v B' H', Gr c B H B' H' → Rp B' v z → Q v H'
theorem callr_weak {f : Value} {r r' : List V → Hp → VK → Prop} (h : CallR X f r) (w : ∀ xs H Q, r' xs H Q → r xs H Q) : CallR X f r' := fun pins s σ H xs us Q I rv q => h pins s σ H xs us Q I rv (w xs H Q q)
def fCB (g : GB) (fa : SL) : SE := fun ρ Q => fa ρ fun ds => g ds Q
theorem callB_go {g : GB} {fa : SL} (hg : MonoB g) (ha : MonoL fa) (σ : L2.St) (H : Hp) (Q : VK) (h : toV c (fCB g fa) σ H Q) :
    tCB (fun xs H Q => ∃ B ds, Wd c B H ∧ BwA c B H xs ds ∧ g ds fun z => ∀ v B' H', Gr c B H B' H' → Rp B' v z → Q v H') (toDB c fa) σ H Q := by
  obtain ⟨B, ρ, ok, h⟩ := h
  refine ⟨B, ρ, ok, ha _ _ _ (fun ds hd vs B1 H1 g1 r1 => ?_) h⟩
  exact ⟨B1, ds, g1.w, r1, hg _ _ _ (fun z hz v B2 H2 g2 r2 => hz v B2 H2 (g1.trans ok.w g2) r2) hd⟩
theorem v_callB {id : String} {g : GB} {fa : SL} {x : Str} {p pos : Pos} {e : Expr} {es : List Expr} (hc : CallD X c (.builtin id) g) (hm : X.mg x = none) (ha : PBd X c (e :: es) fa) (hg : Gl X x := by rfl) (hv : bootBuiltins x = some (.builtin id) := by decide +kernel)
    (hn : x ≠ "__name__" := by decide) (hdb : (x == ("__debug__" : Str)) = false := by decide)
    (he : starEach (e :: es) X.env = (false, eval e X.env) :: starEach es X.env := by rfl) (hpl : (backTo pos (starEach es X.env)).any (·.1) = false := by rfl) : PV X c (.Call (.Name x p) (e :: es) [] pos) (fCB g fa) :=
  ⟨fun ρ Q Q' k h => ha.mono _ _ _ (fun ds hd => hc.mono _ _ _ k hd) h, pe_weak (pe_callB hc.call hg hm hv ha.pa hn hdb he hpl) (callB_go hc.mono ha.mono)⟩
theorem v_callT {T : String} {g : GB} {fa : SL} {x : Str} {p pos : Pos} {e : Expr} {es : List Expr} (hc : CallD X c (.type T) g) (hm : X.mg x = none) (ha : PBd X c (e :: es) fa) (hg : Gl X x := by rfl) (hv : bootBuiltins x = some (.type T) := by decide +kernel)
    (hn : x ≠ "__name__" := by decide) (hdb : (x == ("__debug__" : Str)) = false := by decide)
    (he : starEach (e :: es) X.env = (false, eval e X.env) :: starEach es X.env := by rfl) (hpl : (backTo pos (starEach es X.env)).any (·.1) = false := by rfl) : PV X c (.Call (.Name x p) (e :: es) [] pos) (fCB g fa) :=
  ⟨fun ρ Q Q' k h => ha.mono _ _ _ (fun ds hd => hc.mono _ _ _ k hd) h, pe_weak (pe_callTy hc.call hg hm hv ha.pa hn hdb he hpl) (callB_go hc.mono ha.mono)⟩
def bInt : GB | [.int i], Q => Q (.int i) | [.bool b], Q => Q (.int (if b then 1 else 0)) | _, _ => False
def bAbs : GB | [.int i], Q => Q (.int (if i < 0 then -i else i)) | _, _ => False
def bLen : GB | [.list ds], Q => Q (.int ds.length) | [.tuple ds], Q => Q (.int ds.length) | [.str x], Q => x.length ≤ sizeLine ∧ Q (.int x.length) | _, _ => False
def bMax2 : GB | [.int i, .int j], Q => Q (.int (if j > i then j else i)) | _, _ => False
def bMin2 : GB | [.int i, .int j], Q => Q (.int (if j < i then j else i)) | _, _ => False
theorem m_Int : MonoB bInt := fun ds Q Q' k h => by
  unfold bInt at h ⊢
  split at h <;> first | exact k _ h | exact h.elim
theorem m_Abs : MonoB bAbs := fun ds Q Q' k h => by
  unfold bAbs at h ⊢
  split at h <;> first | exact k _ h | exact h.elim
theorem m_Len : MonoB bLen := fun ds Q Q' k h => by
  unfold bLen at h ⊢
  split at h <;> first | exact k _ h | exact ⟨h.1, k _ h.2⟩ | exact h.elim
theorem m_Max2 : MonoB bMax2 := fun ds Q Q' k h => by
  unfold bMax2 at h ⊢
  split at h <;> first | exact k _ h | exact h.elim
theorem m_Min2 : MonoB bMin2 := fun ds Q Q' k h => by
  unfold bMin2 at h ⊢
  split at h <;> first | exact k _ h | exact h.elim
theorem c_int : CallD X c (.type "int") bInt := ⟨m_Int, callr_weak call_int1 fun xs H Q ⟨B, ds, w, ra, q⟩ => by
  unfold bInt at q
  split at q <;> first | exact q.elim | skip
  · obtain ⟨v, e, r⟩ := ra.one
    subst e
    rw [r.int]
    exact .inl ⟨_, rfl, q _ B H (Gr.refl w) (.int _)⟩
  · obtain ⟨v, e, r⟩ := ra.one
    subst e
    rw [r.bl]
    exact .inr ⟨_, rfl, q _ B H (Gr.refl w) (.int _)⟩⟩
theorem c_abs : CallD X c (.builtin "abs") bAbs := ⟨m_Abs, callr_weak call_abs fun xs H Q ⟨B, ds, w, ra, q⟩ => by
  unfold bAbs at q
  split at q <;> first | exact q.elim | skip
  obtain ⟨v, e, r⟩ := ra.one
  subst e
  rw [r.int]
  exact ⟨_, rfl, q _ B H (Gr.refl w) (.int _)⟩⟩
theorem c_len : CallD X c (.builtin "len") bLen := ⟨m_Len, callr_weak call_len fun xs H Q ⟨B, ds, w, ra, q⟩ => by
  unfold bLen at q
  split at q <;> first | exact q.elim | skip
  · obtain ⟨v, e, r⟩ := ra.one
    subst e
    obtain ⟨a, xs, rfl, h1, h2⟩ := r.list w
    exact ⟨_, xs.length, rfl, .inl ⟨xs, SqL.of h1, rfl⟩, by rw [rpa_len h2]; exact q _ B H (Gr.refl w) (.int _)⟩
  · obtain ⟨v, e, r⟩ := ra.one
    subst e
    obtain ⟨a, xs, rfl, h1, h2⟩ := r.tup w
    exact ⟨_, xs.length, rfl, .inr ⟨xs, SqT.of h1, rfl⟩, by rw [rpa_len h2]; exact q _ B H (Gr.refl w) (.int _)⟩
  · obtain ⟨v, e, r⟩ := ra.one
    subst e
    rw [r.str]
    exact ⟨_, _, rfl, ⟨q.1, rfl⟩, q.2 _ B H (Gr.refl w) (.int _)⟩⟩
theorem c_max2 (hc : X.calm = true) : CallD X c (.builtin "max") bMax2 := ⟨m_Max2, callr_weak (call_max2 hc) fun xs H Q ⟨B, ds, w, ra, q⟩ => by
  unfold bMax2 at q
  split at q <;> first | exact q.elim | skip
  obtain ⟨v, u, e, r1, r2⟩ := ra.two
  subst e
  rw [r1.int, r2.int]
  exact ⟨_, _, rfl, q _ B H (Gr.refl w) (.int _)⟩⟩
theorem c_min2 (hc : X.calm = true) : CallD X c (.builtin "min") bMin2 := ⟨m_Min2, callr_weak (call_min2 hc) fun xs H Q ⟨B, ds, w, ra, q⟩ => by
  unfold bMin2 at q
  split at q <;> first | exact q.elim | skip
  obtain ⟨v, u, e, r1, r2⟩ := ra.two
  subst e
  rw [r1.int, r2.int]
  exact ⟨_, _, rfl, q _ B H (Gr.refl w) (.int _)⟩⟩
/-- tuple(x): of a list a new one, a tuple itself -/
def bTuple : GB | [.list ds], Q => Q (.tuple ds) | [.tuple ds], Q => Q (.tuple ds) | _, _ => False
theorem m_Tuple : MonoB bTuple := fun ds Q Q' k h => by
  unfold bTuple at h ⊢
  split at h <;> first | exact k _ h | exact h.elim
theorem c_tuple : CallD X c (.type "tuple") bTuple := ⟨m_Tuple, callr_weak call_tuple_of fun xs H Q ⟨B, ds, w, ra, q⟩ => by
  unfold bTuple at q
  split at q <;> first | exact q.elim | skip
  · obtain ⟨v, e, r⟩ := ra.one
    subst e
    obtain ⟨a, xs, rfl, h1, h2⟩ := r.list w
    refine ⟨a, xs, rfl, .inl ⟨SqL.of h1, fun l hl => ?_⟩⟩
    have g := Gr.new (o := .tup xs) w hl
    exact q _ _ _ g (.tup upd_same (rpa_mono g.b h2))
  · obtain ⟨v, e, r⟩ := ra.one
    subst e
    obtain ⟨a, xs, rfl, h1, h2⟩ := r.tup w
    refine ⟨a, xs, rfl, .inr ⟨SqT.of h1, ?_⟩⟩
    rcases r with r | ⟨_, _, _, _, e, _⟩
    · exact q _ B H (Gr.refl w) r
    · cases e⟩
/-- sums, bounds, all, any of lists -/
def asInts : List D → Option (List Int)
  | [] => some []
  | .int i :: r => (asInts r).map (i :: ·)
  | _ :: _ => none
def asBls : List D → Option (List Bool)
  | [] => some []
  | .bool i :: r => (asBls r).map (i :: ·)
  | _ :: _ => none
theorem asInts_eq : ∀ {ds : List D} {ns : List Int}, asInts ds = some ns → ds = ns.map PyData.int
  | [], ns, h => by
    simp only [asInts] at h
    cases h; rfl
  | d :: ds, ns, h => by
    cases d <;> simp only [asInts] at h <;> first | cases h | skip
    cases e : asInts ds with
    | none => rw [e] at h; cases h
    | some m =>
      rw [e] at h
      cases h
      rw [asInts_eq e]; rfl
theorem asInts_map : ∀ (ns : List Int), asInts (ns.map PyData.int) = some ns
  | [] => rfl
  | n :: ns => by simp only [List.map_cons, asInts, asInts_map ns, Option.map_some]
theorem asBls_eq : ∀ {ds : List D} {ns : List Bool}, asBls ds = some ns → ds = ns.map PyData.bool
  | [], ns, h => by
    simp only [asBls] at h
    cases h; rfl
  | d :: ds, ns, h => by
    cases d <;> simp only [asBls] at h <;> first | cases h | skip
    cases e : asBls ds with
    | none => rw [e] at h; cases h
    | some m =>
      rw [e] at h
      cases h
      rw [asBls_eq e]; rfl
theorem asBls_map : ∀ (ns : List Bool), asBls (ns.map PyData.bool) = some ns
  | [] => rfl
  | n :: ns => by simp only [List.map_cons, asBls, asBls_map ns, Option.map_some]
def intsOf : D → Option (List Int) | .list ds => asInts ds | _ => none
def blsOf : D → Option (List Bool) | .list ds => asBls ds | _ => none
def bSum : GB | [d], Q => (match intsOf d with | some ns => Q (.int ns.sum) | none => False) | _, _ => False
def bMaxL : GB | [d], Q => (match intsOf d with | some ns => 0 < ns.length ∧ ∀ m, m ∈ ns → (∀ y, y ∈ ns → y ≤ m) → Q (.int m) | none => False) | _, _ => False
def bMinL : GB | [d], Q => (match intsOf d with | some ns => 0 < ns.length ∧ ∀ m, m ∈ ns → (∀ y, y ∈ ns → m ≤ y) → Q (.int m) | none => False) | _, _ => False
def bAll : GB | [d], Q => (match blsOf d with | some ns => Q (.bool (ns.all id)) | none => False) | _, _ => False
def bAny : GB | [d], Q => (match blsOf d with | some ns => Q (.bool (ns.any id)) | none => False) | _, _ => False
theorem ints_rd {B H : Hp} {v : V} {d : D} {ns : List Int} (w : Wd c B H) (r : Bw c B H v d) (h : intsOf d = some ns) : ∃ a, v = .ref a ∧ SqL X.K H a (ns.map V.int) := by
  cases d <;> simp only [intsOf] at h <;> first | cases h | skip
  obtain ⟨a, xs, rfl, h1, h2⟩ := r.list w
  rw [asInts_eq h] at h2
  rw [rpa_ints h2] at h1
  exact ⟨a, rfl, SqL.of h1⟩
theorem bls_rd {B H : Hp} {v : V} {d : D} {ns : List Bool} (w : Wd c B H) (r : Bw c B H v d) (h : blsOf d = some ns) : ∃ a, v = .ref a ∧ SqL X.K H a (ns.map V.bl) := by
  cases d <;> simp only [blsOf] at h <;> first | cases h | skip
  obtain ⟨a, xs, rfl, h1, h2⟩ := r.list w
  rw [asBls_eq h] at h2
  rw [rpa_bls h2] at h1
  exact ⟨a, rfl, SqL.of h1⟩
theorem m_Sum : MonoB bSum := fun ds Q Q' k h => by
  unfold bSum at h ⊢
  split at h <;> first | exact h.elim | skip
  split at h <;> first | exact h.elim | exact k _ h
theorem c_sum (hc : X.calm = true) : CallD X c (.builtin "sum") bSum := ⟨m_Sum, callr_weak (cr_sum hc) fun xs H Q ⟨B, ds, w, ra, q⟩ => by
  unfold bSum at q
  split at q <;> first | exact q.elim | skip
  split at q <;> first | exact q.elim | skip
  rename_i e
  obtain ⟨v, e1, r⟩ := ra.one
  subst e1
  obtain ⟨a, rfl, h⟩ := ints_rd (X := X) w r e
  exact ⟨a, _, rfl, h, q _ B H (Gr.refl w) (.int _)⟩⟩
theorem m_MaxL : MonoB bMaxL := fun ds Q Q' k h => by
  unfold bMaxL at h ⊢
  split at h <;> first | exact h.elim | skip
  split at h <;> first | exact h.elim | exact ⟨h.1, fun m h1 h2 => k _ (h.2 m h1 h2)⟩
theorem c_maxL (hc : X.calm = true) : CallD X c (.builtin "max") bMaxL := ⟨m_MaxL, callr_weak (cr_max hc) fun xs H Q ⟨B, ds, w, ra, q⟩ => by
  unfold bMaxL at q
  split at q <;> first | exact q.elim | skip
  split at q <;> first | exact q.elim | skip
  rename_i e
  obtain ⟨v, e1, r⟩ := ra.one
  subst e1
  obtain ⟨a, rfl, h⟩ := ints_rd (X := X) w r e
  exact ⟨a, _, rfl, h, q.1, fun m h1 h2 => q.2 m h1 h2 _ B H (Gr.refl w) (.int _)⟩⟩
theorem m_MinL : MonoB bMinL := fun ds Q Q' k h => by
  unfold bMinL at h ⊢
  split at h <;> first | exact h.elim | skip
  split at h <;> first | exact h.elim | exact ⟨h.1, fun m h1 h2 => k _ (h.2 m h1 h2)⟩
theorem c_minL (hc : X.calm = true) : CallD X c (.builtin "min") bMinL := ⟨m_MinL, callr_weak (cr_min hc) fun xs H Q ⟨B, ds, w, ra, q⟩ => by
  unfold bMinL at q
  split at q <;> first | exact q.elim | skip
  split at q <;> first | exact q.elim | skip
  rename_i e
  obtain ⟨v, e1, r⟩ := ra.one
  subst e1
  obtain ⟨a, rfl, h⟩ := ints_rd (X := X) w r e
  exact ⟨a, _, rfl, h, q.1, fun m h1 h2 => q.2 m h1 h2 _ B H (Gr.refl w) (.int _)⟩⟩
theorem m_All : MonoB bAll := fun ds Q Q' k h => by
  unfold bAll at h ⊢
  split at h <;> first | exact h.elim | skip
  split at h <;> first | exact h.elim | exact k _ h
theorem c_all (hc : X.calm = true) : CallD X c (.builtin "all") bAll := ⟨m_All, callr_weak (cr_all hc) fun xs H Q ⟨B, ds, w, ra, q⟩ => by
  unfold bAll at q
  split at q <;> first | exact q.elim | skip
  split at q <;> first | exact q.elim | skip
  rename_i e
  obtain ⟨v, e1, r⟩ := ra.one
  subst e1
  obtain ⟨a, rfl, h⟩ := bls_rd (X := X) w r e
  exact ⟨a, _, rfl, h, q _ B H (Gr.refl w) (.bl _)⟩⟩
theorem m_Any : MonoB bAny := fun ds Q Q' k h => by
  unfold bAny at h ⊢
  split at h <;> first | exact h.elim | skip
  split at h <;> first | exact h.elim | exact k _ h
theorem c_any (hc : X.calm = true) : CallD X c (.builtin "any") bAny := ⟨m_Any, callr_weak (cr_any hc) fun xs H Q ⟨B, ds, w, ra, q⟩ => by
  unfold bAny at q
  split at q <;> first | exact q.elim | skip
  split at q <;> first | exact q.elim | skip
  rename_i e
  obtain ⟨v, e1, r⟩ := ra.one
  subst e1
  obtain ⟨a, rfl, h⟩ := bls_rd (X := X) w r e
  exact ⟨a, _, rfl, h, q _ B H (Gr.refl w) (.bl _)⟩⟩
/-- a new list out of a list, a tuple -/
def seqOf : D → Option (List D) | .list ds => some ds | .tuple ds => some ds | _ => none
theorem seq_rd {B H : Hp} {v : V} {d : D} {ds : List D} (w : Wd c B H) (r : Bw c B H v d) (h : seqOf d = some ds) : ∃ a xs, v = .ref a ∧ (SqL X.K H a xs ∨ SqT X.K H a xs) ∧ RpA B xs ds := by
  cases d <;> simp only [seqOf] at h <;> first | cases h | skip
  · obtain ⟨a, xs, rfl, h1, h2⟩ := r.list w
    exact ⟨a, xs, rfl, .inl (SqL.of h1), h2⟩
  · obtain ⟨a, xs, rfl, h1, h2⟩ := r.tup w
    exact ⟨a, xs, rfl, .inr (SqT.of h1), h2⟩
def fSeq (fa : SE) : SL := fun ρ Q => fa ρ fun d => match seqOf d with | some ds => Q ds | none => False
theorem mono_Seq {fa : SE} (ha : Mono fa) : MonoL (fSeq fa) := fun ρ Q Q' k h => ha _ _ _ (fun d hd => by
  split at hd <;> first | exact hd.elim | exact k _ hd) h
theorem Gr.back {B H B' H' : Hp} (g : Gr c B H B' H') {p : Addr} (hp : H' p = none) : H p = none := by
  cases e : H p with
  | none => rfl
  | some o =>
    by_cases z : c.isBag p
    · exact absurd hp (g.w.there z)
    · rw [g.h p o z e] at hp; cases hp
theorem n_list {e : Expr} {fa : SE} {x : Str} {p pos : Pos} (hm : X.mg x = none) (ha : PB X c e fa) (hg : Gl X x := by rfl) (hv : bootBuiltins x = some (.type "list") := by decide +kernel)
    (hn : x ≠ "__name__" := by decide) (hdb : (x == ("__debug__" : Str)) = false := by decide)
    (he : starEach [e] X.env = (false, eval e X.env) :: starEach [] X.env := by rfl) (hpl : (backTo pos (starEach [] X.env)).any (·.1) = false := by rfl) : PN X c (.Call (.Name x p) [e] [] pos) (fSeq fa) := by
  refine ⟨mono_Seq ha.mono, pe_weak (pe_callTy call_list_of hg hm hv (pa_cons ha.pe pa_nil he) hn hdb he hpl) fun σ H Q ⟨B, ρ, ok, h⟩ => ⟨B, ρ, ok, ha.mono _ _ _ (fun d hd v B1 H1 g1 r1 => ?_) h⟩⟩
  split at hd <;> first | exact hd.elim | skip
  rename_i ds e1
  obtain ⟨a, xs, rfl, h1, h2⟩ := seq_rd (X := X) g1.w r1 e1
  refine ⟨a, xs, rfl, h1, fun l hl => ?_⟩
  have g2 := Gr.newO (o := .lst xs) g1.w hl
  exact hd l xs B1 _ (g1.trans ok.w g2) (g1.back hl) (Evl.fresh_back g1.w.sub hl) upd_same h2
/-! ### items and parts -/
def ixD (ds : List D) (i : Int) : Option D := atI ds i
def gIx : G2
  | .list ds, .int i, Q => (match atI ds i with | some d => Q d | none => False)
  | .tuple ds, .int i, Q => (match atI ds i with | some d => Q d | none => False)
  | .str x, .int i, Q => x.length ≤ sizeLine ∧ (match atI x.cps.toList i with | some k => Q (.str ⟨#[k]⟩) | none => False)
  | _, _, _ => False
theorem m_Ix : MonoG gIx := fun d e Q Q' k h => by
  unfold gIx at h ⊢
  split at h <;> first | exact h.elim | skip
  · split at h <;> first | exact h.elim | exact k _ h
  · split at h <;> first | exact h.elim | exact k _ h
  · refine ⟨h.1, ?_⟩
    have h2 := h.2
    split at h2 <;> first | exact h2.elim | exact k _ h2
theorem atI_rpa {B : Hp} {xs : List V} {ds : List D} {i : Int} {d : D} (r : RpA B xs ds) (h : atI ds i = some d) : ∃ v, atI xs i = some v ∧ Rp B v d := by
  unfold atI at h ⊢
  rw [rpa_len r]
  cases e : ixN ds.length i with
  | none => rw [e] at h; cases h
  | some j =>
    rw [e] at h
    obtain ⟨v, h1, h2⟩ := rpa_get r (show ds[j]? = some d from h)
    exact ⟨v, h1, h2⟩
theorem v_ix {a b : Expr} {fa fb : SE} {pos : Pos} (ha : PB X c a fa) (hb : PB X c b fb) (hs : PlainIx b := by exact fun _ _ => rfl) : PV X c (.Subscript a b pos) (fBin gIx fa fb) := by
  refine ⟨mono_Bin m_Ix ha.mono hb.mono, pe_weak (pe_ix ix_seq ha.pe hb.pe hs) fun σ H Q h => ?_⟩
  obtain ⟨B, ρ, ok, h⟩ := h
  refine ⟨B, ρ, ok, ha.mono _ _ _ (fun d hd v B1 H1 g1 r1 => ?_) h⟩
  refine ⟨B1, ρ, ok.mono g1, hb.mono _ _ _ (fun e he u B2 H2 g2 r2 => ?_) hd⟩
  have r1' := r1.mono g2
  have g3 := g1.trans ok.w g2
  unfold gIx at he
  split at he <;> first | exact he.elim | skip
  · split at he <;> first | exact he.elim | skip
    rename_i e1
    obtain ⟨p, xs, rfl, h1, h2⟩ := r1'.list g2.w
    obtain ⟨y, h3, h4⟩ := atI_rpa h2 e1
    rw [r2.int]
    exact .inl ⟨p, xs, _, y, rfl, rfl, SqL.of h1, h3, he _ B2 H2 g3 h4⟩
  · split at he <;> first | exact he.elim | skip
    rename_i e1
    obtain ⟨p, xs, rfl, h1, h2⟩ := r1'.tup g2.w
    obtain ⟨y, h3, h4⟩ := atI_rpa h2 e1
    rw [r2.int]
    exact .inr (.inl ⟨p, xs, _, y, rfl, rfl, SqT.of h1, h3, he _ B2 H2 g3 h4⟩)
  · obtain ⟨hz, he⟩ := he
    split at he <;> first | exact he.elim | skip
    rename_i e1
    rw [r1'.str, r2.int]
    exact .inr (.inr ⟨_, _, _, rfl, rfl, hz, e1, he _ B2 H2 g3 (.str _)⟩)
/-- the ends of a part -/
abbrev SO := Env → (Option Int → Prop) → Prop
def toO (c : C) (f : SO) : TO := fun σ H Q => ∃ B ρ, EOk c B H σ ρ ∧ f ρ fun o => ∀ B' H', Gr c B H B' H' → Q o H'
structure POd (X : Cx) (c : C) (e : Option Expr) (f : SO) : Prop where
  mono : ∀ ρ (Q Q' : Option Int → Prop), (∀ d, Q d → Q' d) → f ρ Q → f ρ Q'
  po : PO X e (toO c f)
theorem po_weak {e : Option Expr} {t t' : TO} (h : PO X e t) (w : ∀ σ H Q, t' σ H Q → t σ H Q) : PO X e t' := ⟨fun pins s σ H Q I q => h.run pins s σ H Q I (w σ H Q q)⟩
def fON : SO := fun _ Q => Q none
def fOS (fa : SE) : SO := fun ρ Q => fa ρ fun d => match d with | .int i => Q (some i) | _ => False
theorem po_n : POd X c none fON := ⟨fun _ _ _ k h => k _ h, po_weak po_none fun σ H Q ⟨B, ρ, ok, h⟩ => h B H (Gr.refl ok.w)⟩
theorem po_s {e : Expr} {fa : SE} (ha : PB X c e fa) : POd X c (some e) (fOS fa) := by
  refine ⟨fun ρ Q Q' k h => ha.mono _ _ _ (fun d hd => ?_) h, po_weak (po_some ha.pe) fun σ H Q ⟨B, ρ, ok, h⟩ => ⟨B, ρ, ok, ha.mono _ _ _ (fun d hd v B1 H1 g1 r1 => ?_) h⟩⟩
  · cases d <;> first | exact hd.elim | exact k _ hd
  · cases d <;> first | exact hd.elim | skip
    exact ⟨_, r1.int, hd B1 H1 g1⟩
def cutD (ds : List D) (lo hi : Option Int) : List D := (ds.drop (HT.sIx ds.length 0 lo)).take (HT.sIx ds.length ds.length hi - HT.sIx ds.length 0 lo)
theorem cut_rpa {B : Hp} {xs : List V} {ds : List D} (r : RpA B xs ds) (lo hi : Option Int) : RpA B (cutV xs lo hi) (cutD ds lo hi) := by
  unfold cutV cutD
  rw [rpa_len r]
  exact rpa_take _ (rpa_drop _ r)
/-- t[a:b] of a tuple, a text -/
def fSlT (fa : SE) (fl fh : SO) : SE := fun ρ Q => fa ρ fun d => fl ρ fun lo => fh ρ fun hi => match d with | .tuple ds => Q (.tuple (cutD ds lo hi)) | _ => False
/-- l[a:b] of a list -/
def fSlL (fa : SE) (fl fh : SO) : SL := fun ρ Q => fa ρ fun d => fl ρ fun lo => fh ρ fun hi => match d with | .list ds => Q (cutD ds lo hi) | _ => False
theorem cutV_whole {xs : List V} {lo hi : Option Int} (h : HT.sIx xs.length 0 lo = 0 ∧ HT.sIx xs.length xs.length hi = xs.length) : cutV xs lo hi = xs := by
  unfold cutV
  rw [h.1, h.2]
  simp
theorem v_slT {a : Expr} {lo hi : Option Expr} {fa : SE} {fl fh : SO} {p2 pos : Pos} (ha : PB X c a fa) (hl : POd X c lo fl) (hh : POd X c hi fh) : PV X c (.Subscript a (.Slice lo hi none p2) pos) (fSlT fa fl fh) := by
  refine ⟨fun ρ Q Q' k h => ha.mono _ _ _ (fun d hd => hl.mono _ _ _ (fun o1 h1 => hh.mono _ _ _ (fun o2 h2 => ?_) h1) hd) h, pe_weak (pe_slice sl_tupA ha.pe hl.po hh.po) fun σ H Q ⟨B, ρ, ok, h⟩ => ⟨B, ρ, ok, ha.mono _ _ _ (fun d hd v B1 H1 g1 r1 => ?_) h⟩⟩
  · cases d <;> first | exact h2.elim | exact k _ h2
  · refine ⟨B1, ρ, ok.mono g1, hl.mono _ _ _ (fun o1 h1 B2 H2 g2 => ?_) hd⟩
    refine ⟨B2, ρ, (ok.mono g1).mono g2, hh.mono _ _ _ (fun o2 h2 B3 H3 g3 => ?_) h1⟩
    have g := (g1.trans ok.w g2).trans ok.w g3
    cases d <;> first | exact h2.elim | skip
    have r := (r1.mono g2).mono g3
    obtain ⟨q, xs, rfl, h3, h4⟩ := r.tup g3.w
    refine ⟨q, xs, rfl, SqT.of h3, fun hw => ?_, fun _ t ht => ?_⟩
    · have e := cut_rpa h4 o1 o2
      rw [cutV_whole hw] at e
      rcases r with r | ⟨_, _, _, _, e, _⟩
      · obtain ⟨q', xs', e1, e2, e3⟩ := rp_tup r
        cases e1
        have e4 := g3.w.sub _ _ e2
        rw [h3] at e4
        cases e4
        exact h2 _ B3 H3 g (.tup e2 e)
      · cases e
    · have g4 := Gr.new (o := .tup (cutV xs o1 o2)) g3.w ht
      exact h2 _ _ _ (g.trans ok.w g4) (.tup upd_same (rpa_mono g4.b (cut_rpa h4 o1 o2)))
theorem n_slL {a : Expr} {lo hi : Option Expr} {fa : SE} {fl fh : SO} {p2 pos : Pos} (ha : PB X c a fa) (hl : POd X c lo fl) (hh : POd X c hi fh) : PN X c (.Subscript a (.Slice lo hi none p2) pos) (fSlL fa fl fh) := by
  refine ⟨fun ρ Q Q' k h => ha.mono _ _ _ (fun d hd => hl.mono _ _ _ (fun o1 h1 => hh.mono _ _ _ (fun o2 h2 => ?_) h1) hd) h, pe_weak (pe_slice sl_list ha.pe hl.po hh.po) fun σ H Q ⟨B, ρ, ok, h⟩ => ⟨B, ρ, ok, ha.mono _ _ _ (fun d hd v B1 H1 g1 r1 => ?_) h⟩⟩
  · cases d <;> first | exact h2.elim | exact k _ h2
  · refine ⟨B1, ρ, ok.mono g1, hl.mono _ _ _ (fun o1 h1 B2 H2 g2 => ?_) hd⟩
    refine ⟨B2, ρ, (ok.mono g1).mono g2, hh.mono _ _ _ (fun o2 h2 B3 H3 g3 => ?_) h1⟩
    have g := (g1.trans ok.w g2).trans ok.w g3
    cases d <;> first | exact h2.elim | skip
    have r := (r1.mono g2).mono g3
    obtain ⟨q, xs, rfl, h3, h4⟩ := r.list g3.w
    refine ⟨q, xs, rfl, SqL.of h3, fun t ht => ?_⟩
    have g4 := Gr.newO (o := .lst (cutV xs o1 o2)) g3.w ht
    exact h2 t _ B3 _ (g.trans ok.w g4) (g.back ht) (Evl.fresh_back g3.w.sub ht) upd_same (cut_rpa h4 o1 o2)
end
end DL
namespace DL
open PySem L2 PyProof.Rows
abbrev St := L2.St
/-! ### slots stored -/
section
variable {c : C} {B H : Hp} {σ : St} {ρ : Env}
theorem SlOk.congr {σ' : St} {i : Nat} {s : Sl} (e : σ'[i]? = σ[i]?) (h : SlOk c B H σ i s) : SlOk c B H σ' i s := by
  cases s with
  | un => trivial
  | sh d => obtain ⟨v, h1, h2⟩ := h; exact ⟨v, by rw [e]; exact h1, h2⟩
  | ow ds => obtain ⟨p, vs, h1, h2⟩ := h; exact ⟨p, vs, by rw [e]; exact h1, h2⟩
  | bg => show σ'[i]? = _; rw [e]; exact h
  | ex x => exact ⟨by rw [e]; exact h.1, h.2⟩
/-- a slot takes a new word -/
theorem EOk.put (ok : EOk c B H σ ρ) {i : Nat} {v : V} {s : Sl} (hs : i < σ.length → SlOk c B H (σ.set i (some v)) i s)
    (ha : ∀ ds p, s = Sl.ow ds → v = V.ref p → ∀ (j : Nat) (es : List D), j ≠ i → ρ[j]? = some (Sl.ow es) → ¬ σ[j]? = some (some (V.ref p))) : EOk c B H (σ.set i (some v)) (ρ.set i s) := by
  have len := ok.len
  refine ⟨ok.w0, ok.w, ok.g, by rw [List.length_set, List.length_set]; exact len, fun j u hj => ?_, fun j k p ds es hjk h1 h2 h3 h4 => ?_⟩
  · by_cases e : i = j
    · subst e
      have hl : i < ρ.length := by
        have := (List.getElem?_eq_some_iff.mp hj).1
        rw [List.length_set] at this; exact this
      rw [List.getElem?_set_self hl] at hj
      cases hj
      exact hs (by rw [← len]; exact hl)
    · rw [List.getElem?_set_ne e] at hj
      exact (ok.sl j u hj).congr (List.getElem?_set_ne e)
  · by_cases ej : i = j
    · subst ej
      have hl : i < ρ.length := by
        have := (List.getElem?_eq_some_iff.mp h1).1
        rw [List.length_set] at this; exact this
      rw [List.getElem?_set_self hl] at h1
      rw [List.getElem?_set_self (by rw [← len]; exact hl)] at h3
      rw [List.getElem?_set_ne hjk] at h2 h4
      cases h1
      cases h3
      exact ha ds p rfl rfl k es (Ne.symm hjk) h2 h4
    · rw [List.getElem?_set_ne ej] at h1 h3
      by_cases ek : i = k
      · subst ek
        have hl : i < ρ.length := by
          have := (List.getElem?_eq_some_iff.mp h2).1
          rw [List.length_set] at this; exact this
        rw [List.getElem?_set_self hl] at h2
        rw [List.getElem?_set_self (by rw [← len]; exact hl)] at h4
        cases h2
        cases h4
        exact ha es p rfl rfl j ds hjk h1 h3
      · rw [List.getElem?_set_ne ek] at h2 h4
        exact ok.ap j k p ds es hjk h1 h2 h3 h4
theorem EOk.putSh (ok : EOk c B H σ ρ) {i : Nat} {v : V} {d : D} (r : Rp B v d) : EOk c B H (σ.set i (some v)) (ρ.set i (.sh d)) :=
  ok.put (fun hi => ⟨v, List.getElem?_set_self hi, r⟩) fun _ _ e => nomatch e
/-- .. by a new list of one's own -/
theorem EOk.putOw (ok : EOk c B H σ ρ) {B' H' : Hp} {i : Nat} {p : Addr} {vs : List V} {ds : List D} (g : Gr c B H B' H') (h0 : H p = none) (h1 : B' p = none) (h2 : H' p = some (.lst vs)) (r : RpA B' vs ds) :
    EOk c B' H' (σ.set i (some (.ref p))) (ρ.set i (.ow ds)) := by
  have nb : ¬ c.isBag p := fun z => ok.w.there z h0
  have hH0 : c.H0 p = none := by
    cases e : c.H0 p with
    | none => rfl
    | some o => rw [ok.g.h p o nb e] at h0; cases h0
  refine (ok.mono g).put (fun hi => ⟨p, vs, List.getElem?_set_self hi, hH0, nb, h1, h2, r⟩) fun es q e1 e2 j fs hj h3 h4 => ?_
  cases e2
  obtain ⟨p', vs', k1, k2, k3, k4, k5, _⟩ := ok.sl j _ h3
  rw [k1] at h4
  cases h4
  rw [h0] at k5
  cases k5
end
/-! ### targets -/
abbrev GT := D → Env → (Env → Prop) → Prop
abbrev GTs := List D → Env → (Env → Prop) → Prop
/-- slots outside ks stay -/
def Off (ks : List Nat) (σ σ' : St) : Prop := σ'.length = σ.length ∧ ∀ j, j ∉ ks → σ'[j]? = σ[j]?
theorem Off.refl (ks : List Nat) (σ : St) : Off ks σ σ := ⟨rfl, fun _ _ => rfl⟩
def toG (c : C) (g : GT) (ks : List Nat) : TG := fun v σ H Q => ∃ B ρ d, EOk c B H σ ρ ∧ Rp B v d ∧ g d ρ fun ρ' => ∀ σ', EOk c B H σ' ρ' → Off ks σ σ' → Q σ' H
def toGs (c : C) (g : GTs) (ks : List Nat) : TGs := fun v σ H Q => ∃ B ρ d, EOk c B H σ ρ ∧ RpA B v d ∧ g d ρ fun ρ' => ∀ σ', EOk c B H σ' ρ' → Off ks σ σ' → Q σ' H
structure PGd (X : Cx) (c : C) (tg : Expr) (g : GT) (ks : List Nat) : Prop where
  mono : ∀ d ρ (Q Q' : Env → Prop), (∀ ρ, Q ρ → Q' ρ) → g d ρ Q → g d ρ Q'
  pg : PG X tg (toG c g ks)
structure PGsd (X : Cx) (c : C) (tg : List Expr) (g : GTs) (ks : List Nat) : Prop where
  mono : ∀ d ρ (Q Q' : Env → Prop), (∀ ρ, Q ρ → Q' ρ) → g d ρ Q → g d ρ Q'
  pg : PGs X tg (toGs c g ks)
def gNm (i : Nat) : GT := fun d ρ Q => Q (ρ.set i (.sh d))
def gsNil : GTs := fun ds ρ Q => ds = [] ∧ Q ρ
def gsCons (g : GT) (gs : GTs) : GTs := fun ds ρ Q => match ds with | d :: r => g d ρ fun ρ' => gs r ρ' Q | [] => False
def gTpl (n : Nat) (gs : GTs) : GT := fun d ρ Q => match d with | .tuple ds => ds.length = n ∧ gs ds ρ Q | _ => False
section
variable {X : Cx} {c : C}
theorem pg_weak {tg : Expr} {t t' : TG} (h : PG X tg t) (w : ∀ v σ H Q, t' v σ H Q → t v σ H Q) : PG X tg t' := ⟨fun pins s σ H v u Q I r q => h.run pins s σ H v u Q I r (w v σ H Q q)⟩
theorem pgs_weak {tg : List Expr} {t t' : TGs} (h : PGs X tg t) (w : ∀ v σ H Q, t' v σ H Q → t v σ H Q) : PGs X tg t' := ⟨fun pins s σ H v u Q I r q => h.run pins s σ H v u Q I r (w v σ H Q q)⟩
theorem g_nm (i : Nat) {x : Str} {pos : Pos} (hN : X.N.Nodup) (hi : X.N[i]? = some x := by rfl) (hx : Loc X.env.scope x := by first | exact Or.inl rfl | exact Or.inr rfl)
    (hf : X.fn x = true ∨ X.env.scope.names.lookup x = some .local := by first | exact .inl rfl | exact .inr rfl | assumption) : PGd X c (.Name x pos) (gNm i) [i] := by
  refine ⟨fun d ρ Q Q' k h => k _ h, pg_weak (pg_name hN hi hx hf) fun v σ H Q ⟨B, ρ, d, ok, r, h⟩ => h _ (ok.putSh r) ⟨by rw [List.length_set], fun j hj => List.getElem?_set_ne (fun e => hj (by simp [e]))⟩⟩
theorem gs_nil : PGsd X c [] gsNil [] := ⟨fun d ρ Q Q' k h => ⟨h.1, k _ h.2⟩, pgs_weak pgs_nil fun vs σ H Q ⟨B, ρ, ds, ok, r, h⟩ => by
  obtain ⟨e, h⟩ := h
  subst e
  cases r
  exact ⟨rfl, h σ ok (Off.refl _ _)⟩⟩
theorem gs_cons {e : Expr} {es : List Expr} {g : GT} {gs : GTs} {ks js : List Nat} (h1 : PGd X c e g ks) (h2 : PGsd X c es gs js)
    (hs : (assignEach (e :: es) X.env).map (·.2) = assign e X.env :: (assignEach es X.env).map (·.2) := by rfl) : PGsd X c (e :: es) (gsCons g gs) (ks ++ js) := by
  refine ⟨fun d ρ Q Q' k h => ?_, pgs_weak (pgs_cons h1.pg h2.pg hs) fun vs σ H Q ⟨B, ρ, ds, ok, r, h⟩ => ?_⟩
  · cases d with
    | nil => exact h
    | cons d r => exact h1.mono _ _ _ _ (fun ρ' h' => h2.mono _ _ _ _ k h') h
  · cases ds with
    | nil => exact h.elim
    | cons d ds =>
      cases r with
      | cons r rr =>
        refine ⟨_, _, rfl, B, ρ, d, ok, r, h1.mono _ _ _ _ (fun ρ1 h' σ1 ok1 o1 => ⟨B, ρ1, ds, ok1, rr, h2.mono _ _ _ _ (fun ρ2 h'' σ2 ok2 o2 => h'' σ2 ok2 ⟨o2.1.trans o1.1, fun j hj => ?_⟩) h'⟩) h⟩
        rw [o2.2 j (fun z => hj (List.mem_append_right _ z)), o1.2 j (fun z => hj (List.mem_append_left _ z))]
theorem g_tup {es : List Expr} {k : Nat} {gs : GTs} {ks : List Nat} {pos : Pos} (hc : X.calm = true) (h : PGsd X c es gs ks) {n : Nat} (hn : (assignEach es X.env).length = n := by rfl) (hst : (assignEach es X.env).findIdx? (·.1) = none := by rfl) :
    PGd X c (.Tuple es k pos) (gTpl n gs) ks := by
  refine ⟨fun d ρ Q Q' k h' => ?_, pg_weak (pg_tup hc h.pg hn hst) fun v σ H Q ⟨B, ρ, d, ok, r, h'⟩ => ?_⟩
  · cases d <;> first | exact h'.elim | exact ⟨h'.1, h.mono _ _ _ _ k h'.2⟩
  · cases d <;> first | exact h'.elim | skip
    obtain ⟨a, xs, rfl, h1, h2⟩ := rp_tup r
    exact ⟨a, xs, rfl, SqT.of (ok.w.sub _ _ h1), by rw [rpa_len h2]; exact h'.1, B, ρ, _, ok, h2, h'.2⟩
end
/-! ### statements -/
structure En where
  nx : Env → Prop
  rt : D → Prop
  bk : Env → Prop
  ct : Env → Prop
  ro : List D → Prop
abbrev SS := En → Env → Prop
structure En.le (D D' : En) : Prop where
  nx : ∀ ρ, D.nx ρ → D'.nx ρ
  rt : ∀ d, D.rt d → D'.rt d
  bk : ∀ ρ, D.bk ρ → D'.bk ρ
  ct : ∀ ρ, D.ct ρ → D'.ct ρ
  ro : ∀ ds, D.ro ds → D'.ro ds
theorem En.le.refl (D : En) : En.le D D := ⟨fun _ h => h, fun _ h => h, fun _ h => h, fun _ h => h, fun _ h => h⟩
def MonoS (f : SS) : Prop := ∀ D D' ρ, En.le D D' → f D ρ → f D' ρ
def liftE (c : C) (B : Hp) (D : Ends) : En where
  nx := fun ρ => ∀ σ' B' H', EOk c B' H' σ' ρ → Ex B B' → D.nx σ' H'
  rt := fun d => ∀ v B' H', Gr c c.B0 c.H0 B' H' → Rp B' v d → D.rt v H'
  bk := fun ρ => ∀ σ' B' H', EOk c B' H' σ' ρ → Ex B B' → D.bk σ' H'
  ct := fun ρ => ∀ σ' B' H', EOk c B' H' σ' ρ → Ex B B' → D.ct σ' H'
  ro := fun ds => ∀ p vs B' H', Gr c c.B0 c.H0 B' H' → c.H0 p = none → B' p = none → H' p = some (.lst vs) → RpA B' vs ds → D.rt (.ref p) H'
theorem liftE_le {c : C} {B B1 : Hp} (e : Ex B B1) (D : Ends) : En.le (liftE c B D) (liftE c B1 D) :=
  ⟨fun _ h σ' B' H' ok x => h σ' B' H' ok (e.trans x), fun _ h => h, fun _ h σ' B' H' ok x => h σ' B' H' ok (e.trans x), fun _ h σ' B' H' ok x => h σ' B' H' ok (e.trans x), fun _ h => h⟩
def toS (c : C) (f : SS) : TS := fun D σ H => ∃ B ρ, EOk c B H σ ρ ∧ f (liftE c B D) ρ
structure PSd (X : Cx) (c : C) (st : Stmt) (f : SS) : Prop where
  mono : MonoS f
  ps : PS X st (toS c f)
structure PSsd (X : Cx) (c : C) (st : List Stmt) (f : SS) : Prop where
  mono : MonoS f
  ps : PSs X st (toS c f)
def fNext : SS := fun D ρ => D.nx ρ
def fSeqS (f g : SS) : SS := fun D ρ => f { D with nx := g D } ρ
theorem mono_SeqS {f g : SS} (hf : MonoS f) (hg : MonoS g) : MonoS (fSeqS f g) := fun D D' ρ l h => hf { D with nx := g D } { D' with nx := g D' } ρ ⟨fun ρ h => hg _ _ _ l h, l.rt, l.bk, l.ct, l.ro⟩ h
section
variable {X : Cx} {c : C}
theorem ss_nil : PSsd X c [] fNext := ⟨fun _ _ _ l h => l.nx _ h, pss_weak pss_nil fun D σ H ⟨B, ρ, ok, h⟩ => h σ B H ok (Evl.Ex.refl B)⟩
theorem ss_cons {st : Stmt} {rest : List Stmt} {f g : SS} (h1 : PSd X c st f) (h2 : PSsd X c rest g) : PSsd X c (st :: rest) (fSeqS f g) := by
  refine ⟨mono_SeqS h1.mono h2.mono, pss_weak (pss_cons h1.ps h2.ps) fun D σ H ⟨B, ρ, ok, h⟩ => ?_⟩
  exact ⟨B, ρ, ok, h1.mono { liftE c B D with nx := g (liftE c B D) } _ _ ⟨fun ρ' q σ' B' H' ok' e => ⟨B', ρ', ok', h2.mono _ _ _ (liftE_le e D) q⟩, fun _ q => q, fun _ q => q, fun _ q => q, fun _ q => q⟩ h⟩
theorem ss_one {st : Stmt} {f : SS} (h1 : PSd X c st f) : PSsd X c [st] f := ⟨h1.mono, pss_one h1.ps⟩
def fBreak : SS := fun D ρ => D.bk ρ
def fCont : SS := fun D ρ => D.ct ρ
def fNever : SS := fun _ _ => False
theorem s_break {pos : Pos} : PSd X c (.Break pos) fBreak := ⟨fun _ _ _ l h => l.bk _ h, ps_weak ps_break fun D σ H ⟨B, ρ, ok, h⟩ => h σ B H ok (Evl.Ex.refl B)⟩
theorem s_continue {pos : Pos} : PSd X c (.Continue pos) fCont := ⟨fun _ _ _ l h => l.ct _ h, ps_weak ps_continue fun D σ H ⟨B, ρ, ok, h⟩ => h σ B H ok (Evl.Ex.refl B)⟩
theorem s_pass {pos : Pos} : PSd X c (.Pass pos) fNext := ⟨fun _ _ _ l h => l.nx _ h, ps_weak ps_pass fun D σ H ⟨B, ρ, ok, h⟩ => h σ B H ok (Evl.Ex.refl B)⟩
theorem s_never {st : Stmt} : PSd X c st fNever := ⟨fun _ _ _ _ h => h, ps_weak ps_never fun D σ H ⟨B, ρ, ok, h⟩ => h⟩
def fRet (fa : SE) : SS := fun D ρ => fa ρ D.rt
theorem s_ret {e : Expr} {fa : SE} {pos : Pos} (ha : PV X c e fa) : PSd X c (.Return (some e) pos) (fRet fa) :=
  ⟨fun D D' ρ l h => ha.mono _ _ _ l.rt h, ps_weak (ps_ret ha.pe) fun D σ H ⟨B, ρ, ok, h⟩ => ⟨B, ρ, ok, ha.mono _ _ _ (fun d hd v B' H' g r => hd v B' H' (ok.g.trans ok.w0 g) r) h⟩⟩
/-- a list of one's own is handed back -/
def fRetO (i : Nat) : SS := fun D ρ => match lk ρ i with | .ow ds => D.ro ds | _ => False
def fRetN (f : SL) : SS := fun D ρ => f ρ D.ro
theorem s_retO (i : Nat) {x : Str} {p pos : Pos} (hN : X.N[i]? = some x := by rfl) (hv : Vis X.env.scope x := by first | exact Or.inl rfl | exact Or.inr (Or.inl rfl) | exact Or.inr (Or.inr rfl))
    (hd : (x == ("__debug__" : Str)) = false := by decide) (hcd : (x == ("__classdict__" : Str)) = false := by decide) : PSd X c (.Return (some (.Name x p)) pos) (fRetO i) := by
  refine ⟨fun D D' ρ l h => ?_, ps_weak (ps_ret (pe_var hN hv hd hcd)) fun D σ H ⟨B, ρ, ok, h⟩ => ?_⟩
  · unfold fRetO at h ⊢
    cases e : lk ρ i with
    | ow ds => rw [e] at h; exact l.ro _ h
    | _ => rw [e] at h; exact h.elim
  · unfold fRetO at h
    cases e : lk ρ i with
    | ow ds =>
      rw [e] at h
      obtain ⟨q, vs, h1, h2, h3, h4, h5, h6⟩ := ok.sl i _ (lk_get e (fun z => nomatch z))
      exact ⟨_, h1, h q vs B H ok.g h2 h4 h5 h6⟩
    | _ => rw [e] at h; exact h.elim
theorem s_retN {e : Expr} {fa : SL} {pos : Pos} (ha : PN X c e fa) : PSd X c (.Return (some e) pos) (fRetN fa) :=
  ⟨fun D D' ρ l h => ha.mono _ _ _ l.ro h, ps_weak (ps_ret ha.pe) fun D σ H ⟨B, ρ, ok, h⟩ => ⟨B, ρ, ok, ha.mono _ _ _ (fun ds hd p vs B' H' g h0 h1 h2 r => hd p vs B' H' (ok.g.trans ok.w0 g) (ok.g.back h0) h1 h2 r) h⟩⟩
def fIfS (t : ST) (f g : SS) : SS := fun D ρ => t ρ fun b => if b = true then f D ρ else g D ρ
theorem s_if {cc : Expr} {a b : List Stmt} {t : ST} {f g : SS} {pos : Pos} (ht : PTd X c cc t) (ha : PSsd X c a f) (hb : PSsd X c b g) : PSd X c (.If cc a b pos) (fIfS t f g) := by
  refine ⟨fun D D' ρ l h => ht.mono _ _ _ (fun b hb' => ?_) h, ps_weak (ps_if ht.pt ha.ps hb.ps) fun D σ H ⟨B, ρ, ok, h⟩ => ⟨B, ρ, ok, ht.mono _ _ _ (fun b hb' B' H' g' => ?_) h⟩⟩
  · cases b with
    | true => exact ha.mono _ _ _ l hb'
    | false => exact hb.mono _ _ _ l hb'
  · cases b with
    | true => exact ⟨B', ρ, ok.mono g', ha.mono _ _ _ (liftE_le g'.b D) hb'⟩
    | false => exact ⟨B', ρ, ok.mono g', hb.mono _ _ _ (liftE_le g'.b D) hb'⟩
def fSet (i : Nat) (fa : SE) : SS := fun D ρ => fa ρ fun d => D.nx (ρ.set i (.sh d))
theorem mono_Set {i : Nat} {fa : SE} (h : Mono fa) : MonoS (fSet i fa) := fun D D' ρ l q => h _ _ _ (fun d hd => l.nx _ hd) q
theorem set_go {i : Nat} {fa : SE} (h : Mono fa) (D : Ends) (σ : St) (H : Hp) (q : toS c (fSet i fa) D σ H) : tAsg (toV c fa) (gName i) D σ H := by
  obtain ⟨B, ρ, ok, q⟩ := q
  exact ⟨B, ρ, ok, h _ _ _ (fun d hd v B' H' g r => hd _ _ _ ((ok.mono g).putSh r) g.b) q⟩
theorem s_set (i : Nat) {x : Str} {e : Expr} {fa : SE} {pos pos' : Pos} (hN : X.N.Nodup) (he : PV X c e fa) (hi : X.N[i]? = some x := by rfl) (hx : Loc X.env.scope x := by first | exact Or.inl rfl | exact Or.inr rfl)
    (hs : swapsWith e (some (.Name x pos')) pos.line X.env = pure false := by rfl) (hf : X.fn x = true ∨ X.env.scope.names.lookup x = some .local := by first | exact .inl rfl | exact .inr rfl | assumption) :
    PSd X c (.Assign [.Name x pos'] e pos) (fSet i fa) := ⟨mono_Set he.mono, ps_weak (ps_set hN hi hx he.pe hs hf) (set_go he.mono)⟩
/-- a name that shall be changed: a new list of one's own -/
def fSetN (i : Nat) (fa : SL) : SS := fun D ρ => fa ρ fun ds => D.nx (ρ.set i (.ow ds))
theorem mono_SetN {i : Nat} {fa : SL} (h : MonoL fa) : MonoS (fSetN i fa) := fun D D' ρ l q => h _ _ _ (fun d hd => l.nx _ hd) q
theorem setN_go {i : Nat} {fa : SL} (h : MonoL fa) (D : Ends) (σ : St) (H : Hp) (q : toS c (fSetN i fa) D σ H) : tAsg (toN c fa) (gName i) D σ H := by
  obtain ⟨B, ρ, ok, q⟩ := q
  exact ⟨B, ρ, ok, h _ _ _ (fun ds hd p vs B' H' g h0 h1 h2 r => hd _ _ _ (ok.putOw g h0 h1 h2 r) g.b) q⟩
theorem s_setN (i : Nat) {x : Str} {e : Expr} {fa : SL} {pos pos' : Pos} (hN : X.N.Nodup) (he : PN X c e fa) (hi : X.N[i]? = some x := by rfl) (hx : Loc X.env.scope x := by first | exact Or.inl rfl | exact Or.inr rfl)
    (hs : swapsWith e (some (.Name x pos')) pos.line X.env = pure false := by rfl) (hf : X.fn x = true ∨ X.env.scope.names.lookup x = some .local := by first | exact .inl rfl | exact .inr rfl | assumption) :
    PSd X c (.Assign [.Name x pos'] e pos) (fSetN i fa) := ⟨mono_SetN he.mono, ps_weak (ps_set hN hi hx he.pe hs hf) (setN_go he.mono)⟩
/-- any target -/
def fAsg (fa : SE) (g : GT) : SS := fun D ρ => fa ρ fun d => g d ρ D.nx
theorem s_asg {tg e : Expr} {fa : SE} {g : GT} {ks : List Nat} {pos : Pos} (he : PV X c e fa) (hg : PGd X c tg g ks) (hs : swapsWithSole [tg] e pos.line X.env = pure false := by rfl) (hw : swappedStores [tg] e X.env = pure none := by rfl)
    (h1 : (assignEach [tg] X.env).map (·.2) = [assign tg X.env] := by rfl) : PSd X c (.Assign [tg] e pos) (fAsg fa g) :=
  ⟨fun D D' ρ l h => he.mono _ _ _ (fun d hd => hg.mono _ _ _ _ l.nx hd) h, ps_weak (ps_asg he.pe hg.pg hs hw h1) fun D σ H ⟨B, ρ, ok, h⟩ => ⟨B, ρ, ok, he.mono _ _ _ (fun d hd v B' H' g' r =>
    ⟨B', ρ, d, ok.mono g', r, hg.mono _ _ _ _ (fun ρ' h' σ' ok' _ => h' σ' B' H' ok' g'.b) hd⟩) h⟩⟩
/-! ### a, b = x, y: data and new lists -/
abbrev SM := Env → (List Sl → Prop) → Prop
def MOk (c : C) (H B' H' : Hp) : List V → List Sl → Prop
  | [], [] => True
  | v :: vs, .sh d :: ss => Rp B' v d ∧ MOk c H B' H' vs ss
  | v :: vs, .ow ds :: ss => (∃ p ws, v = .ref p ∧ H p = none ∧ B' p = none ∧ H' p = some (.lst ws) ∧ RpA B' ws ds ∧ v ∉ vs) ∧ MOk c H B' H' vs ss
  | _, _ => False
def toM (c : C) (f : SM) : TA := fun σ H Q => ∃ B ρ, EOk c B H σ ρ ∧ f ρ fun ss => ∀ vs B' H', Gr c B H B' H' → MOk c H B' H' vs ss → Q vs H'
structure PMd (X : Cx) (c : C) (es : List Expr) (f : SM) : Prop where
  mono : MonoA f
  pa : PA X es (toM c f)
def fMV (fa : SE) (fr : SM) : SM := fun ρ Q => fa ρ fun d => fr ρ fun ss => Q (.sh d :: ss)
def fMN (fa : SL) (fr : SM) : SM := fun ρ Q => fa ρ fun ds => fr ρ fun ss => Q (.ow ds :: ss)
theorem MOk.back {B H B1 H1 B' H' : Hp} (g : Gr c B H B1 H1) (g2 : Gr c B1 H1 B' H') : ∀ {vs : List V} {ss : List Sl}, MOk c H1 B' H' vs ss → MOk c H B' H' vs ss
  | [], [], _ => trivial
  | _ :: _, .sh _ :: _, h => ⟨h.1, MOk.back g g2 h.2⟩
  | _ :: _, .ow _ :: _, h => by
    obtain ⟨⟨p, ws, e, h0, r⟩, h2⟩ := h
    exact ⟨⟨p, ws, e, g.back h0, r⟩, MOk.back g g2 h2⟩
  | _ :: _, .un :: _, h => h
  | _ :: _, .bg :: _, h => h
  | _ :: _, .ex _ :: _, h => h
  | [], _ :: _, h => h
  | _ :: _, [], h => h
/-- an address that stands at H1 and is not shared is none of the later values -/
theorem MOk.notin {H1 B' H' : Hp} {p : Addr} {o : HO} (h1 : H1 p = some o) (h2 : B' p = none) : ∀ {vs : List V} {ss : List Sl}, MOk c H1 B' H' vs ss → V.ref p ∉ vs
  | [], [], _ => by simp
  | v :: vs, .sh d :: ss, h => by
    intro z
    rcases List.mem_cons.mp z with z | z
    · subst z
      obtain ⟨r, _⟩ := h
      cases r with
      | lst e _ => rw [h2] at e; cases e
      | tup e _ => rw [h2] at e; cases e
      | dct e _ => rw [h2] at e; cases e
    · exact MOk.notin h1 h2 h.2 z
  | v :: vs, .ow ds :: ss, h => by
    intro z
    obtain ⟨⟨q, ws, e, h0, _⟩, h3⟩ := h
    rcases List.mem_cons.mp z with z | z
    · rw [e] at z
      cases z
      rw [h1] at h0; cases h0
    · exact MOk.notin h1 h2 h3 z
  | _ :: _, .un :: _, h => h.elim
  | _ :: _, .bg :: _, h => h.elim
  | _ :: _, .ex _ :: _, h => h.elim
  | [], _ :: _, h => h.elim
  | _ :: _, [], h => h.elim
theorem m_nil : PMd X c [] fAN := ⟨fun _ _ _ k h => k _ h, pa_weak pa_nil fun σ H Q ⟨B, ρ, ok, h⟩ => h [] B H (Gr.refl ok.w) trivial⟩
theorem m_v {e : Expr} {es : List Expr} {fa : SE} {fr : SM} (ha : PV X c e fa) (hr : PMd X c es fr) (hs : starEach (e :: es) X.env = (false, eval e X.env) :: starEach es X.env := by rfl) : PMd X c (e :: es) (fMV fa fr) := by
  refine ⟨fun ρ Q Q' k h => ha.mono _ _ _ (fun d hd => hr.mono _ _ _ (fun ds he => k _ he) hd) h, pa_weak (pa_cons ha.pe hr.pa hs) fun σ H Q ⟨B, ρ, ok, h⟩ => ?_⟩
  refine ⟨B, ρ, ok, ha.mono _ _ _ (fun d hd v B1 H1 g1 r1 => ?_) h⟩
  exact ⟨B1, ρ, ok.mono g1, hr.mono _ _ _ (fun ds he vs B2 H2 g2 r2 => he _ B2 H2 (g1.trans ok.w g2) ⟨rp_mono g2.b r1, MOk.back g1 g2 r2⟩) hd⟩
theorem m_n {e : Expr} {es : List Expr} {fa : SL} {fr : SM} (ha : PN X c e fa) (hr : PMd X c es fr) (hs : starEach (e :: es) X.env = (false, eval e X.env) :: starEach es X.env := by rfl) : PMd X c (e :: es) (fMN fa fr) := by
  refine ⟨fun ρ Q Q' k h => ha.mono _ _ _ (fun d hd => hr.mono _ _ _ (fun ds he => k _ he) hd) h, pa_weak (pa_cons ha.pe hr.pa hs) fun σ H Q ⟨B, ρ, ok, h⟩ => ?_⟩
  refine ⟨B, ρ, ok, ha.mono _ _ _ (fun ds hd p ws B1 H1 g1 h0 h1 h2 r1 => ?_) h⟩
  refine ⟨B1, ρ, ok.mono g1, hr.mono _ _ _ (fun ss he vs B2 H2 g2 r2 => he _ B2 H2 (g1.trans ok.w g2) ⟨⟨p, ws, rfl, h0, ?_, ?_, rpa_mono g2.b r1, ?_⟩, MOk.back g1 g2 r2⟩) hd⟩
  · rw [g2.n p (by rw [h2]; exact fun q => nomatch q)]; exact h1
  · exact g2.h p _ (fun z => ok.w.there z h0) h2
  · exact MOk.notin h2 (by rw [g2.n p (by rw [h2]; exact fun q => nomatch q)]; exact h1) r2
/-- the slots at js take the words ss -/
def setAll : Env → List Nat → List Sl → Env
  | ρ, j :: js, s :: ss => setAll (ρ.set j s) js ss
  | ρ, _, _ => ρ
def setV : St → List Nat → List V → St
  | σ, j :: js, v :: vs => setV (σ.set j (some v)) js vs
  | σ, _, _ => σ
/-- σ0, H: the state ahead of the right side; the slots at done have taken values -/
theorem putAll {B H B' H' : Hp} (w : Wd c B H) (g : Gr c B H B' H') : ∀ {js : List Nat} {vs : List V} {ss : List Sl} {σ : St} {ρ : Env}, EOk c B' H' σ ρ → js.length = ss.length → MOk c H B' H' vs ss →
    (∀ (j : Nat) (es : List D) (p : Addr), V.ref p ∈ vs → H p = none → ρ[j]? = some (Sl.ow es) → ¬ σ[j]? = some (some (V.ref p))) → (c.H0 = c.H0) → (∀ a o, ¬ c.isBag a → c.H0 a = some o → H a = some o) → EOk c B' H' (setV σ js vs) (setAll ρ js ss)
  | [], [], [], _, _, ok, _, _, _, _, _ => ok
  | j :: js, v :: vs, .sh d :: ss, σ, ρ, ok, hl, h, hn, _, h0 => by
    show EOk c B' H' (setV (σ.set j (some v)) js vs) (setAll (ρ.set j (.sh d)) js ss)
    refine putAll w g (ok.putSh h.1) (by simpa using hl) h.2 (fun k es p hp hH h1 h2 => ?_) rfl h0
    by_cases e : j = k
    · subst e
      have hlen : j < ρ.length := by
        have := (List.getElem?_eq_some_iff.mp h1).1
        rw [List.length_set] at this; exact this
      rw [List.getElem?_set_self hlen] at h1
      cases h1
    · rw [List.getElem?_set_ne e] at h1 h2
      exact hn k es p (List.mem_cons_of_mem _ hp) hH h1 h2
  | j :: js, v :: vs, .ow ds :: ss, σ, ρ, ok, hl, h, hn, _, h0 => by
    obtain ⟨⟨p, ws, e, k0, k1, k2, k3, k4⟩, h2⟩ := h
    subst e
    have nb : ¬ c.isBag p := fun z => w.there z k0
    have hH0 : c.H0 p = none := by
      cases e : c.H0 p with
      | none => rfl
      | some o => rw [h0 p o nb e] at k0; cases k0
    show EOk c B' H' (setV (σ.set j (some (.ref p))) js vs) (setAll (ρ.set j (.ow ds)) js ss)
    refine putAll w g (ok.put (fun hi => ⟨p, ws, List.getElem?_set_self hi, hH0, nb, k1, k2, k3⟩) fun es q e1 e2 i fs hi h3 h4 => ?_) (by simpa using hl) h2 (fun k es q hq hH h1 h3 => ?_) rfl h0
    · cases e2
      exact hn i fs p List.mem_cons_self k0 h3 h4
    · by_cases e : j = k
      · subst e
        have hlen : j < ρ.length := by
          have := (List.getElem?_eq_some_iff.mp h1).1
          rw [List.length_set] at this; exact this
        rw [List.getElem?_set_self (by rw [← ok.len]; exact hlen)] at h3
        have e3 : V.ref p = V.ref q := Option.some.inj (Option.some.inj h3)
        rw [← e3] at hq
        exact k4 hq
      · rw [List.getElem?_set_ne e] at h1 h3
        exact hn k es q (List.mem_cons_of_mem _ hq) hH h1 h3
  | [], [], _ :: _, _, _, _, hl, _, _, _, _ => by simp at hl
  | [], _ :: _, [], _, _, _, _, h, _, _, _ => h.elim
  | _ :: _, _, [], _, _, _, hl, _, _, _, _ => by simp at hl
  | [], _ :: _, _ :: _, _, _, _, hl, _, _, _, _ => by simp at hl
  | _ :: _, [], _ :: _, _, _, _, _, h, _, _, _ => h.elim
  | _ :: _, _ :: _, .un :: _, _, _, _, _, h, _, _, _ => h.elim
  | _ :: _, _ :: _, .ex _ :: _, _, _, _, _, h, _, _, _ => h.elim
  | _ :: _, _ :: _, .bg :: _, _, _, _, _, h, _, _, _ => h.elim
theorem putAll' {B H B' H' : Hp} {js : List Nat} {vs : List V} {ss : List Sl} {σ : St} {ρ : Env} (ok : EOk c B H σ ρ) (g : Gr c B H B' H') (hl : js.length = ss.length) (h : MOk c H B' H' vs ss) : EOk c B' H' (setV σ js vs) (setAll ρ js ss) :=
  putAll ok.w g (ok.mono g) hl h (fun j es p _ hp h1 h2 => by
    obtain ⟨q, ws, k1, _, _, _, k5, _⟩ := ok.sl j _ h1
    rw [k1] at h2
    cases h2
    rw [hp] at k5
    cases k5) rfl ok.g.h
theorem MOk.len {H B' H' : Hp} : ∀ {vs : List V} {ss : List Sl}, MOk c H B' H' vs ss → vs.length = ss.length
  | [], [], _ => rfl
  | _ :: _, .sh _ :: _, h => by rw [List.length_cons, List.length_cons, MOk.len h.2]
  | _ :: _, .ow _ :: _, h => by rw [List.length_cons, List.length_cons, MOk.len h.2]
  | _ :: _, .un :: _, h => h.elim
  | _ :: _, .ex _ :: _, h => h.elim
  | _ :: _, .bg :: _, h => h.elim
  | [], _ :: _, h => h.elim
  | _ :: _, [], h => h.elim
def fPar (js : List Nat) (f : SM) : SS := fun D ρ => f ρ fun ss => js.length = ss.length ∧ D.nx (setAll ρ js ss)
theorem mono_Par {js : List Nat} {f : SM} (h : MonoA f) : MonoS (fPar js f) := fun D D' ρ l q => h _ _ _ (fun ss hs => ⟨hs.1, l.nx _ hs.2⟩) q
theorem s_par (i j : Nat) {x y : Str} {a b : Expr} {f : SM} {px py pt pos : Pos} {kt k2 : Nat} {pt2 : Pos} (hc : X.calm = true) (hN : X.N.Nodup) (ha : PMd X c [a, b] f) (hi : X.N[i]? = some x := by rfl) (hj : X.N[j]? = some y := by rfl) (hij : i ≠ j := by decide)
    (hx : X.env.scope.names.lookup x = some .local := by rfl) (hy : X.env.scope.names.lookup y = some .local := by rfl)
    (hw : swappedStores [.Tuple [.Name x px, .Name y py] kt pt] (.Tuple [a, b] k2 pt2) X.env = pure (some [x, y]) := by rfl)
    (hs : swapsWithSole [.Tuple [.Name x px, .Name y py] kt pt] (.Tuple [a, b] k2 pt2) pos.line X.env = pure false := by rfl) :
    PSd X c (.Assign [.Tuple [.Name x px, .Name y py] kt pt] (.Tuple [a, b] k2 pt2) pos) (fPar [i, j] f) := by
  refine ⟨mono_Par ha.mono, ps_weak (ps_par hc hN hi hj hij hx hy ha.pa hw hs) fun D σ H ⟨B, ρ, ok, h⟩ => ⟨B, ρ, ok, ha.mono _ _ _ (fun ss hd vs B' H' g r => ?_) h⟩⟩
  have hv := r.len
  have hq := hd.2 _ B' H' (putAll' ok g hd.1 r) g.b
  rw [← hd.1] at hv
  match vs, hv with
  | [v, w], _ => exact ⟨v, w, rfl, hq⟩
theorem s_par3 (i j l : Nat) {x y z : Str} {a b d : Expr} {f : SM} {px py pz pt pos : Pos} {kt k2 : Nat} {pt2 : Pos} (hc : X.calm = true) (hN : X.N.Nodup) (ha : PMd X c [a, b, d] f) (hi : X.N[i]? = some x := by rfl) (hj : X.N[j]? = some y := by rfl) (hl : X.N[l]? = some z := by rfl)
    (hij : i ≠ j := by decide) (hil : i ≠ l := by decide) (hjl : j ≠ l := by decide) (hx : X.env.scope.names.lookup x = some .local := by rfl) (hy : X.env.scope.names.lookup y = some .local := by rfl) (hz : X.env.scope.names.lookup z = some .local := by rfl)
    (hw : swappedStores [.Tuple [.Name x px, .Name y py, .Name z pz] kt pt] (.Tuple [a, b, d] k2 pt2) X.env = pure (some [x, y, z]) := by rfl)
    (hs : swapsWithSole [.Tuple [.Name x px, .Name y py, .Name z pz] kt pt] (.Tuple [a, b, d] k2 pt2) pos.line X.env = pure false := by rfl) :
    PSd X c (.Assign [.Tuple [.Name x px, .Name y py, .Name z pz] kt pt] (.Tuple [a, b, d] k2 pt2) pos) (fPar [i, j, l] f) := by
  refine ⟨mono_Par ha.mono, ps_weak (ps_par3 hc hN hi hj hl hij hil hjl hx hy hz ha.pa hw hs) fun D σ H ⟨B, ρ, ok, h⟩ => ⟨B, ρ, ok, ha.mono _ _ _ (fun ss hd vs B' H' g r => ?_) h⟩⟩
  have hv := r.len
  have hq := hd.2 _ B' H' (putAll' ok g hd.1 r) g.b
  rw [← hd.1] at hv
  match vs, hv with
  | [u, v, w], _ => exact ⟨u, v, w, rfl, hq⟩
end
end DL
namespace DL
open PySem L2 PyProof.Rows
/-! ### a list of one's own is changed -/
section
variable {c : C} {B H : Hp} {σ : St} {ρ : Env}
theorem EOk.chg (ok : EOk c B H σ ρ) {i : Nat} {p : Addr} {ds ds' : List D} {vs' : List V} (hl : lk ρ i = .ow ds) (hp : σ[i]? = some (some (.ref p))) (r : RpA B vs' ds') : EOk c B (upd H p (.lst vs')) σ (ρ.set i (.ow ds')) := by
  have hi := lk_get hl (fun z => nomatch z)
  obtain ⟨p', vs, k1, k2, k3, k4, k5, k6⟩ := ok.sl i _ hi
  rw [hp] at k1
  cases k1
  have w' : Wd c B (upd H p (.lst vs')) := by
    refine ⟨fun a o e => ?_, ok.w.bag.keep fun a ha => ⟨rfl, upd_ne fun z => k3 (z ▸ ha)⟩⟩
    rw [upd_ne (ne_of_none e k4)]; exact ok.w.sub a o e
  have hil : i < ρ.length := (List.getElem?_eq_some_iff.mp hi).1
  refine ⟨ok.w0, w', ⟨ok.g.b, fun a o nb e => ?_, ok.g.n, w'⟩, by rw [List.length_set]; exact ok.len, fun j s hj => ?_, fun j k q es fs hjk h1 h2 h3 h4 => ?_⟩
  · rw [upd_ne (ne_of_none e k2)]; exact ok.g.h a o nb e
  · by_cases e : i = j
    · subst e
      rw [List.getElem?_set_self hil] at hj
      cases hj
      exact ⟨p, vs', hp, k2, k3, k4, upd_same, r⟩
    · rw [List.getElem?_set_ne e] at hj
      have o := ok.sl j s hj
      cases s with
      | un => trivial
      | sh d => exact o
      | ex x => exact ⟨o.1, o.2.1, fun y dv e1 => by
        obtain ⟨dd, v, m1, m2, m3, m4⟩ := o.2.2 y dv e1
        exact ⟨dd, v, m1, m2, by rw [upd_ne (fun z => by rw [z, k5] at m3; cases m3)]; exact m3, m4⟩⟩
      | bg => exact o
      | ow es =>
        obtain ⟨q, ws, m1, m2, m3, m4, m5, m6⟩ := o
        have ne : q ≠ p := fun z => by
          subst z
          exact ok.ap i j q _ _ e hi hj hp m1
        exact ⟨q, ws, m1, m2, m3, m4, by rw [upd_ne ne]; exact m5, m6⟩
  · have old : ∀ {x : Nat} {fs : List D}, (ρ.set i (Sl.ow ds'))[x]? = some (Sl.ow fs) → ∃ gs, ρ[x]? = some (Sl.ow gs) := fun {x fs} hx => by
      by_cases e : i = x
      · subst e; exact ⟨_, hi⟩
      · rw [List.getElem?_set_ne e] at hx; exact ⟨_, hx⟩
    obtain ⟨g1, e1⟩ := old h1
    obtain ⟨g2, e2⟩ := old h2
    exact ok.ap j k q g1 g2 hjk e1 e2 h3 h4
theorem EOk.own (ok : EOk c B H σ ρ) {i : Nat} {ds : List D} (hl : lk ρ i = .ow ds) : ∃ p vs, σ[i]? = some (some (.ref p)) ∧ H p = some (.lst vs) ∧ RpA B vs ds := by
  obtain ⟨p, vs, k1, k2, k3, k4, k5, k6⟩ := ok.sl i _ (lk_get hl (fun z => nomatch z))
  exact ⟨p, vs, k1, k5, k6⟩
/-- a list of one's own is shared from here on -/
theorem EOk.freeze (ok : EOk c B H σ ρ) {i : Nat} {ds : List D} (hl : lk ρ i = .ow ds) : ∃ p vs, EOk c (upd B p (.lst vs)) H σ (ρ.set i (.sh (.list ds))) ∧ B p = none := by
  have hi := lk_get hl (fun z => nomatch z)
  obtain ⟨p, vs, k1, k2, k3, k4, k5, k6⟩ := ok.sl i _ hi
  have x : Ex B (upd B p (.lst vs)) := Evl.Ex.new k4
  have w' : Wd c (upd B p (.lst vs)) H := by
    refine ⟨fun a o e => ?_, ok.w.bag.keep fun a ha => ⟨upd_ne fun z => k3 (z ▸ ha), rfl⟩⟩
    by_cases z : a = p
    · subst z
      rw [upd_same] at e
      rw [k5]; exact e
    · rw [upd_ne z] at e; exact ok.w.sub a o e
  have hil : i < ρ.length := (List.getElem?_eq_some_iff.mp hi).1
  refine ⟨p, vs, ⟨ok.w0, w', ⟨ok.g.b.trans x, ok.g.h, fun a ha => ?_, w'⟩, by rw [List.length_set]; exact ok.len, fun j s hj => ?_, fun j k q es fs hjk h1 h2 h3 h4 => ?_⟩, k4⟩
  · rw [upd_ne (fun z => ha (by rw [z]; exact k2))]; exact ok.g.n a ha
  · by_cases e : i = j
    · subst e
      rw [List.getElem?_set_self hil] at hj
      cases hj
      exact ⟨_, k1, .lst upd_same (rpa_mono x k6)⟩
    · rw [List.getElem?_set_ne e] at hj
      have o := ok.sl j s hj
      cases s with
      | un => trivial
      | sh d =>
        obtain ⟨v, m1, m2⟩ := o
        exact ⟨v, m1, rp_mono x m2⟩
      | ex z => exact ⟨o.1, o.2.1, fun y dv e1 => by
        obtain ⟨dd, v, m1, m2, m3, m4⟩ := o.2.2 y dv e1
        exact ⟨dd, v, m1, m2, m3, rp_mono x m4⟩⟩
      | bg => exact o
      | ow es =>
        obtain ⟨q, ws, m1, m2, m3, m4, m5, m6⟩ := o
        have ne : q ≠ p := fun z => by
          subst z
          exact ok.ap i j q _ _ e hi hj k1 m1
        exact ⟨q, ws, m1, m2, m3, by rw [upd_ne ne]; exact m4, m5, rpa_mono x m6⟩
  · have old : ∀ {y : Nat} {fs : List D}, (ρ.set i (Sl.sh (.list ds)))[y]? = some (Sl.ow fs) → ρ[y]? = some (Sl.ow fs) := fun {y fs} hx => by
      by_cases e : i = y
      · subst e; rw [List.getElem?_set_self hil] at hx; cases hx
      · rw [List.getElem?_set_ne e] at hx; exact hx
    exact ok.ap j k q _ _ hjk (old h1) (old h2) h3 h4
end
/-- the most items -/
def most : Nat := 4000000
theorem most_lt {n : Nat} (h : n < most) : n < sizeLine := by rw [sizeLine_eq]; unfold most at h; omega
theorem most_le {n : Nat} (h : n ≤ most) : n ≤ sizeLine := by rw [sizeLine_eq]; unfold most at h; omega
def fApp (i : Nat) (fa : SE) : SS := fun D ρ => match lk ρ i with | .ow ds => fa ρ fun d => ds.length < most ∧ D.nx (ρ.set i (.ow (ds ++ [d]))) | _ => False
def fExt (i : Nat) (fa : SE) : SS := fun D ρ => match lk ρ i with | .ow ds => fa ρ fun d => (match d with | .list es => ds.length + es.length ≤ most ∧ D.nx (ρ.set i (.ow (ds ++ es))) | _ => False) | _ => False
def fPop (i : Nat) (g : GT) : SS := fun D ρ => match lk ρ i with | .ow ds => (match ds.getLast? with | some d => g d (ρ.set i (.ow ds.dropLast)) D.nx | none => False) | _ => False
def fSetIx (i : Nat) (fa fk : SE) : SS := fun D ρ => match lk ρ i with
  | .ow ds => fa ρ fun d => fk ρ fun k => (match k with | .int k => (match ixN ds.length k with | some j => D.nx (ρ.set i (.ow (ds.set j d))) | none => False) | _ => False)
  | _ => False
def fFreeze (i : Nat) (f : SS) : SS := fun D ρ => match lk ρ i with | .ow ds => f D (ρ.set i (.sh (.list ds))) | _ => False
section
variable {X : Cx} {c : C}
theorem s_freeze (i : Nat) {st : Stmt} {f : SS} (h : PSd X c st f) : PSd X c st (fFreeze i f) := by
  refine ⟨fun D D' ρ l q => ?_, ps_weak h.ps fun D σ H ⟨B, ρ, ok, q⟩ => ?_⟩
  · unfold fFreeze at q ⊢
    split at q <;> first | exact q.elim | exact h.mono _ _ _ l q
  · unfold fFreeze at q
    split at q <;> first | exact q.elim | skip
    rename_i e
    obtain ⟨p, vs, ok', hb⟩ := ok.freeze e
    exact ⟨_, _, ok', h.mono _ _ _ (liftE_le (Evl.Ex.new hb) D) q⟩
theorem s_app (i : Nat) {x : Str} {e : Expr} {fa : SE} {p1 p2 pos pos' : Pos} (ha : PV X c e fa) (hN : X.N[i]? = some x := by rfl) (hv : Vis X.env.scope x := by first | exact Or.inl rfl | exact Or.inr (Or.inl rfl) | exact Or.inr (Or.inr rfl))
    (hd : (x == ("__debug__" : Str)) = false := by decide) (hcd : (x == ("__classdict__" : Str)) = false := by decide)
    (hbase : attributeBase (.Name x p1) "append" X.env (eval (.Name x p1) X.env) = eval (.Name x p1) X.env := by rfl)
    (hfew : ((backTo pos (starEach [e] X.env)).all (fun x => !x.1) && (backToKw pos (keywordEach [] X.env)).all (fun x => x.1.isSome) && decide ([e].length + ([] : List Keyword).length + (if ([] : List Keyword).isEmpty then 0 else 1) < 30)) = true := by rfl)
    (hline : (p2.endLine == pos.line) = true := by rfl) (hst : starEach [e] X.env = (false, eval e X.env) :: starEach [] X.env := by rfl) (hplain : (backTo pos (starEach [] X.env)).any (·.1) = false := by rfl)
    (hs : swapsWith (.Call (.Attribute (.Name x p1) "append" p2) [e] [] pos) none pos'.line X.env = pure false := by rfl) :
    PSd X c (.Expr (.Call (.Attribute (.Name x p1) "append" p2) [e] [] pos) pos') (fApp i fa) := by
  have hpe : PE X (.Call (.Attribute (.Name x p1) "append" p2) [e] [] pos) (tBM X.K "list" rAppend (tVar i) (tCons (toV c fa) tNil)) := pe_bm PySem.F.plainAttrs_list PySem.F.slot_list_append PySem.F.type_list_append mt_append (pe_var hN hv hd hcd) (pa_cons ha.pe pa_nil hst) hbase hfew hline hst hplain
  refine ⟨fun D D' ρ l q => ?_, ps_weak (ps_expr hpe hs) fun D σ H ⟨B, ρ, ok, q⟩ => ?_⟩
  · unfold fApp at q ⊢
    split at q <;> first | exact q.elim | exact ha.mono _ _ _ (fun d hd => ⟨hd.1, l.nx _ hd.2⟩) q
  · unfold fApp at q
    split at q <;> first | exact q.elim | skip
    rename_i ds e1
    obtain ⟨p, vs, k1, k2, k3⟩ := ok.own e1
    refine ⟨_, k1, .inl ⟨rfl, vs, SqL.of k2⟩, B, ρ, ok, ha.mono _ _ _ (fun d hd v B1 H1 g1 r1 => ?_) q⟩
    obtain ⟨p', vs1, m1, m2, m3⟩ := (ok.mono g1).own e1
    rw [k1] at m1
    cases m1
    refine ⟨p, vs1, v, rfl, rfl, m2, ?_, ?_⟩
    · rw [rpa_len m3]; exact most_lt hd.1
    · exact hd.2 σ B1 _ ((ok.mono g1).chg e1 k1 (rpa_app m3 (.cons r1 .nil))) g1.b
theorem s_ext (i : Nat) {x : Str} {e : Expr} {fa : SE} {p1 p2 pos pos' : Pos} (ha : PB X c e fa) (hN : X.N[i]? = some x := by rfl) (hv : Vis X.env.scope x := by first | exact Or.inl rfl | exact Or.inr (Or.inl rfl) | exact Or.inr (Or.inr rfl))
    (hd : (x == ("__debug__" : Str)) = false := by decide) (hcd : (x == ("__classdict__" : Str)) = false := by decide)
    (hbase : attributeBase (.Name x p1) "extend" X.env (eval (.Name x p1) X.env) = eval (.Name x p1) X.env := by rfl)
    (hfew : ((backTo pos (starEach [e] X.env)).all (fun x => !x.1) && (backToKw pos (keywordEach [] X.env)).all (fun x => x.1.isSome) && decide ([e].length + ([] : List Keyword).length + (if ([] : List Keyword).isEmpty then 0 else 1) < 30)) = true := by rfl)
    (hline : (p2.endLine == pos.line) = true := by rfl) (hst : starEach [e] X.env = (false, eval e X.env) :: starEach [] X.env := by rfl) (hplain : (backTo pos (starEach [] X.env)).any (·.1) = false := by rfl)
    (hs : swapsWith (.Call (.Attribute (.Name x p1) "extend" p2) [e] [] pos) none pos'.line X.env = pure false := by rfl) :
    PSd X c (.Expr (.Call (.Attribute (.Name x p1) "extend" p2) [e] [] pos) pos') (fExt i fa) := by
  have hpe : PE X (.Call (.Attribute (.Name x p1) "extend" p2) [e] [] pos) (tBM X.K "list" rExtend (tVar i) (tCons (toB c fa) tNil)) := pe_bm PySem.F.plainAttrs_list PySem.F.slot_list_extend PySem.F.type_list_extend mt_extend (pe_var hN hv hd hcd) (pa_cons ha.pe pa_nil hst) hbase hfew hline hst hplain
  refine ⟨fun D D' ρ l q => ?_, ps_weak (ps_expr hpe hs) fun D σ H ⟨B, ρ, ok, q⟩ => ?_⟩
  · unfold fExt at q ⊢
    split at q <;> first | exact q.elim | skip
    refine ha.mono _ _ _ (fun d hd => ?_) q
    cases d <;> first | exact hd.elim | exact ⟨hd.1, l.nx _ hd.2⟩
  · unfold fExt at q
    split at q <;> first | exact q.elim | skip
    rename_i ds e1
    obtain ⟨p, vs, k1, k2, k3⟩ := ok.own e1
    refine ⟨_, k1, .inl ⟨rfl, vs, SqL.of k2⟩, B, ρ, ok, ha.mono _ _ _ (fun d hd v B1 H1 g1 r1 => ?_) q⟩
    cases d <;> first | exact hd.elim | skip
    obtain ⟨p', vs1, m1, m2, m3⟩ := (ok.mono g1).own e1
    rw [k1] at m1
    cases m1
    obtain ⟨b, zs, rfl, h1, h2⟩ := r1.list g1.w
    refine ⟨p, b, vs1, zs, rfl, rfl, m2, h1, ?_, ?_⟩
    · rw [rpa_len m3, rpa_len h2]; exact most_le hd.1
    · exact hd.2 σ B1 _ ((ok.mono g1).chg e1 k1 (rpa_app m3 h2)) g1.b
theorem rpa_dropLast {B : Hp} {vs : List V} {ds : List D} (h : RpA B vs ds) : RpA B vs.dropLast ds.dropLast := by
  rw [List.dropLast_eq_take, List.dropLast_eq_take, rpa_len h]
  exact rpa_take _ h
theorem s_pop (i : Nat) {x : Str} {tg : Expr} {g : GT} {ks : List Nat} {p1 p2 pos pos' : Pos} (hg : PGd X c tg g ks) (hN : X.N[i]? = some x := by rfl) (hv : Vis X.env.scope x := by first | exact Or.inl rfl | exact Or.inr (Or.inl rfl) | exact Or.inr (Or.inr rfl))
    (hd : (x == ("__debug__" : Str)) = false := by decide) (hcd : (x == ("__classdict__" : Str)) = false := by decide)
    (hbase : attributeBase (.Name x p1) "pop" X.env (eval (.Name x p1) X.env) = eval (.Name x p1) X.env := by rfl) (hline : (p2.endLine == pos.line) = true := by rfl)
    (hs : swapsWithSole [tg] (.Call (.Attribute (.Name x p1) "pop" p2) [] [] pos) pos'.line X.env = pure false := by rfl) (hw : swappedStores [tg] (.Call (.Attribute (.Name x p1) "pop" p2) [] [] pos) X.env = pure none := by rfl)
    (h1 : (assignEach [tg] X.env).map (·.2) = [assign tg X.env] := by rfl) :
    PSd X c (.Assign [tg] (.Call (.Attribute (.Name x p1) "pop" p2) [] [] pos) pos') (fPop i g) := by
  have hpe : PE X (.Call (.Attribute (.Name x p1) "pop" p2) [] [] pos) (tBM0 X.K "list" rPop (tVar i)) := pe_bm0 PySem.F.plainAttrs_list PySem.F.slot_list_pop PySem.F.type_list_pop mt_pop (pe_var hN hv hd hcd) hbase hline
  refine ⟨fun D D' ρ l q => ?_, ps_weak (ps_asg hpe hg.pg hs hw h1) fun D σ H ⟨B, ρ, ok, q⟩ => ?_⟩
  · unfold fPop at q ⊢
    split at q <;> first | exact q.elim | skip
    split at q <;> first | exact q.elim | exact hg.mono _ _ _ _ l.nx q
  · unfold fPop at q
    split at q <;> first | exact q.elim | skip
    split at q <;> first | exact q.elim | skip
    rename_i ds e1 _ d e2
    obtain ⟨p, vs, k1, k2, k3⟩ := ok.own e1
    rw [List.getLast?_eq_getElem?] at e2
    obtain ⟨y, h3, h4⟩ := rpa_get k3 e2
    refine ⟨_, k1, .inl ⟨rfl, vs, SqL.of k2⟩, p, vs, y, rfl, rfl, k2, by rw [rpa_len k3]; exact h3, ?_⟩
    exact ⟨B, _, d, ok.chg e1 k1 (rpa_dropLast k3), h4, hg.mono _ _ _ _ (fun ρ' h' σ' ok' _ => h' σ' B _ ok' (Evl.Ex.refl B)) q⟩
theorem s_setIx (i : Nat) {x : Str} {e idx : Expr} {fa fk : SE} {p1 p2 pos : Pos} (he : PV X c e fa) (hk : PB X c idx fk) (hN : X.N[i]? = some x := by rfl) (hv : Vis X.env.scope x := by first | exact Or.inl rfl | exact Or.inr (Or.inl rfl) | exact Or.inr (Or.inr rfl))
    (hd : (x == ("__debug__" : Str)) = false := by decide) (hcd : (x == ("__classdict__" : Str)) = false := by decide)
    (ha : ∀ v, assign (.Subscript (.Name x p1) idx p2) X.env v = (do
      let ov ← holding [v] (eval (.Name x p1) X.env)
      let iv ← holding [v, ov] (eval idx X.env)
      standAt p2
      holding [v, ov, iv] (setItem ov iv v)
      release [v, ov, iv] []) := by intro _; rfl)
    (hs : swapsWithSole [.Subscript (.Name x p1) idx p2] e pos.line X.env = pure false := by rfl) (hw : swappedStores [.Subscript (.Name x p1) idx p2] e X.env = pure none := by rfl)
    (h1 : (assignEach [.Subscript (.Name x p1) idx p2] X.env).map (·.2) = [assign (.Subscript (.Name x p1) idx p2) X.env] := by rfl) :
    PSd X c (.Assign [.Subscript (.Name x p1) idx p2] e pos) (fSetIx i fa fk) := by
  refine ⟨fun D D' ρ l q => ?_, ps_weak (ps_asg he.pe (pg_sub (pe_var hN hv hd hcd) hk.pe set_list ha) hs hw h1) fun D σ H ⟨B, ρ, ok, q⟩ => ?_⟩
  · unfold fSetIx at q ⊢
    split at q <;> first | exact q.elim | skip
    refine he.mono _ _ _ (fun d hd => hk.mono _ _ _ (fun k hk' => ?_) hd) q
    cases k <;> first | exact hk'.elim | skip
    dsimp only at hk' ⊢
    split at hk' <;> first | exact hk'.elim | exact l.nx _ hk'
  · unfold fSetIx at q
    split at q <;> first | exact q.elim | skip
    rename_i ds e1
    refine ⟨B, ρ, ok, he.mono _ _ _ (fun d hd v B1 H1 g1 r1 => ?_) q⟩
    obtain ⟨p, vs, k1, k2, k3⟩ := (ok.mono g1).own e1
    refine ⟨_, k1, B1, ρ, ok.mono g1, hk.mono _ _ _ (fun k hk' u B2 H2 g2 r2 => ?_) hd⟩
    cases k <;> first | exact hk'.elim | skip
    rename_i k
    dsimp only at hk'
    split at hk' <;> first | exact hk'.elim | skip
    rename_i j e3
    have ok2 := (ok.mono g1).mono g2
    obtain ⟨p', vs1, m1, m2, m3⟩ := ok2.own e1
    rw [k1] at m1
    cases m1
    exact ⟨p, vs1, k, j, rfl, r2.int, m2, by rw [rpa_len m3]; exact e3, hk' σ B2 _ (ok2.chg e1 k1 (rpa_set (rp_mono g2.b r1) j m3)) (g1.b.trans g2.b)⟩
end
/-! ### what is walked -/
abbrev SI := Env → (List D → Prop) → Prop
/-- J yields ds, whatever more may come to stand -/
def ItOk (c : C) (J : It) (B : Hp) (ds : List D) : Prop := ∀ (i : Nat) (B1 H1 : Hp), Ex B B1 → Wd c B1 H1 →
  (ds.length ≤ i → J.stop i H1) ∧ ∀ d, ds[i]? = some d → J.go i H1 ∧ ∀ x H2, J.yld i H1 x H2 → ∃ B2, Gr c B1 H1 B2 H2 ∧ Rp B2 x d
def toI (c : C) (f : SI) : TI := fun σ H R => ∃ B ρ, EOk c B H σ ρ ∧ f ρ fun ds => ∀ J B' H', Gr c B H B' H' → ItOk c J B' ds → R J H'
structure PItd (X : Cx) (c : C) (tg iter : Expr) (f : SI) : Prop where
  mono : MonoL f
  pi : PI X tg iter (toI c f)
theorem pi_weak {X : Cx} {tg iter : Expr} {t t' : TI} (h : PI X tg iter t) (w : ∀ σ H R, t' σ H R → t σ H R) : PI X tg iter t' := ⟨fun pins s σ H R I q => h.run pins s σ H R I (w σ H R q)⟩
section
variable {X : Cx} {c : C} {tg : Expr}
theorem itok_list {B : Hp} {a : Addr} {xs : List V} {ds : List D} (h : B a = some (.lst xs)) (r : RpA B xs ds) : ItOk c (Itl X.K a) B ds := fun i B1 H1 e w => by
  have h1 : H1 a = some (.lst xs) := w.sub _ _ (e _ _ h)
  refine ⟨fun hi => ⟨xs, SqL.of h1, by rw [rpa_len r]; exact hi⟩, fun d hd => ?_⟩
  obtain ⟨v, h2, h3⟩ := rpa_get r hd
  refine ⟨⟨xs, v, SqL.of h1, h2⟩, fun x H2 ⟨e1, y⟩ => ?_⟩
  subst e1
  have := y xs (SqL.of h1)
  rw [h2] at this
  cases this
  exact ⟨B1, Gr.refl w, rp_mono e h3⟩
theorem itok_tup {B : Hp} {a : Addr} {xs : List V} {ds : List D} (h : B a = some (.tup xs)) (r : RpA B xs ds) : ItOk c (Itt X.K a) B ds := fun i B1 H1 e w => by
  have h1 : H1 a = some (.tup xs) := w.sub _ _ (e _ _ h)
  refine ⟨fun hi => ⟨xs, SqT.of h1, by rw [rpa_len r]; exact hi⟩, fun d hd => ?_⟩
  obtain ⟨v, h2, h3⟩ := rpa_get r hd
  refine ⟨⟨xs, v, SqT.of h1, h2⟩, fun x H2 ⟨e1, y⟩ => ?_⟩
  subst e1
  have := y xs (SqT.of h1)
  rw [h2] at this
  cases this
  exact ⟨B1, Gr.refl w, rp_mono e h3⟩
/-- a list or a tuple -/
def iSeqD (K : PySem.W.Frag) (tl : TE) : TI := fun σ H R => tl σ H fun x H1 => ∃ a xs, x = .ref a ∧ ((SqL K H1 a xs ∧ R (Itl K a) H1) ∨ (SqT K H1 a xs ∧ R (Itt K a) H1))
theorem pi_seqD {l : Expr} {tl : TE} (hl : PE X l tl) : PI X tg l (iSeqD X.K tl) := by
  refine ⟨fun pins s σ H R I h => thn (hl.run pins s σ H _ I h) fun v s1 hv => ?_⟩
  obtain ⟨x, H1, I1, r1, a, xs, ex, hq⟩ := hv
  subst ex
  cases r1
  have fr : FpOk X pins H1 s1.heap.objs.size := I1.fpOk (Nat.le_refl _) (I1.hok.fresh (Nat.le_refl _))
  have all : ∀ b ∈ [s1.heap.objs.size], FpOk X pins H1 b := fun b hb => by
    rw [List.mem_singleton] at hb
    rw [hb]; exact fr
  rcases hq with ⟨hq, q⟩ | ⟨hq, q⟩
  · obtain ⟨its, _, p, _⟩ := I1.list hq
    exact wpAny_pyIter_list p.isList ⟨_, _, _, _, H1, rfl, I1.kept (t' := s1.toks) fun _ _ e => Heap.get?_push_of_some _ e, turn_list a _, ⟨_, Heap.get?_push_size _ rfl, rfl, rfl⟩, all, q⟩
  · obtain ⟨its, _, p, _⟩ := I1.tuple hq
    exact wpAny_pyIter_tuple (show s1.heap.IsTuple a its.toArray from p) ⟨_, _, _, _, H1, rfl, I1.kept (t' := s1.toks) fun _ _ e => Heap.get?_push_of_some _ e, turn_tuple a _, ⟨_, Heap.get?_push_size _ rfl, rfl, rfl⟩, all, q⟩
theorem i_seq {e : Expr} {fa : SE} (ha : PV X c e fa) : PItd X c tg e (fSeq fa) := by
  refine ⟨mono_Seq ha.mono, pi_weak (pi_seqD ha.pe) fun σ H R ⟨B, ρ, ok, h⟩ => ⟨B, ρ, ok, ha.mono _ _ _ (fun d hd v B' H' g r => ?_) h⟩⟩
  cases d <;> simp only [seqOf] at hd <;> first | exact hd.elim | skip
  · obtain ⟨a, xs, rfl, h1, h2⟩ := rp_lst r
    exact ⟨a, xs, rfl, .inl ⟨SqL.of (g.w.sub _ _ h1), hd _ B' H' g (itok_list h1 h2)⟩⟩
  · obtain ⟨a, xs, rfl, h1, h2⟩ := rp_tup r
    exact ⟨a, xs, rfl, .inr ⟨SqT.of (g.w.sub _ _ h1), hd _ B' H' g (itok_tup h1 h2)⟩⟩
/-- lo, lo + 1, .. -/
def rng (lo : Int) (n : Nat) : List D := (List.range n).map fun i => .int (lo + (i : Nat))
theorem rng_len (lo : Int) (n : Nat) : (rng lo n).length = n := by unfold rng; rw [List.length_map, List.length_range]
theorem rng_get {lo : Int} {n i : Nat} {d : D} (h : (rng lo n)[i]? = some d) : i < n ∧ d = .int (lo + (i : Nat)) := by
  have hi : i < n := by
    have := (List.getElem?_eq_some_iff.mp h).1
    rw [rng_len] at this; exact this
  refine ⟨hi, ?_⟩
  unfold rng at h
  rw [List.getElem?_map, List.getElem?_range hi] at h
  cases h; rfl
theorem itok_rng {B : Hp} {lo : Int} {n : Nat} : ItOk c (Itr lo n) B (rng lo n) := fun i B1 H1 e w => by
  refine ⟨fun hi => by rw [rng_len] at hi; exact hi, fun d hd => ?_⟩
  obtain ⟨h1, h2⟩ := rng_get hd
  refine ⟨h1, fun x H2 ⟨e1, y⟩ => ?_⟩
  subst e1 y h2
  exact ⟨B1, Gr.refl w, .int _⟩
def fRng1 (fa : SE) : SI := fun ρ Q => fa ρ fun d => match d with | .int j => -(2 ^ 62) ≤ j ∧ j < 2 ^ 62 ∧ Q (rng 0 j.toNat) | _ => False
def fRng2 (fa fb : SE) : SI := fun ρ Q => fa ρ fun d => fb ρ fun e => match d, e with | .int i, .int j => (-(2 ^ 62) ≤ i ∧ i < 2 ^ 62 ∧ -(2 ^ 62) ≤ j ∧ j < 2 ^ 62) ∧ Q (rng i (j - i).toNat) | _, _ => False
theorem i_rng1 {a : Expr} {fa : SE} {p pos : Pos} (hm : X.mg "range" = none) (ha : PB X c a fa) (hg : Gl X "range" := by rfl) (hs : starEach [a] X.env = [(false, eval a X.env)] := by rfl) : PItd X c tg (.Call (.Name "range" p) [a] [] pos) (fRng1 fa) := by
  refine ⟨fun ρ Q Q' k h => ha.mono _ _ _ (fun d hd => ?_) h, pi_weak (pi_range1 hg hm (pa_cons ha.pe pa_nil (by rw [hs]; rfl)) hs) fun σ H R ⟨B, ρ, ok, h⟩ => ⟨B, ρ, ok, ha.mono _ _ _ (fun d hd v B' H' g r => ?_) h⟩⟩
  · cases d <;> first | exact hd.elim | exact ⟨hd.1, hd.2.1, k _ hd.2.2⟩
  · cases d <;> first | exact hd.elim | skip
    rw [r.int]
    exact ⟨_, rfl, hd.1, hd.2.1, hd.2.2 _ B' H' g itok_rng⟩
theorem i_rng2 {a b : Expr} {fa fb : SE} {p pos : Pos} (hm : X.mg "range" = none) (ha : PB X c a fa) (hb : PB X c b fb) (hg : Gl X "range" := by rfl) (hs : starEach [a, b] X.env = [(false, eval a X.env), (false, eval b X.env)] := by rfl) (hs2 : starEach [b] X.env = [(false, eval b X.env)] := by rfl) :
    PItd X c tg (.Call (.Name "range" p) [a, b] [] pos) (fRng2 fa fb) := by
  refine ⟨fun ρ Q Q' k h => ha.mono _ _ _ (fun d hd => hb.mono _ _ _ (fun e he => ?_) hd) h, pi_weak (pi_range2 hg hm (pa_cons ha.pe (pa_cons hb.pe pa_nil (by rw [hs2]; rfl)) (by rw [hs, hs2])) hs hs2) fun σ H R ⟨B, ρ, ok, h⟩ =>
    ⟨B, ρ, ok, ha.mono _ _ _ (fun d hd v B' H' g r => ⟨B', ρ, ok.mono g, hb.mono _ _ _ (fun e he u B2 H2 g2 r2 => ?_) hd⟩) h⟩⟩
  · cases d <;> cases e <;> first | exact he.elim | exact ⟨he.1, k _ he.2⟩
  · cases d <;> cases e <;> first | exact he.elim | skip
    rw [r.int, r2.int]
    exact ⟨_, _, rfl, he.1, he.2 _ B2 H2 (g.trans ok.w g2) itok_rng⟩
/-! ### for, while -/
/-- what a turn is to reach: k, the next turn -/
def loopE (k : Env → Prop) (D : En) : En := { nx := k, rt := D.rt, bk := D.nx, ct := k, ro := D.ro }
theorem loopE_le {k k' : Env → Prop} {D D' : En} (h : ∀ ρ, k ρ → k' ρ) (l : En.le D D') : En.le (loopE k D) (loopE k' D') := ⟨h, l.rt, l.nx, h, l.ro⟩
def fFor (g : GT) (body : SS) : List D → SS
  | [] => fun D ρ => D.nx ρ
  | d :: ds => fun D ρ => g d ρ fun ρ' => body (loopE (fFor g body ds D) D) ρ'
theorem mono_For {g : GT} {body : SS} (hg : ∀ d ρ (Q Q' : Env → Prop), (∀ ρ, Q ρ → Q' ρ) → g d ρ Q → g d ρ Q') (hb : MonoS body) : ∀ ds, MonoS (fFor g body ds)
  | [] => fun _ _ _ l h => l.nx _ h
  | _ :: ds => fun D D' ρ l h => hg _ _ _ _ (fun ρ' h' => hb _ _ _ (loopE_le (fun ρ q => mono_For hg hb ds _ _ _ l q) l) h') h
theorem s_for {iter : Expr} {body : List Stmt} {fi : SI} {g : GT} {ks : List Nat} {f : SS} {pos : Pos} (hp : PassesOwn (model X.prog X.w) X.A X.env X.xe) (hc : X.calm = true) (hi : PItd X c tg iter fi) (hg : PGd X c tg g ks) (hb : PSsd X c body f)
    (hs : ∀ x, foldedSetIterable iter X.env x = pure x := by intro _; rfl) : PSd X c (.For tg iter body [] pos) (fun D ρ => fi ρ fun ds => fFor g f ds D ρ) := by
  refine ⟨fun D D' ρ l h => hi.mono _ _ _ (fun ds q => mono_For hg.mono hb.mono ds _ _ _ l q) h, ps_weak (ps_for hp hc hi.pi hg.pg hb.ps hs) fun D σ H ⟨B, ρ, ok, h⟩ => ?_⟩
  refine ⟨B, ρ, ok, hi.mono _ _ _ (fun ds hd J B' H' g' it => ?_) h⟩
  refine ⟨fun i m σ1 H1 => m = ds.length - i ∧ i ≤ ds.length ∧ ∃ B1 ρ1, EOk c B1 H1 σ1 ρ1 ∧ Ex B' B1 ∧ fFor g f (ds.drop i) (liftE c B1 D) ρ1, ⟨ds.length, by simp, Nat.zero_le _, B', ρ, ok.mono g', Evl.Ex.refl _, ?_⟩, ?_⟩
  · rw [List.drop_zero]
    exact mono_For hg.mono hb.mono ds _ _ _ (liftE_le g'.b D) hd
  · rintro i m σ1 H1 ⟨rfl, hi', B1, ρ1, ok1, e1, q⟩
    obtain ⟨i1, i2⟩ := it i B1 H1 e1 ok1.w
    by_cases hlt : i < ds.length
    · refine .inr ?_
      obtain ⟨d, hd⟩ : ∃ d, ds[i]? = some d := ⟨ds[i], by simp [hlt]⟩
      obtain ⟨go, yl⟩ := i2 d hd
      refine ⟨go, fun σ' H' => ∃ B2 ρ2, EOk c B2 H' σ' ρ2 ∧ Ex B' B2 ∧ fFor g f (ds.drop (i + 1)) (liftE c B2 D) ρ2, fun σ' H' ⟨B2, ρ2, k1, k2, k3⟩ => ⟨ds.length - (i + 1), by omega, rfl, hlt, B2, ρ2, k1, k2, k3⟩, fun x H2 hy => ?_⟩
      obtain ⟨B2, g2, r2⟩ := yl x H2 hy
      have ed : ds.drop i = d :: ds.drop (i + 1) := by
        rw [List.drop_eq_getElem_cons hlt]
        congr 1
        have := List.getElem?_eq_getElem hlt
        rw [this] at hd
        exact Option.some.inj hd
      rw [ed] at q
      refine ⟨B2, ρ1, d, ok1.mono g2, r2, hg.mono _ _ _ _ (fun ρ' h' σ' ok' _ => ?_) q⟩
      refine ⟨B2, ρ', ok', hb.mono (loopE (fFor g f (ds.drop (i + 1)) (liftE c B1 D)) (liftE c B1 D)) _ _ ⟨fun ρ3 h3 σ3 B3 H3 ok3 e3 => ?_, fun _ h3 => h3, fun ρ3 h3 σ3 B3 H3 ok3 e3 => ?_, fun ρ3 h3 σ3 B3 H3 ok3 e3 => ?_, fun _ h3 => h3⟩ h'⟩
      · exact ⟨B3, ρ3, ok3, (e1.trans g2.b).trans e3, mono_For hg.mono hb.mono _ _ _ _ (liftE_le (g2.b.trans e3) D) h3⟩
      · exact h3 σ3 B3 H3 ok3 (g2.b.trans e3)
      · exact ⟨B3, ρ3, ok3, (e1.trans g2.b).trans e3, mono_For hg.mono hb.mono _ _ _ _ (liftE_le (g2.b.trans e3) D) h3⟩
    · refine .inl ⟨i1 (by omega), ?_⟩
      rw [List.drop_eq_nil_of_le (by omega)] at q
      exact q σ1 B1 H1 ok1 (Evl.Ex.refl _)
def fWhN (t : ST) (body : SS) : Nat → SS
  | 0 => fun _ _ => False
  | n + 1 => fun D ρ => t ρ fun b => if b = true then body (loopE (fWhN t body n D) D) ρ else D.nx ρ
theorem mono_WhN {t : ST} {body : SS} (ht : MonoT t) (hb : MonoS body) : ∀ n, MonoS (fWhN t body n)
  | 0 => fun _ _ _ _ h => h
  | n + 1 => fun D D' ρ l h => ht _ _ _ (fun b hb' => by
    cases b with
    | true => exact hb _ _ _ (loopE_le (fun ρ q => mono_WhN ht hb n _ _ _ l q) l) hb'
    | false => exact l.nx _ hb') h
def fWhile (t : ST) (body : SS) : SS := fun D ρ => ∃ n, fWhN t body n D ρ
theorem s_while {cc : Expr} {body : List Stmt} {t : ST} {f : SS} {pos : Pos} (hp : PassesOwn (model X.prog X.w) X.A X.env X.xe) (ht : PTd X c cc t) (hb : PSsd X c body f) : PSd X c (.While cc body [] pos) (fWhile t f) := by
  refine ⟨fun D D' ρ l ⟨n, h⟩ => ⟨n, mono_WhN ht.mono hb.mono n _ _ _ l h⟩, ps_weak (ps_while hp ht.pt hb.ps) fun D σ H ⟨B, ρ, ok, n, h⟩ => ?_⟩
  refine ⟨fun m σ1 H1 => ∃ B1 ρ1, EOk c B1 H1 σ1 ρ1 ∧ fWhN t f m (liftE c B1 D) ρ1, ⟨n, B, ρ, ok, h⟩, ?_⟩
  rintro m σ1 H1 ⟨B1, ρ1, ok1, q⟩
  cases m with
  | zero => exact q.elim
  | succ m =>
    refine ⟨B1, ρ1, ok1, ht.mono _ _ _ (fun b hb' B2 H2 g2 => ?_) q⟩
    cases b with
    | false => exact hb' σ1 B2 H2 (ok1.mono g2) g2.b
    | true =>
      rw [if_pos rfl] at hb' ⊢
      refine ⟨fun σ' H' => ∃ B3 ρ3, EOk c B3 H' σ' ρ3 ∧ fWhN t f m (liftE c B3 D) ρ3, fun σ' H' k => ⟨m, Nat.lt_succ_self _, k⟩, ?_⟩
      refine ⟨B2, ρ1, ok1.mono g2, hb.mono (loopE (fWhN t f m (liftE c B1 D)) (liftE c B1 D)) _ _ ⟨fun ρ3 h3 σ3 B3 H3 ok3 e3 => ?_, fun _ h3 => h3, fun ρ3 h3 σ3 B3 H3 ok3 e3 => ?_, fun ρ3 h3 σ3 B3 H3 ok3 e3 => ?_, fun _ h3 => h3⟩ hb'⟩
      · exact ⟨B3, ρ3, ok3, mono_WhN ht.mono hb.mono _ _ _ _ (liftE_le (g2.b.trans e3) D) h3⟩
      · exact h3 σ3 B3 H3 ok3 (g2.b.trans e3)
      · exact ⟨B3, ρ3, ok3, mono_WhN ht.mono hb.mono _ _ _ _ (liftE_le (g2.b.trans e3) D) h3⟩
end
/-! ### list comprehensions -/
def wipeE (ρ : Env) : List Nat → Env
  | [] => ρ
  | v :: vs => (wipeE ρ vs).set v .un
theorem EOk.wiped {c : C} {B H : Hp} {σ : St} {ρ : Env} (ok : EOk c B H σ ρ) : ∀ vs : List Nat, EOk c B H (wipe σ vs) (wipeE ρ vs)
  | [] => ok
  | v :: vs => by
    have h := EOk.wiped ok vs
    show EOk c B H ((wipe σ vs).set v none) ((wipeE ρ vs).set v .un)
    have len := h.len
    refine ⟨h.w0, h.w, h.g, by rw [List.length_set, List.length_set]; exact len, fun j s hj => ?_, fun j k p ds es hjk h1 h2 h3 h4 => ?_⟩
    · by_cases e : v = j
      · subst e
        have hl : v < (wipeE ρ vs).length := by
          have := (List.getElem?_eq_some_iff.mp hj).1
          rw [List.length_set] at this; exact this
        rw [List.getElem?_set_self hl] at hj
        cases hj
        trivial
      · rw [List.getElem?_set_ne e] at hj
        exact (h.sl j s hj).congr (List.getElem?_set_ne e)
    · have old : ∀ {y : Nat} {fs : List D}, ((wipeE ρ vs).set v Sl.un)[y]? = some (Sl.ow fs) → v ≠ y ∧ (wipeE ρ vs)[y]? = some (Sl.ow fs) := fun {y fs} hx => by
        by_cases e : v = y
        · subst e
          have hl : v < (wipeE ρ vs).length := by
            have := (List.getElem?_eq_some_iff.mp hx).1
            rw [List.length_set] at this; exact this
          rw [List.getElem?_set_self hl] at hx; cases hx
        · rw [List.getElem?_set_ne e] at hx; exact ⟨e, hx⟩
      obtain ⟨n1, o1⟩ := old h1
      obtain ⟨n2, o2⟩ := old h2
      rw [List.getElem?_set_ne n1] at h3
      rw [List.getElem?_set_ne n2] at h4
      exact h.ap j k p ds es hjk o1 o2 h3 h4
theorem wipe_get {σ : St} : ∀ {vs : List Nat} {j : Nat}, (wipe σ vs)[j]? = if j ∈ vs then (if j < σ.length then some none else none) else σ[j]?
  | [], j => by simp [wipe]
  | v :: vs, j => by
    show ((wipe σ vs).set v none)[j]? = _
    by_cases e : v = j
    · subst e
      by_cases h : v < σ.length
      · rw [List.getElem?_set_self (by rw [wipe_length]; exact h)]
        simp [h]
      · rw [List.getElem?_eq_none (by rw [List.length_set, wipe_length]; omega)]
        simp [h]
    · rw [List.getElem?_set_ne e, wipe_get]
      by_cases h : j ∈ vs
      · simp [h]
      · have : j ∉ v :: vs := by simp only [List.mem_cons, not_or]; exact ⟨fun z => e z.symm, h⟩
        rw [if_neg h, if_neg this]
theorem wipe_off {σ σ' : St} {ks vs : List Nat} (hk : ∀ k ∈ ks, k ∈ vs) (h : Off ks (wipe σ vs) σ') : wipe σ' vs = wipe σ vs := by
  apply List.ext_getElem?
  intro j
  have hl : σ'.length = σ.length := by rw [h.1, wipe_length]
  rw [wipe_get, wipe_get, hl]
  by_cases hj : j ∈ vs
  · rw [if_pos hj, if_pos hj]
  · rw [if_neg hj, if_neg hj, h.2 j (fun z => hj (hk j z)), wipe_get, if_neg hj]
structure PTsd (X : Cx) (c : C) (ifs : List Expr) (t : ST) : Prop where
  mono : MonoT t
  pts : PTs X ifs (toT c t)
def fYes : ST := fun _ Q => Q true
theorem ts_nil {X : Cx} {c : C} : PTsd X c [] fYes := ⟨fun _ _ _ k h => k _ h, ⟨fun pins s σ H Q I h => pts_nil.run pins s σ H Q I (by
  obtain ⟨B, ρ, ok, h⟩ := h
  exact h B H (Gr.refl ok.w))⟩⟩
theorem ts_one {X : Cx} {c : C} {e : Expr} {t : ST} (h : PTd X c e t) : PTsd X c [e] t := ⟨h.mono, pts_one h.pt⟩
def lcRun (g : GT) (t : ST) (e : SE) (ρ : Env) : List D → (List D → Prop) → Prop
  | [], Q => Q []
  | d :: ds, Q => g d ρ fun ρ1 => t ρ1 fun b => if b = true then e ρ1 fun y => lcRun g t e ρ ds fun ys => Q (y :: ys) else lcRun g t e ρ ds Q
theorem mono_lcRun {g : GT} {t : ST} {e : SE} {ρ : Env} (hg : ∀ d ρ (Q Q' : Env → Prop), (∀ ρ, Q ρ → Q' ρ) → g d ρ Q → g d ρ Q') (ht : MonoT t) (he : Mono e) : ∀ (ds : List D) (Q Q' : List D → Prop), (∀ ys, Q ys → Q' ys) → lcRun g t e ρ ds Q → lcRun g t e ρ ds Q'
  | [], _, _, k, h => k _ h
  | _ :: ds, Q, Q', k, h => hg _ _ _ _ (fun ρ1 h1 => ht _ _ _ (fun b hb => by
    cases b with
    | true => exact he _ _ _ (fun y hy => mono_lcRun hg ht he ds _ _ (fun ys h => k _ h) hy) hb
    | false => exact mono_lcRun hg ht he ds _ _ k hb) h1) h
def fLc (vs : List Nat) (fi : SI) (g : GT) (t : ST) (e : SE) : SL := fun ρ Q => fi ρ fun ds => ds.length ≤ most ∧ lcRun g t e (wipeE ρ vs) ds Q
theorem Gr.upN {c : C} {B H B' H' : Hp} (w : Wd c B H) (g : Gr c B H B' H') {p : Addr} {o : HO} (h0 : H p = none) (h1 : B' p = none) : Gr c B H B' (upd H' p o) := by
  have nb : ¬ c.isBag p := fun z => w.there z h0
  refine ⟨g.b, fun a u na e => ?_, g.n, fun a u e => ?_, g.w.bag.keep fun a ha => ⟨rfl, upd_ne fun z => nb (z ▸ ha)⟩⟩
  · rw [upd_ne (ne_of_none e h0)]; exact g.h a u na e
  · rw [upd_ne (ne_of_none e h1)]; exact g.w.sub a u e
section
variable {X : Cx} {c : C}
theorem lc_go {vs ks : List Nat} {fi : SI} {g : GT} {t : ST} {e : SE} (hk : ∀ k ∈ ks, k ∈ vs) (hi : MonoL fi) (hg : ∀ d ρ (Q Q' : Env → Prop), (∀ ρ, Q ρ → Q' ρ) → g d ρ Q → g d ρ Q') (ht : MonoT t) (he : Mono e)
    (σ : St) (H : Hp) (Q : VK) (h : toN c (fLc vs fi g t e) σ H Q) : tLc (toI c fi) (toG c g ks) (toT c t) (toV c e) vs σ H Q := by
  obtain ⟨B, ρ, ok, h⟩ := h
  refine ⟨B, ρ, ok, hi _ _ _ (fun ds hd J B1 H1 g1 it Dl hD => ?_) h⟩
  obtain ⟨hm, hd⟩ := hd
  have ok1 := ok.mono g1
  refine ⟨fun i m H2 => m = ds.length - i ∧ i ≤ ds.length ∧ ∃ B2 acc ad, Gr c B1 H1 B2 H2 ∧ B2 Dl = none ∧ H2 Dl = some (.lst acc) ∧ RpA B2 acc ad ∧ ad.length ≤ i ∧
    lcRun g t e (wipeE ρ vs) (ds.drop i) fun ys => ∀ p ws B' H', Gr c B H B' H' → H p = none → B' p = none → H' p = some (.lst ws) → RpA B' ws (ad ++ ys) → Q (.ref p) H', ⟨ds.length, by simp, Nat.zero_le _, B1, [], [], ?_, ?_, upd_same, .nil, Nat.le_refl _, ?_⟩, ?_⟩
  · exact Gr.newO g1.w hD
  · exact Evl.fresh_back g1.w.sub hD
  · rw [List.drop_zero]; exact hd
  · rintro i m H2 ⟨rfl, hi', B2, acc, ad, g2, k1, k2, k3, k4, q⟩
    obtain ⟨i1, i2⟩ := it i B2 H2 g2.b g2.w
    by_cases hlt : i < ds.length
    · refine .inr ?_
      obtain ⟨d, hd'⟩ : ∃ d, ds[i]? = some d := ⟨ds[i], by simp [hlt]⟩
      obtain ⟨go, yl⟩ := i2 d hd'
      refine ⟨go, fun H' => ∃ B2 acc ad, Gr c B1 H1 B2 H' ∧ B2 Dl = none ∧ H' Dl = some (.lst acc) ∧ RpA B2 acc ad ∧ ad.length ≤ i + 1 ∧
        lcRun g t e (wipeE ρ vs) (ds.drop (i + 1)) fun ys => ∀ p ws B' H', Gr c B H B' H' → H p = none → B' p = none → H' p = some (.lst ws) → RpA B' ws (ad ++ ys) → Q (.ref p) H', fun H' hn => ⟨ds.length - (i + 1), by omega, rfl, hlt, hn⟩, fun x H3 hy => ?_⟩
      obtain ⟨B3, g3, r3⟩ := yl x H3 hy
      have ed : ds.drop i = d :: ds.drop (i + 1) := by
        rw [List.drop_eq_getElem_cons hlt]
        congr 1
        have := List.getElem?_eq_getElem hlt
        rw [this] at hd'
        exact Option.some.inj hd'
      rw [ed] at q
      have stay : ∀ {B4 H4 : Hp}, Gr c B2 H2 B4 H4 → B4 Dl = none ∧ H4 Dl = some (.lst acc) := fun {B4 H4} g4 => by
        have hne : H2 Dl ≠ none := by rw [k2]; exact fun z => nomatch z
        refine ⟨by rw [g4.n Dl hne]; exact k1, g4.h Dl _ (fun z => g1.w.there z hD) k2⟩
      have okw := ((ok1.mono g2).mono g3).wiped vs
      refine ⟨B3, wipeE ρ vs, d, okw, r3, hg _ _ _ _ (fun ρ1 h1 σ1 okg off => ?_) q⟩
      refine ⟨wipe_off hk off, B3, ρ1, okg, ht _ _ _ (fun b hb B4 H4 g4 => ?_) h1⟩
      have g34 := g3.trans g2.w g4
      cases b with
      | true =>
        refine ⟨B4, ρ1, okg.mono g4, he _ _ _ (fun y hy v B5 H5 g5 r5 => ?_) hb⟩
        have g35 := g34.trans g2.w g5
        obtain ⟨s1, s2⟩ := stay g35
        refine ⟨acc, s2, ?_, B5, acc ++ [v], ad ++ [y], Gr.upN g1.w (g2.trans g1.w g35) hD s1, s1, upd_same, rpa_app (rpa_mono g35.b k3) (.cons r5 .nil), ?_, ?_⟩
        · rw [rpa_len k3]; exact most_lt (by omega)
        · rw [List.length_append, List.length_singleton]; omega
        · refine mono_lcRun hg ht he _ _ _ (fun ys hq p ws B' H' a1 a2 a3 a4 a5 => hq p ws B' H' a1 a2 a3 a4 ?_) hy
          rw [List.append_assoc] at a5
          exact a5
      | false =>
        obtain ⟨s1, s2⟩ := stay g34
        exact ⟨B4, acc, ad, g2.trans g1.w g34, s1, s2, rpa_mono g34.b k3, by omega, hb⟩
    · refine .inl ⟨i1 (by omega), ?_⟩
      rw [List.drop_eq_nil_of_le (by omega)] at q
      have hH : H Dl = none := g1.back hD
      refine q Dl acc B2 H2 (g1.trans ok.w g2) hH k1 k2 ?_
      rw [List.append_nil]; exact k3
theorem mono_Lc {vs : List Nat} {fi : SI} {g : GT} {t : ST} {e : SE} (hi : MonoL fi) (hg : ∀ d ρ (Q Q' : Env → Prop), (∀ ρ, Q ρ → Q' ρ) → g d ρ Q → g d ρ Q') (ht : MonoT t) (he : Mono e) : MonoL (fLc vs fi g t e) := fun ρ Q Q' k h => hi _ _ _ (fun ds q => ⟨q.1, mono_lcRun hg ht he _ _ _ k q.2⟩) h
/-- the block's derivations: for each entry -/
abbrev Blk (X : Cx) (scope : Scope) (P : Cx → Prop) : Prop := ∀ (s : Shared) (H : Hp) (Ca : Addr) (cl : List (Str × Addr)) (fp : List Addr), P (X.blk s H scope (compEnvC scope cl Ca X.env) fp)
theorem n_lc {elt tg iter : Expr} {ifs : List Expr} {scope : Scope} {own : List (Str × Nat)} {pos : Pos} {fi : SI} {g : GT} {ks : List Nat} {t : ST} {fe : SE} (hc : X.calm = true) (hN : X.N.Nodup) (ok : blkC X.N X.env.scope scope own = true) (hi : PItd X c tg iter fi)
    (hg : Blk X scope fun Y => PGd Y c tg g ks) (ht : Blk X scope fun Y => PTsd Y c ifs t) (he : Blk X scope fun Y => PV Y c elt fe) (hk : ∀ k ∈ ks, k ∈ own.map (·.2) := by decide) (hs : ∀ x, foldedSetIterable iter X.env x = pure x := by intro _; rfl) :
    PN X c (.ListComp elt [⟨tg, iter, ifs, 0⟩] scope pos) (fLc (own.map (·.2)) fi g t fe) := by
  have m1 := (hg ({} : Shared) (fun _ => none) 0 [] []).mono
  have m2 := (ht ({} : Shared) (fun _ => none) 0 [] []).mono
  have m3 := (he ({} : Shared) (fun _ => none) 0 [] []).mono
  exact ⟨mono_Lc hi.mono m1 m2 m3, pe_weak (pe_lc hc hN hi.pi (blkOk_by ok) (fun s H C cl fp => (hg s H C cl fp).pg) (fun s H C cl fp => (ht s H C cl fp).pts) (fun s H C cl fp => (he s H C cl fp).pe) hs) (lc_go hk hi.mono m1 m2 m3)⟩
/-- name = [..] on one line, the name a local -/
theorem s_lc (i : Nat) {y : Str} {py : Pos} {elt tg iter : Expr} {ifs : List Expr} {scope : Scope} {own : List (Str × Nat)} {pos spos : Pos} {fi : SI} {g : GT} {ks : List Nat} {t : ST} {fe : SE} (hc : X.calm = true) (hN : X.N.Nodup) (ok : blkC X.N X.env.scope scope own = true) (hi : PItd X c tg iter fi)
    (hg : Blk X scope fun Y => PGd Y c tg g ks) (ht : Blk X scope fun Y => PTsd Y c ifs t) (he : Blk X scope fun Y => PV Y c elt fe) (hk : ∀ k ∈ ks, k ∈ own.map (·.2) := by decide) (hy : X.N[i]? = some y := by rfl) (hyl : X.env.scope.names.lookup y = some .local := by rfl)
    (hsw : swapsWith (.ListComp elt [⟨tg, iter, ifs, 0⟩] scope pos) (some (.Name y py)) spos.line X.env = pure true := by exact sw_true rfl rfl rfl (by decide +kernel)) (hs : ∀ x, foldedSetIterable iter X.env x = pure x := by intro _; rfl) :
    PSd X c (.Assign [.Name y py] (.ListComp elt [⟨tg, iter, ifs, 0⟩] scope pos) spos) (fSetN i (fLc (own.map (·.2)) fi g t fe)) := by
  have m1 := (hg ({} : Shared) (fun _ => none) 0 [] []).mono
  have m2 := (ht ({} : Shared) (fun _ => none) 0 [] []).mono
  have m3 := (he ({} : Shared) (fun _ => none) 0 [] []).mono
  have m := mono_Lc (vs := own.map (·.2)) hi.mono m1 m2 m3
  refine ⟨mono_SetN m, ps_weak (ps_setLc hc hN hy hyl hsw hi.pi (blkOk_by ok) (fun s H C cl fp => (hg s H C cl fp).pg) (fun s H C cl fp => (ht s H C cl fp).pts) (fun s H C cl fp => (he s H C cl fp).pe) hs) fun D σ H q => ?_⟩
  exact lc_go hk hi.mono m1 m2 m3 σ H _ (setN_go m D σ H q)
end
end DL
namespace DL
open PySem L2 PyProof.Rows
/-! ### defs, with what guards stand around told -/
abbrev Spec := List Sl → (D → Prop) → Prop
def toSp (G : C → Prop) (S : Spec) : Sp := fun vs H Q _ => ∃ c : C, G c ∧ c.H0 = H ∧ Wd c c.B0 H ∧ ∃ ss, ArgsOk c c.B0 H vs ss ∧ S ss fun d => ∀ v B' H', Gr c c.B0 H B' H' → Rp B' v d → Q v H'
theorem ArgsOk.len {c : C} {B H : Hp} : ∀ {vs : List V} {ss : List Sl}, ArgsOk c B H vs ss → vs.length = ss.length
  | [], [], _ => rfl
  | _ :: _, _ :: _, h => by rw [List.length_cons, List.length_cons, ArgsOk.len h.2]
  | [], _ :: _, h => h.elim
  | _ :: _, [], h => h.elim
theorem ArgsOk.get {c : C} {B H : Hp} : ∀ {vs : List V} {ss : List Sl} {i : Nat} {s : Sl}, ArgsOk c B H vs ss → ss[i]? = some s → ∃ v, vs[i]? = some v ∧ ArgOk c B H v s
  | _ :: _, _ :: _, 0, _, h, e => by
    simp at e
    subst e
    exact ⟨_, rfl, h.1⟩
  | _ :: _, _ :: _, i + 1, s, h, e => by
    obtain ⟨v, h1, h2⟩ := ArgsOk.get (i := i) h.2 (by simpa using e)
    exact ⟨v, by simpa using h1, h2⟩
  | [], [], _, _, _, e => by simp at e
  | [], _ :: _, _, _, h, _ => h.elim
  | _ :: _, [], _, _, h, _ => h.elim
structure FnG (G : C → Prop) (P : Program) (w : World) (K : PySem.W.Frag) (mg : Str → Option Value) (base : Heap) (k : Nat) (f : Addr) (fd : FuncData) (ps : List Str) (S : Spec) : Prop where
  mono : ∀ ss (Q Q' : D → Prop), (∀ d, Q d → Q' d) → S ss Q → S ss Q'
  len : ∀ ss Q, S ss Q → ss.length = ps.length
  run : ∀ (A : Around) (outer : List PySem.Env) (s : Shared) (H : Hp) (args : Args) (us : List Value) (vs : List V) (Q : VK), A.guards = some [] → Room k A → Env0 P w K mg base A outer s H →
    BindsTo s fd args (ps.zip us) → Vals vs us → toSp G S vs H Q E0 → codeAny (model P w) A (.call (.ref f) args) (CR CX0 outer P w H s Q E0) s
theorem FnG.up {G : C → Prop} {P : Program} {w : World} {K : PySem.W.Frag} {mg : Str → Option Value} {base : Heap} {j k : Nat} {f : Addr} {fd : FuncData} {ps : List Str} {S : Spec} (F : FnG G P w K mg base j f fd ps S) (h : j ≤ k) : FnG G P w K mg base k f fd ps S :=
  ⟨F.mono, F.len, fun A outer s H args us vs Q hg hr => F.run A outer s H args us vs Q hg (hr.mono h)⟩
/-- the slots at the entry -/
def initE (N : List Str) (ss : List Sl) : Env := ss ++ List.replicate (N.length - ss.length) .un
theorem EOk.init {c : C} {N : List Str} {vs : List V} {ss : List Sl} (w : Wd c c.B0 c.H0) (h : ArgsOk c c.B0 c.H0 vs ss) : EOk c c.B0 c.H0 (L2.start N vs) (initE N ss) := by
  have hl := h.len
  have key : ∀ {i : Nat} {s : Sl}, (initE N ss)[i]? = some s → s ≠ .un → ∃ v, (L2.start N vs)[i]? = some (some v) ∧ ArgOk c c.B0 c.H0 v s := fun {i s} e n => by
    unfold initE at e
    unfold L2.start
    by_cases hi : i < ss.length
    · rw [List.getElem?_append_left hi] at e
      obtain ⟨v, h1, h2⟩ := h.get e
      refine ⟨v, ?_, h2⟩
      rw [List.getElem?_append_left (by rw [List.length_map]; omega), List.getElem?_map, h1]
      rfl
    · rw [List.getElem?_append_right (by omega), List.getElem?_replicate] at e
      split at e
      · cases e; exact absurd rfl n
      · cases e
  refine ⟨w, w, Gr.refl w, ?_, fun i s e => ?_, fun i j p ds es _ h1 _ _ _ => ?_⟩
  · unfold initE L2.start
    rw [List.length_append, List.length_append, List.length_replicate, List.length_replicate, List.length_map, hl]
  · cases s with
    | un => trivial
    | sh d => exact key e (fun z => nomatch z)
    | ex x =>
      obtain ⟨v, _, h2⟩ := key e (fun z => nomatch z)
      exact h2.elim
    | bg =>
      obtain ⟨v, h1, h2⟩ := key e (fun z => nomatch z)
      have h3 : v = .ref c.pb := h2
      rw [h3] at h1
      exact h1
    | ow ds =>
      obtain ⟨v, _, h2⟩ := key e (fun z => nomatch z)
      exact h2.elim
  · obtain ⟨v, _, h2⟩ := key h1 (fun z => nomatch z)
    exact h2.elim
/-- a def's end -/
def endsOf (Q : D → Prop) : En := ⟨fun _ => Q .none, Q, fun _ => False, fun _ => False, fun _ => False⟩
section
variable {G : C → Prop} {P : Program} {w : World} {K : PySem.W.Frag} {mg : Str → Option Value} {base : Heap}
/-- THE RULE for a def -/
theorem fng_of {x qual : Str} {st : Stmt} {f : Addr} {fd : FuncData} {N ps : List Str} {k : Nat} {S : Spec} (F : Fun K x qual st f fd) (sc : FnScope N ps (defScope st)) (mono : ∀ ss (Q Q' : D → Prop), (∀ d, Q d → Q' d) → S ss Q → S ss Q') (len : ∀ ss Q, S ss Q → ss.length = ps.length)
    (body : ∀ (cdv : Value) (A : Around) (outer : List PySem.Env) (s : Shared) (c : C), G c → A.guards = some [] → Room k (A.deeper (envOfC qual (defScope st) s.heap.objs.size f cdv)) →
      ∃ g, PSsd (cxOf CX0 P w K mg base N qual (defScope st) f cdv A outer s c.H0 E0).nox c (defBody st) g ∧ ∀ ss Q, S ss Q → g (endsOf Q) (initE N ss)) : FnG G P w K mg base (k + 1) f fd ps S := by
  obtain ⟨oc, od, kV, doc, pm, an, cdv, ct, osl, rfl, lk', hcd⟩ := F.ex
  refine ⟨mono, len, ?_⟩
  intro A outer s H args us vs Q hg hr e0 hb r hsp
  obtain ⟨c, hG, hH, wd, ss, ha, hS⟩ := hsp
  subst hH
  have hvl : vs.length = ps.length := by rw [ha.len]; exact len _ _ hS
  have stands : ∀ b o, base.get? b = some o → s.heap.get? b = some o := fun b o z => (e0.bs b o z).1
  have KX : K.In s.heap := e0.mod.kin.keeps stands
  refine codeAny_call_function hr.depth (KX _ _ lk') rfl sc.co sc.gen rfl (PySem.W.codeRec_of KX hcd) (hb _ _ _ _ (wpAny_newFunctionEnv_cells sc.kind ?_ ?_))
  · rintro ⟨n, v⟩ hy
    rcases sc.par n (List.of_mem_zip hy).1 with q | q
    · exact Or.inl q
    · exact Or.inr ⟨q, PySem.W.cellsFrom_some _ _ _ (Or.inl q)⟩
  · intro env he s1 x
    subst he
    refine ⟨(e0.mod.nolimit.keeps stands).keeps x.toInCall.keep, codeAny_func ?_⟩
    obtain ⟨g, hg1, hg2⟩ := body cdv A outer s c hG hg (hr.deeper _)
    have I := inv_start (CX := CX0) (E := E0) (qual := qual) sc hr.hd e0 hvl r x
    have ok := EOk.init (N := N) wd ha
    have goal := hg1.ps.nox.run [] s1 (L2.start N vs) c.H0 { nx := fun _ H' => Q .non H', rt := Q } I ⟨c.B0, initE N ss, ok, hg1.mono (endsOf fun d => ∀ v B' H', Gr c c.B0 c.H0 B' H' → Rp B' v d → Q v H') _ _ ⟨fun ρ h σ' B' H' ok' _ => h .non B' H' ok'.g .non, fun _ h => h, fun _ h => h.elim, fun _ h => h.elim, fun _ h => h.elim⟩ (hg2 ss _ hS)⟩
    refine wpAny_mono goal (fun fl s' hs => ?_) fun _ _ z => z
    cases fl with
    | ret u =>
      obtain ⟨v, σ', H', J, rv, q⟩ := hs
      exact ⟨v, H', J.os, J.bare, J.base, J.hok, rv, q⟩
    | next =>
      obtain ⟨σ', H', J, q⟩ := hs
      exact ⟨.non, H', J.os, J.bare, J.base, J.hok, rfl, q⟩
    | brk => exact hs.elim fun _ z => z.elim fun _ y => y.2.elim
    | cont => exact hs.elim fun _ z => z.elim fun _ y => y.2.elim
end
/-! ### calls of defs -/
def fCall (S : Spec) (fa : SA) : SE := fun ρ Q => fa ρ fun ss => S ss Q
section
variable {G : C → Prop} {X : Cx} {c : C} {k : Nat} {f : Addr} {fd : FuncData} {ps : List Str} {S : Spec}
theorem run_fng {pins : List (Addr × Obj)} {σ : St} {H : Hp} {s : Shared} {Q : VK} {args : Args} {us : List Value} {vs : List V} (F : FnG G X.prog X.w X.K X.mg X.base k f fd ps S) (hgd : X.A.guards = some []) (hr : Room k X.A) (I : Inv X pins σ H s)
    (hb : BindsTo s fd args (ps.zip us)) (r : Vals vs us) (h : toSp G S vs H Q E0) : codeAny (model X.prog X.w) X.A (.call (.ref f) args) (wants (EP X pins σ Q) X.xe) s := by
  refine codeAny_mono (F.run X.A X.stack s H args us vs Q hgd hr I.env0 hb r h) fun z s' hq => ?_
  cases z with
  | error e => exact False.elim hq
  | ok fl => cases fl <;> first | exact I.after hq | exact False.elim hq
theorem BagOk.again {c : C} {B0 H0 B H : Hp} (b : BagOk c B H) : BagOk { c with B0 := B0, H0 := H0 } B H := ⟨b.out, b.here, b.ok⟩
theorem toSp_of {B H B1 H1 : Hp} {Q : VK} {vs : List V} {ss : List Sl} (hG : ∀ B1 H1, G { c with B0 := B1, H0 := H1 }) (w0 : Wd c B H) (g : Gr c B H B1 H1) (F : FnG G X.prog X.w X.K X.mg X.base k f fd ps S) (r : ArgsOk c B1 H1 vs ss) (h : S ss fun d => ∀ v B' H', Gr c B H B' H' → Rp B' v d → Q v H') : toSp G S vs H1 Q E0 :=
  ⟨{ c with B0 := B1, H0 := H1 }, hG _ _, rfl, ⟨g.w.sub, g.w.bag.again⟩, ss, by
    have conv : ∀ {vs : List V} {ss : List Sl}, ArgsOk c B1 H1 vs ss → ArgsOk { c with B0 := B1, H0 := H1 } B1 H1 vs ss := by
      intro vs
      induction vs with
      | nil => intro ss h; cases ss with
        | nil => trivial
        | cons _ _ => exact h
      | cons v vs ih => intro ss h; cases ss with
        | nil => exact h
        | cons s ss => exact ⟨by cases s <;> exact h.1, ih h.2⟩
    exact conv r, F.mono _ _ _ (fun d hd v B' H' g2 r2 => hd v B' H' (g.trans w0 ⟨g2.b, g2.h, g2.n, ⟨g2.w.sub, ⟨g2.w.bag.out, g2.w.bag.here, g2.w.bag.ok⟩⟩⟩) r2) h⟩
theorem v_call {x : Str} {p pos : Pos} {e : Expr} {es : List Expr} {fa : SA} (F : FnG G X.prog X.w X.K X.mg X.base k f fd ps S) (hG : ∀ B1 H1, G { c with B0 := B1, H0 := H1 }) (hgd : X.A.guards = some []) (hr : Room k X.A) (hm : X.mg x = some (.ref f)) (hk : PySem.W.keepIn X.K (.ref f) = true) (hb : Binds X.K fd ps []) (ha : PAd X c (e :: es) fa)
    (hg : Gl X x := by rfl) (hdb : (x == ("__debug__" : Str)) = false := by decide) (he : starEach (e :: es) X.env = (false, eval e X.env) :: starEach es X.env := by rfl) (hpl : (backTo pos (starEach es X.env)).any (·.1) = false := by rfl) :
    PV X c (.Call (.Name x p) (e :: es) [] pos) (fCall S fa) := by
  refine ⟨fun ρ Q Q' k h => ha.mono _ _ _ (fun ss hs => F.mono _ _ _ k hs) h, ⟨fun pins s σ H Q I ⟨B, ρ, ok, h⟩ => wpAny_Call_Name_kw (ld_glob I hg hm (PySem.W.callWith_K (h₀ := X.base) I.ok.mod.kin hk (wpAny_mono (ha.pa.run pos pins s σ H
    (fun vs H1 => ∃ B1 ss, Gr c B H B1 H1 ∧ ArgsOk c B1 H1 vs ss ∧ S ss fun d => ∀ v B' H', Gr c B H B' H' → Rp B' v d → Q v H') I ⟨B, ρ, ok, ha.mono _ _ _ (fun ss hs vs B1 H1 g r => ⟨B1, ss, g, r, hs⟩) h⟩) (fun us s1 hv => ?_) fun _ _ z => z) he hpl) hdb)⟩⟩
  obtain ⟨vs, H1, I1, rv, B1, ss, g, ra, hS⟩ := hv
  have hl : us.length = ps.length := by rw [← rv.length, ra.len]; exact F.len _ _ hS
  refine ⟨I1.kIn, wpAny_call (run_fng F hgd hr I1 ?_ rv (toSp_of hG ok.w g F ra hS))⟩
  have := hb s1 us I1.kIn (by rw [List.append_nil]; exact hl)
  rw [List.append_nil] at this
  exact this
/-- keywords -/
structure PKd (X : Cx) (c : C) (kws : List Keyword) (f : SA) : Prop where
  mono : MonoA f
  pk : PK X kws (toA c f)
  len : ∀ ρ Q, f ρ Q → f ρ fun ss => Q ss ∧ ss.length = kws.length
theorem pk_weak {kws : List Keyword} {t t' : TA} (h : PK X kws t) (w : ∀ σ H Q, t' σ H Q → t σ H Q) : PK X kws t' := ⟨fun pos pins s σ H Q I q => h.run pos pins s σ H Q I (w σ H Q q)⟩
theorem k_nil : PKd X c [] fAN := ⟨fun _ _ _ k h => k _ h, pk_weak pk_nil fun σ H Q ⟨B, ρ, ok, h⟩ => h [] B H (Gr.refl ok.w) trivial, fun _ _ h => ⟨h, rfl⟩⟩
theorem k_cons {nm : Option Str} {kpos : Pos} {e : Expr} {kws : List Keyword} {fa : SE} {fr : SA} (ha : PV X c e fa) (hr : PKd X c kws fr) : PKd X c (⟨nm, e, kpos⟩ :: kws) (fAC fa fr) := by
  refine ⟨fun ρ Q Q' k h => ha.mono _ _ _ (fun d hd => hr.mono _ _ _ (fun ds he => k _ he) hd) h, pk_weak (pk_cons ha.pe hr.pk) fun σ H Q ⟨B, ρ, ok, h⟩ => ?_, fun ρ Q h => ha.mono _ _ _ (fun d hd => hr.mono _ _ _ (fun ss q => ⟨q.1, by rw [List.length_cons, List.length_cons, q.2]⟩) (hr.len _ _ hd)) h⟩
  refine ⟨B, ρ, ok, ha.mono _ _ _ (fun d hd v B1 H1 g1 r1 => ?_) h⟩
  exact ⟨B1, ρ, ok.mono g1, hr.mono _ _ _ (fun ds he vs B2 H2 g2 r2 => he _ B2 H2 (g1.trans ok.w g2) ⟨rp_mono g2.b r1, r2⟩) hd⟩
/-- how n keywords' values come to the parameters: is tells which of them each parameter takes -/
def perm {α : Type} (is : List Nat) (ws : List α) : List α := is.filterMap fun i => ws[i]?
structure KwB (K : PySem.W.Frag) (fd : FuncData) (ps ks : List Str) (is : List Nat) : Prop where
  to : ∀ (s : Shared) (ws : List Value), K.In s.heap → ws.length = ks.length → BindsTo s fd ⟨[], ks.zip ws⟩ (ps.zip (perm is ws))
theorem perm_vals {vs : List V} {us : List Value} (r : Vals vs us) : ∀ is : List Nat, Vals (perm is vs) (perm is us)
  | [] => .nil
  | i :: is => by
    unfold perm
    rw [List.filterMap_cons, List.filterMap_cons]
    cases e : vs[i]? with
    | none =>
      rw [r.none_of e]
      exact perm_vals r is
    | some v =>
      obtain ⟨u, h1, h2⟩ := r.get e
      rw [h1]
      exact .cons h2 (perm_vals r is)
theorem perm_args {B H : Hp} {vs : List V} {ss : List Sl} (r : ArgsOk c B H vs ss) : ∀ is : List Nat, ArgsOk c B H (perm is vs) (perm is ss)
  | [] => trivial
  | i :: is => by
    unfold perm
    rw [List.filterMap_cons, List.filterMap_cons]
    cases e : ss[i]? with
    | none =>
      have : vs[i]? = none := List.getElem?_eq_none_iff.mpr (by rw [r.len]; exact List.getElem?_eq_none_iff.mp e)
      rw [this]
      exact perm_args r is
    | some s =>
      obtain ⟨v, h1, h2⟩ := r.get e
      rw [h1]
      exact ⟨h2, perm_args r is⟩
def fCallK (S : Spec) (is : List Nat) (fa : SA) : SE := fun ρ Q => fa ρ fun ss => S (perm is ss) Q
theorem v_callK {x : Str} {p pos : Pos} {kws : List Keyword} {ks : List Str} {is : List Nat} {fa : SA} (F : FnG G X.prog X.w X.K X.mg X.base k f fd ps S) (hG : ∀ B1 H1, G { c with B0 := B1, H0 := H1 }) (hgd : X.A.guards = some []) (hr : Room k X.A) (hm : X.mg x = some (.ref f)) (hk : PySem.W.keepIn X.K (.ref f) = true) (hb : KwB X.K fd ps ks is) (ha : PKd X c kws fa)
    (hn : kws.length = ks.length := by rfl) (hg : Gl X x := by rfl) (hdb : (x == ("__debug__" : Str)) = false := by decide) (hall : (backToKw pos (keywordEach kws X.env)).all (·.1.isSome) = true := by rfl) (hks : (backToKw pos (keywordEach kws X.env)).filterMap (·.1) = ks := by rfl)
    (hpl : ((backTo pos (starEach [] X.env)).any (·.1) || (backToKw pos (keywordEach kws X.env)).any (·.1.isNone)) = false := by rfl) :
    PV X c (.Call (.Name x p) [] kws pos) (fCallK S is fa) := by
  refine ⟨fun ρ Q Q' k h => ha.mono _ _ _ (fun ss hs => F.mono _ _ _ k hs) h, ⟨fun pins s σ H Q I ⟨B, ρ, ok, h⟩ => wpAny_Call_Name_kw (ld_glob I hg hm (PySem.W.callWith_KW0 (h₀ := X.base) I.ok.mod.kin hk hall (wpAny_mono (ha.pk.run pos pins s σ H
    (fun vs H1 => ∃ B1 ss, Gr c B H B1 H1 ∧ ArgsOk c B1 H1 vs ss ∧ ss.length = kws.length ∧ S (perm is ss) fun d => ∀ v B' H', Gr c B H B' H' → Rp B' v d → Q v H') I ⟨B, ρ, ok, ha.mono _ _ _ (fun ss hs vs B1 H1 g r => ⟨B1, ss, g, r, hs.2, hs.1⟩) (ha.len _ _ h)⟩) (fun us s1 hv => ?_) fun _ _ z => z) hpl) hdb)⟩⟩
  obtain ⟨vs, H1, I1, rv, B1, ss, g, ra, hsl, hS⟩ := hv
  rw [hks]
  exact ⟨I1.kIn, wpAny_call (run_fng F hgd hr I1 (hb.to s1 us I1.kIn (by rw [← rv.length, ra.len, hsl, hn])) (perm_vals rv is) (toSp_of hG ok.w g F (perm_args ra is) hS))⟩
/-! ### repr -/
def bRepr : GB := fun ds Q => match ds with | [d] => PyData.showable d = true ∧ PyData.hasDict d = false ∧ (PyData.shown d).length ≤ sizeLine ∧ PyData.depth d ≤ 60 ∧ Q (.str (PyData.shown d)) | _ => False
theorem m_Repr : MonoB bRepr := fun ds Q Q' k h => by
  unfold bRepr at h ⊢
  split at h <;> first | exact h.elim | exact ⟨h.1, h.2.1, h.2.2.1, h.2.2.2.1, k _ h.2.2.2.2⟩
mutual
theorem rp_reads {pins : List (Addr × Obj)} {σ : St} {H : Hp} {s : Shared} (I : Inv X pins σ H s) : ∀ (d : D) (v : V) (u : Value), d.hasDict = false → Rp H v d → RelV v u → ∃ as, Reads s.heap u d as
  | .none, _, _, _, .non, r => by
    cases r
    exact ⟨_, Reads.none⟩
  | .bool b, _, _, _, .bl _, r => by
    cases r
    exact ⟨_, Reads.bool b⟩
  | .int i, _, _, _, .int _, r => by
    obtain ⟨t, rfl⟩ := r
    exact ⟨_, Reads.int i t⟩
  | .str x, _, _, _, .str _, r => by
    obtain ⟨t, rfl⟩ := r
    exact ⟨_, Reads.str x t⟩
  | .list ds, _, _, hd, .lst h1 h2, r => by
    cases r
    obtain ⟨its, rv, ⟨o, n, ho, hc, _, hdt⟩, _⟩ := I.list (SqL.of h1)
    obtain ⟨as, hr⟩ := rpa_reads I ds _ its (by simpa [PyData.hasDict] using hd) h2 rv
    exact ⟨_, Reads.list ho hc hdt hr⟩
  | .tuple ds, _, _, hd, .tup h1 h2, r => by
    cases r
    obtain ⟨its, rv, ⟨o, ho, hc, n, hdt⟩, _⟩ := I.tuple (SqT.of h1)
    obtain ⟨as, hr⟩ := rpa_reads I ds _ its (by simpa [PyData.hasDict] using hd) h2 rv
    exact ⟨_, Reads.tuple ho hc hdt hr⟩
  | .dict _, _, _, hd, _, _ => by simp [PyData.hasDict] at hd
theorem rpa_reads {pins : List (Addr × Obj)} {σ : St} {H : Hp} {s : Shared} (I : Inv X pins σ H s) : ∀ (ds : List D) (vs : List V) (us : List Value), PyData.hasDictAll ds = false → RpA H vs ds → Vals vs us → ∃ as, ReadsAll s.heap us ds as
  | [], _, _, _, .nil, r => by
    cases r
    exact ⟨_, ReadsAll.nil⟩
  | d :: ds, _, _, hd, .cons h1 h2, r => by
    have hd' := hd
    simp only [PyData.hasDictAll, Bool.or_eq_false_iff] at hd'
    cases r with
    | cons r1 r2 =>
      obtain ⟨as, q1⟩ := rp_reads I d _ _ hd'.1 h1 r1
      obtain ⟨bs, q2⟩ := rpa_reads I ds _ _ hd'.2 h2 r2
      exact ⟨_, ReadsAll.cons q1 q2⟩
end
theorem c_repr (hgd : X.A.guards = some []) (hu : X.A.units + 64 < cLine) : CallD X c (.builtin "repr") bRepr := by
  refine ⟨m_Repr, fun pins s σ H xs us Q I rv ⟨B, ds, w, ra, q⟩ => ?_⟩
  cases ds with
  | nil => exact q.elim
  | cons d r0 =>
  cases r0 with
  | cons _ _ => exact q.elim
  | nil =>
  obtain ⟨q1, q2, q3, q4, q⟩ : PyData.showable d = true ∧ PyData.hasDict d = false ∧ (PyData.shown d).length ≤ sizeLine ∧ PyData.depth d ≤ 60 ∧ ∀ v B' H', Gr c B H B' H' → Rp B' v (.str (PyData.shown d)) → Q v H' := q
  obtain ⟨v, e, r⟩ := ra.one
  subst e
  obtain ⟨u, rfl, ru⟩ := vals1 rv
  have fin : ∀ {h' : Heap} {tk : Tok} {t : Nat}, (∀ b o, s.heap.get? b = some o → h'.get? b = some o) → EP X pins σ Q (.str (PyData.shown d) tk) { s with heap := h', toks := t } := fun {h' tk t} hk => ⟨.str (PyData.shown d), H, I.kept hk, ⟨tk, rfl⟩, q _ B H (Gr.refl w) (.str _)⟩
  have here : ∀ {tk : Tok} {t : Nat}, EP X pins σ Q (.str (PyData.shown d) tk) { s with toks := t } := fun {tk t} => ⟨.str (PyData.shown d), H, I.tok _, ⟨tk, rfl⟩, q _ B H (Gr.refl w) (.str _)⟩
  cases d with
  | dict kvs => simp [PyData.hasDict] at q2
  | list ds =>
    obtain ⟨as, rd⟩ := rp_reads I _ v u q2 (r.rp w) ru
    obtain ⟨a, ys, rfl, _, _⟩ := r.list w
    cases ru
    exact repr_of_reads' rd q1 (PyData.noDict_hsm q2) hgd (by omega) (fun _ _ z => z) (fun h' tk t hk => fin hk) q3
  | tuple ds =>
    obtain ⟨as, rd⟩ := rp_reads I _ v u q2 (r.rp w) ru
    obtain ⟨a, ys, rfl, _, _⟩ := r.tup w
    cases ru
    exact repr_of_reads' rd q1 (PyData.noDict_hsm q2) hgd (by omega) (fun _ _ z => z) (fun h' tk t hk => fin hk) q3
  | int i =>
    have e := r.int
    subst e
    obtain ⟨t, rfl⟩ := ru
    simp only [PyData.shown] at here
    exact PySem.P.repr_of_int (by simpa [PyData.showable] using q1) here
  | none =>
    have e := r.non
    subst e
    cases ru
    simp only [PyData.shown] at here
    exact PySem.P.repr_of_none here
  | bool b =>
    have e := r.bl
    subst e
    cases ru
    simp only [PyData.shown] at here
    exact PySem.P.repr_of_bool here
  | str x =>
    have e := r.str
    subst e
    obtain ⟨t, rfl⟩ := ru
    simp only [PyData.shown] at here q3
    exact PySem.P.repr_of_str here q3
end
end DL
namespace DL
open PySem L2 PyProof.Rows
/-! ### list(reversed(a list)) -/
section
variable {prog : Program} {w : World} {A : Around} {E : Value → Shared → Prop} {s : Shared}
theorem list_rev_call {it l : Addr} {items : Array Value} {Q : Value → Shared → Prop} (hh : A.handled = none) (hit : s.heap.IsRevIter it l ((items.size : Int) - 1)) (hl : s.heap.IsList l items) (hne : l ≠ it) (hn : items.size ≤ sizeLine)
    (hQ : ∀ (h' : Heap) (tk : Nat) (acc : Array Value) (c' : Nat), (∀ b o, b ≠ it → s.heap.get? b = some o → h'.get? b = some o) → h'.get? s.heap.objs.size = some { cls := .type "list", data := .seq acc c' } →
      ItemsOf (fun i v => items[items.size - 1 - i]? = some v) acc items.size → Q (.ref s.heap.objs.size) { s with heap := h', toks := tk }) : wpAny (model prog w) A (call (.type "list") [.ref it]) Q E s := by
  have hil : it < s.heap.objs.size := by
    obtain ⟨oi, hoi, _⟩ := id hit
    exact Heap.lt_size hoi
  have hll : l < s.heap.objs.size := by
    obtain ⟨ol, hol, _⟩ := id hl
    exact Heap.lt_size hol
  have n1 : s.heap.objs.size ≠ it := Nat.ne_of_gt hil
  have n2 : s.heap.objs.size ≠ l := Nat.ne_of_gt hll
  refine callType_codes (Q₁ := fun obj s₁ => obj = .ref s.heap.objs.size ∧ s₁ = { s with heap := s.heap.push { cls := .type "list", data := .seq #[] } }) PySem.F.called_list (PySem.F.typeCall_list_1 _) PySem.F.entry_list_init
    (code_list_new _ ⟨rfl, rfl⟩) ?_
  rintro obj s₁ ⟨rfl, rfl⟩
  have new : (s.heap.push { cls := .type "list", data := .seq #[] }).get? s.heap.objs.size = some { cls := .type "list", data := .seq #[] } := Heap.get?_push_size _ rfl
  refine ⟨⟨_, new, rfl⟩, PySem.F.args_list_init_2 _ _, ?_⟩
  show wpAny _ _ (do let old ← Builtin.List.listItems (.ref s.heap.objs.size); Builtin.List.listUpdate (.ref s.heap.objs.size) (fun _ => #[]); letGo old.toList.reverse; Builtin.List.listExtendWith (.ref s.heap.objs.size) (.ref it) .none) _ _ _
  unfold Builtin.List.listItems
  refine wpAny_bind (wpAny_bind (wpAny_seqItems new rfl (wpAny_pure (wpAny_bind ?_))))
  show wpAny _ _ (updateSeq s.heap.objs.size (fun _ => #[])) _ _ _
  refine wpAny_updateSeq new rfl (wpAny_bind (wpAny_letGo ?_))
  generalize hgen : (s.heap.push { cls := .type "list", data := .seq #[] }).update s.heap.objs.size (Obj.mapSeq fun _ => (#[] : Array Value)) = h1
  have fresh : h1.get? s.heap.objs.size = some (Obj.mapSeq (fun _ => (#[] : Array Value)) { cls := .type "list", data := .seq #[] }) := by
    rw [← hgen]
    exact Heap.get?_update_self (Obj.mapSeq fun _ => (#[] : Array Value)) new rfl
  have stay : ∀ b o, b ≠ s.heap.objs.size → s.heap.get? b = some o → h1.get? b = some o := fun b o hb e => by
    rw [← hgen]
    exact (Heap.get?_update_other _ _ (Ne.symm hb)).trans (Heap.get?_push_of_some _ e)
  have hit1 : h1.IsRevIter it l ((items.size : Int) - 1) := hit.at fun o e => stay _ _ (Ne.symm n1) e
  have hl1 : h1.IsList l items := by
    obtain ⟨o, e, r⟩ := hl
    exact ⟨o, stay _ _ (Ne.symm n2) e, r⟩
  have ty : ({ s with heap := h1 } : Shared).TypeIs (.ref it) "list_reverseiterator" := Heap.IsRevIter.typeIs (s := { s with heap := h1 }) hit1
  have same : Builtin.List.listSameRef (.ref s.heap.objs.size) (.ref it) = false := by simp [Builtin.List.listSameRef, n1]
  unfold Builtin.List.listExtendWith
  refine wpAny_bind (wpAny_typeOf ty ?_)
  rw [if_neg (by rw [same]; decide)]
  refine wpAny_bind (wpAny_pyIter_revIter (s := { s with heap := h1 }) hit1 (wpAny_bind (wpAny_holding ?_)))
  unfold Builtin.List.listLengthHint
  refine wpAny_bind (wpAny_specialOf ty RT.nolen_lri ?_)
  show wpAny _ _ (specialOf (Value.ref it) (Str.ofString "__length_hint__") >>= _) _ _ _
  refine wpAny_bind (wpAny_specialOf ty RT.hint_lri ?_)
  generalize hid : ("list_reverseiterator.__length_hint__" : String) = id0
  wp_delta
  have sp : splitId id0 = some ("list_reverseiterator", "__length_hint__") := by
    subst hid
    decide +kernel
  rw [sp]
  subst hid
  refine wpAny_bind (wpAny_isInstance (b := true) ty (by rw [isSubtype_type]; kernel_rfl) (wpAny_pure ?_))
  rw [if_neg (by decide)]
  have W := (Walks.listRev (prog := prog) (w := w) (A := A.in1.in1) hh it l hne items).toS
  have out : s.heap.objs.size ∉ [it, l] := by
    intro z
    rcases List.mem_cons.mp z with z | z
    · exact n1 z
    · exact n2 (List.mem_singleton.mp z)
  refine wpAny_pure ⟨plainId_quiet F.plain_extend_loop _, codeAny_extend_loopS W hn _ out _ items.size 0 _ _ _ rfl (Nat.zero_le _) ⟨Nat.zero_le _, ?_, hl1⟩ fresh (ItemsOf.nil _) fun s' acc' c' hm hS' hacc => ?_⟩
  · have e0 : ((items.size : Nat) : Int) - 1 - ((0 : Nat) : Int) = (items.size : Int) - 1 := by omega
    rw [e0]
    exact hit1
  · rw [Moved.eq_with hm]
    refine ⟨rfl, hQ s'.heap s'.toks acc' c' (fun b o hb e => ?_) hS' hacc⟩
    have nb : b ≠ s.heap.objs.size := Nat.ne_of_lt (Heap.lt_size e)
    refine hm.heap b o (fun hmem => ?_) (stay b o nb e)
    rcases List.mem_cons.mp hmem with z | z
    · exact nb z
    · exact hb (List.mem_singleton.mp z)
end
end DL
namespace DL
open PySem L2 PyProof.Rows
section
variable {X : Cx} {c : C}
/-- list(reversed(x)), x a list -/
def tListRev (K : PySem.W.Frag) (te : TE) : TE := fun σ H Q => te σ H fun v H1 => ∃ (a : Addr) (xs : List V), v = .ref a ∧ SqL K H1 a xs ∧ ∀ q, H1 q = none → Q (.ref q) (upd H1 q (.lst xs.reverse))
theorem pe_listRev {e : Expr} {te : TE} {p p2 pos pos2 : Pos} (hc : X.calm = true) (hm : X.mg "list" = none) (hm2 : X.mg "reversed" = none) (he : PE X e te) (hg : Gl X "list") (hg2 : Gl X "reversed")
    (hs : starEach [e] X.env = (false, eval e X.env) :: starEach [] X.env) (hs2 : starEach [.Call (.Name "reversed" p2) [e] [] pos2] X.env = (false, eval (.Call (.Name "reversed" p2) [e] [] pos2) X.env) :: starEach [] X.env) :
    PE X (.Call (.Name "list" p) [.Call (.Name "reversed" p2) [e] [] pos2] [] pos) (tListRev X.K te) := by
  refine ⟨fun pins s σ H Q I h => ?_⟩
  have inner : ∀ {R : Value → Shared → Prop}, wpAny (model X.prog X.w) X.A (eval e X.env) (fun u s1 => wpAny (model X.prog X.w) X.A (call (.type "reversed") [u]) R X.xe s1) X.xe s → wpAny (model X.prog X.w) X.A (eval (.Call (.Name "reversed" p2) [e] [] pos2) X.env) R X.xe s := fun hh =>
    Call_ (ld_blt I hg2 hm2 PyProof.Rows.boot_reversed (PyProof.Rows.callWith_type1 (args_cons (thn hh fun u s1 q => args_nil q) hs) hs rfl))
  refine Call_ (ld_blt I hg hm boot_list (PyProof.Rows.callWith_type1 (args_cons (inner (thn (he.run pins s σ H _ I h) fun u s1 hv => ?_)) hs2) hs2 rfl))
  obtain ⟨v, H1, I1, r1, a, xs, ev, hq, q⟩ := hv
  subst ev
  obtain rfl : u = Value.ref a := r1
  obtain ⟨its, rv, p', hz⟩ := I1.list hq
  have hl := p'.isList
  refine call_reversed_list hl (args_nil ?_)
  have I2 : Inv X pins σ H1 { s1 with heap := s1.heap.push (revObj a ((its.toArray.size : Int) - 1)) } := I1.kept (t' := s1.toks) fun _ _ z => Heap.get?_push_of_some _ z
  obtain ⟨f0, f1, f2, f3, f4, f5⟩ := I1.fpOk (H' := H1) (b := s1.heap.objs.size) (Nat.le_refl _) (I1.hok.fresh (Nat.le_refl _))
  have hal : a ≠ s1.heap.objs.size := by
    obtain ⟨ol, hol, _⟩ := id hl
    exact Nat.ne_of_lt (Heap.lt_size hol)
  refine list_rev_call (s := { s1 with heap := s1.heap.push (revObj a ((its.toArray.size : Int) - 1)) }) (I1.ok.hd hc) ⟨_, Heap.get?_push_size _ rfl, rfl, rfl⟩ (hl.push _) hal (by rw [List.size_toArray, ← rv.length]; exact hz) fun h' tk acc c' hk hn hi => ?_
  have I3 : Inv X pins σ H1 { s1 with heap := h', toks := tk } := I2.turned (t' := tk) (fun b o hb z => hk b o hb z) f0 f1 f3 f4 f5
  have fr : H1 (s1.heap.push (revObj a ((its.toArray.size : Int) - 1))).objs.size = none := I2.hok.fresh (Nat.le_refl _)
  have obj : ObjOk X.prog X.w (upd H1 (s1.heap.push (revObj a ((its.toArray.size : Int) - 1))).objs.size (.lst xs.reverse)) h' (s1.heap.push (revObj a ((its.toArray.size : Int) - 1))).objs.size (.lst xs.reverse) :=
    ⟨by rw [List.length_reverse]; exact hz, acc.toList, c', RT.vals_rev rv hi, by rw [Array.toArray_toList]; exact hn⟩
  have I4 : Inv X pins σ (upd H1 (s1.heap.push (revObj a ((its.toArray.size : Int) - 1))).objs.size (.lst xs.reverse)) { s1 with heap := h', toks := tk } := by
    refine I2.turnedNew (ch := [s1.heap.objs.size]) (fun b ob hb z => hk b ob (fun y => hb (by simp [y])) z) (fun b hb => ?_) (Nat.le_refl _) obj
    rw [List.mem_singleton.mp hb]
    exact ⟨f0, f1, f2, f3, f4, f5⟩
  exact ⟨.ref (s1.heap.push (revObj a ((its.toArray.size : Int) - 1))).objs.size, _, I4, rfl, q _ fr⟩
def fLRev (fa : SE) : SL := fun ρ Q => fa ρ fun d => match d with | .list ds => Q ds.reverse | _ => False
def fTRev (fa : SE) : SE := fun ρ Q => fa ρ fun d => match d with | .list ds => Q (.tuple ds.reverse) | _ => False
theorem n_listRev {e : Expr} {fa : SE} {p p2 pos pos2 : Pos} (hc : X.calm = true) (hm : X.mg "list" = none) (hm2 : X.mg "reversed" = none) (ha : PB X c e fa) (hg : Gl X "list" := by rfl) (hg2 : Gl X "reversed" := by rfl)
    (hs : starEach [e] X.env = (false, eval e X.env) :: starEach [] X.env := by rfl) (hs2 : starEach [.Call (.Name "reversed" p2) [e] [] pos2] X.env = (false, eval (.Call (.Name "reversed" p2) [e] [] pos2) X.env) :: starEach [] X.env := by rfl) :
    PN X c (.Call (.Name "list" p) [.Call (.Name "reversed" p2) [e] [] pos2] [] pos) (fLRev fa) := by
  refine ⟨fun ρ Q Q' k h => ha.mono _ _ _ (fun d hd => ?_) h, pe_weak (pe_listRev hc hm hm2 ha.pe hg hg2 hs hs2) fun σ H Q ⟨B, ρ, ok, h⟩ => ⟨B, ρ, ok, ha.mono _ _ _ (fun d hd v B1 H1 g1 r1 => ?_) h⟩⟩
  · cases d <;> first | exact hd.elim | exact k _ hd
  · cases d <;> first | exact hd.elim | skip
    obtain ⟨a, xs, rfl, h1, h2⟩ := r1.list g1.w
    refine ⟨a, xs, rfl, SqL.of h1, fun l hl => ?_⟩
    have g2 := Gr.newO (o := .lst xs.reverse) g1.w hl
    exact hd l _ B1 _ (g1.trans ok.w g2) (g1.back hl) (Evl.fresh_back g1.w.sub hl) upd_same (rpa_rev h2)
theorem v_tupRev {e : Expr} {fa : SE} {p p2 pos pos2 : Pos} (hc : X.calm = true) (hm : X.mg "tuple" = none) (hm2 : X.mg "reversed" = none) (ha : PB X c e fa) (hg : Gl X "tuple" := by rfl) (hg2 : Gl X "reversed" := by rfl)
    (hs : starEach [e] X.env = (false, eval e X.env) :: starEach [] X.env := by rfl) (hs2 : starEach [.Call (.Name "reversed" p2) [e] [] pos2] X.env = (false, eval (.Call (.Name "reversed" p2) [e] [] pos2) X.env) :: starEach [] X.env := by rfl) :
    PV X c (.Call (.Name "tuple" p) [.Call (.Name "reversed" p2) [e] [] pos2] [] pos) (fTRev fa) := by
  refine ⟨fun ρ Q Q' k h => ha.mono _ _ _ (fun d hd => ?_) h, pe_weak (RT.pe_tupRev hc hg hm hg2 hm2 ha.pe hs hs2) fun σ H Q ⟨B, ρ, ok, h⟩ => ⟨B, ρ, ok, ha.mono _ _ _ (fun d hd v B1 H1 g1 r1 => ?_) h⟩⟩
  · cases d <;> first | exact hd.elim | exact k _ hd
  · cases d <;> first | exact hd.elim | skip
    obtain ⟨a, xs, rfl, h1, h2⟩ := r1.list g1.w
    refine ⟨a, xs, rfl, SqL.of h1, fun l hl => ?_⟩
    have g2 := Gr.new (o := .tup xs.reverse) g1.w hl
    exact hd _ _ _ (g1.trans ok.w g2) (.tup upd_same (rpa_mono g2.b (rpa_rev h2)))
/-- list(range(..)) -/
theorem rng_rgV {B : Hp} (a b : Int) : RpA B (rgV a b) (rng a (b - a).toNat) := by
  unfold rgV rng
  generalize List.range (b - a).toNat = l
  induction l with
  | nil => exact .nil
  | cons i l ih => exact .cons (.int _) ih
def fLRng1 (fa : SE) : SL := fun ρ Q => fa ρ fun d => match d with | .int j => RgOk 0 j ∧ Q (rng 0 (j - 0).toNat) | _ => False
def fLRng2 (fa fb : SE) : SL := fun ρ Q => fa ρ fun d => fb ρ fun e => match d, e with | .int i, .int j => RgOk i j ∧ Q (rng i (j - i).toNat) | _, _ => False
theorem n_lrng1 {a : Expr} {fa : SE} {p p2 pos pos2 : Pos} (hc : X.calm = true) (hm : X.mg "list" = none) (hm2 : X.mg "range" = none) (ha : PB X c a fa) (hg : Gl X "list" := by rfl) (hg2 : Gl X "range" := by rfl)
    (na : starEach [a] X.env = (false, eval a X.env) :: starEach [] X.env := by rfl) (na2 : starEach [.Call (.Name "range" p2) [a] [] pos2] X.env = (false, eval (.Call (.Name "range" p2) [a] [] pos2) X.env) :: starEach [] X.env := by rfl) :
    PN X c (.Call (.Name "list" p) [.Call (.Name "range" p2) [a] [] pos2] [] pos) (fLRng1 fa) := by
  refine ⟨fun ρ Q Q' k h => ha.mono _ _ _ (fun d hd => ?_) h, pe_weak (pe_listRg hc hg hm (prg_1 hg2 hm2 ha.pe na) na2) fun σ H Q ⟨B, ρ, ok, h⟩ => ⟨B, ρ, ok, ha.mono _ _ _ (fun d hd v B1 H1 g1 r1 => ?_) h⟩⟩
  · cases d <;> first | exact hd.elim | exact ⟨hd.1, k _ hd.2⟩
  · cases d <;> first | exact hd.elim | skip
    rename_i j
    rw [r1.int]
    refine ⟨j, rfl, hd.1, fun l hl => ?_⟩
    have g2 := Gr.newO (o := .lst (rgV 0 j)) g1.w hl
    exact hd.2 l _ B1 _ (g1.trans ok.w g2) (g1.back hl) (Evl.fresh_back g1.w.sub hl) upd_same (rng_rgV _ _)
theorem n_lrng2 {a b : Expr} {fa fb : SE} {p p2 pos pos2 : Pos} (hc : X.calm = true) (hm : X.mg "list" = none) (hm2 : X.mg "range" = none) (ha : PB X c a fa) (hb : PB X c b fb) (hg : Gl X "list" := by rfl) (hg2 : Gl X "range" := by rfl)
    (na : starEach [a, b] X.env = (false, eval a X.env) :: starEach [b] X.env := by rfl) (nb : starEach [b] X.env = (false, eval b X.env) :: starEach [] X.env := by rfl)
    (hp : (backTo pos2 (starEach [b] X.env)).any (·.1) = false := by rfl) (na2 : starEach [.Call (.Name "range" p2) [a, b] [] pos2] X.env = (false, eval (.Call (.Name "range" p2) [a, b] [] pos2) X.env) :: starEach [] X.env := by rfl) :
    PN X c (.Call (.Name "list" p) [.Call (.Name "range" p2) [a, b] [] pos2] [] pos) (fLRng2 fa fb) := by
  refine ⟨fun ρ Q Q' k h => ha.mono _ _ _ (fun d hd => hb.mono _ _ _ (fun e he => ?_) hd) h, pe_weak (pe_listRg hc hg hm (prg_2 hg2 hm2 ha.pe hb.pe na nb hp) na2) fun σ H Q ⟨B, ρ, ok, h⟩ =>
    ⟨B, ρ, ok, ha.mono _ _ _ (fun d hd v B1 H1 g1 r1 => ⟨B1, ρ, ok.mono g1, hb.mono _ _ _ (fun e he u B2 H2 g2 r2 => ?_) hd⟩) h⟩⟩
  · cases d <;> cases e <;> first | exact he.elim | exact ⟨he.1, k _ he.2⟩
  · cases d <;> cases e <;> first | exact he.elim | skip
    rename_i i j
    rw [r1.int, r2.int]
    refine ⟨i, j, rfl, rfl, he.1, fun l hl => ?_⟩
    have g3 := Gr.newO (o := .lst (rgV i j)) g2.w hl
    exact he.2 l _ B2 _ ((g1.trans ok.w g2).trans ok.w g3) ((g1.trans ok.w g2).back hl) (Evl.fresh_back g2.w.sub hl) upd_same (rng_rgV _ _)
/-- x.bit_length() -/
def fBits (fa : SE) : SE := fun ρ Q => fa ρ fun d => match d with | .int i => Q (.int (Builtin.Int.intBits i : Nat)) | _ => False
theorem v_bits {o : Expr} {fa : SE} {apos pos : Pos} (ha : PB X c o fa) (hbase : attributeBase o "bit_length" X.env (eval o X.env) = eval o X.env := by rfl) (hline : (apos.endLine == pos.line) = true := by rfl) : PV X c (.Call (.Attribute o "bit_length" apos) [] [] pos) (fBits fa) := by
  refine ⟨fun ρ Q Q' k h => ha.mono _ _ _ (fun d hd => ?_) h, pe_weak (pe_bits ha.pe hbase hline) fun σ H Q ⟨B, ρ, ok, h⟩ => ⟨B, ρ, ok, ha.mono _ _ _ (fun d hd v B1 H1 g1 r1 => ?_) h⟩⟩
  · cases d <;> first | exact hd.elim | exact k _ hd
  · cases d <;> first | exact hd.elim | skip
    exact ⟨_, r1.int, hd _ B1 H1 g1 (.int _)⟩
/-- 1 << k of any size -/
def gShlW : G2 | .int i, .int j, Q => CShl i j ∧ Q (.int (i * 2 ^ j.toNat)) | _, _, _ => False
theorem m_ShlW : MonoG gShlW := fun d e Q Q' k h => by cases d <;> cases e <;> first | exact ⟨h.1, k _ h.2⟩ | exact h.elim
theorem o_shlW : OpD X c (binaryOp .LShift) gShlW := opd_int op_shlW (fun d e Q h => by cases d <;> cases e <;> first | exact ⟨_, _, rfl, rfl, h.1, h.2⟩ | exact h.elim) m_ShlW
/-! ### a tuple or a list unpacked -/
theorem PG.or {tg : Expr} {t t' : TG} (h : PG X tg t) (h' : PG X tg t') : PG X tg fun v σ H Q => t v σ H Q ∨ t' v σ H Q := ⟨fun pins s σ H v u Q I r q => q.elim (h.run pins s σ H v u Q I r) (h'.run pins s σ H v u Q I r)⟩
def gSq (n : Nat) (gs : GTs) : GT := fun d ρ Q => match seqOf d with | some ds => ds.length = n ∧ gs ds ρ Q | none => False
theorem g_sq {es : List Expr} {k : Nat} {gs : GTs} {ks : List Nat} {pos : Pos} (hc : X.calm = true) (h : PGsd X c es gs ks) {n : Nat} (hn : (assignEach es X.env).length = n := by rfl) (hst : (assignEach es X.env).findIdx? (·.1) = none := by rfl) :
    PGd X c (.Tuple es k pos) (gSq n gs) ks := by
  refine ⟨fun d ρ Q Q' k h' => ?_, pg_weak (PG.or (pg_tup hc h.pg hn hst) (pg_unl hc h.pg hn hst)) fun v σ H Q ⟨B, ρ, d, ok, r, h'⟩ => ?_⟩
  · unfold gSq at h' ⊢
    split at h' <;> first | exact h'.elim | exact ⟨h'.1, h.mono _ _ _ _ k h'.2⟩
  · unfold gSq at h'
    cases d <;> simp only [seqOf] at h' <;> first | exact h'.elim | skip
    · obtain ⟨a, xs, rfl, h1, h2⟩ := rp_lst r
      exact .inr ⟨a, xs, rfl, SqL.of (ok.w.sub _ _ h1), by rw [rpa_len h2]; exact h'.1, B, ρ, _, ok, h2, h'.2⟩
    · obtain ⟨a, xs, rfl, h1, h2⟩ := rp_tup r
      exact .inl ⟨a, xs, rfl, SqT.of (ok.w.sub _ _ h1), by rw [rpa_len h2]; exact h'.1, B, ρ, _, ok, h2, h'.2⟩
/-! ### enumerate(list), zip -/
variable {elts : List Expr} {kk : Nat} {tpos : Pos}
def enumD : Nat → List D → List D
  | _, [] => []
  | k, d :: ds => .tuple [.int (k : Nat), d] :: enumD (k + 1) ds
theorem enumD_len : ∀ (k : Nat) (ds : List D), (enumD k ds).length = ds.length
  | _, [] => rfl
  | k, _ :: ds => by simp only [enumD, List.length_cons, enumD_len (k + 1) ds]
theorem enumD_get : ∀ {k : Nat} {ds : List D} {i : Nat} {d : D}, (enumD k ds)[i]? = some d → ∃ e, ds[i]? = some e ∧ d = .tuple [.int ((k + i : Nat) : Int), e]
  | _, [], _, _, h => by simp [enumD] at h
  | k, e :: ds, 0, d, h => by
    simp [enumD] at h
    exact ⟨e, rfl, h.symm⟩
  | k, e :: ds, i + 1, d, h => by
    simp only [enumD, List.getElem?_cons_succ] at h
    obtain ⟨x, h1, h2⟩ := enumD_get h
    refine ⟨x, by simpa using h1, ?_⟩
    rw [h2]
    have e : k + 1 + i = k + (i + 1) := by omega
    rw [e]
def fEnum (fa : SE) : SI := fun ρ Q => fa ρ fun d => match d with | .list ds => Q (enumD 0 ds) | _ => False
theorem i_enum {e : Expr} {fa : SE} {p pos : Pos} (hm : X.mg "enumerate" = none) (ha : PV X c e fa) (hg : Gl X "enumerate" := by rfl) (hs : starEach [e] X.env = [(false, eval e X.env)] := by rfl) : PItd X c (.Tuple elts kk tpos) (.Call (.Name "enumerate" p) [e] [] pos) (fEnum fa) := by
  refine ⟨fun ρ Q Q' k h => ha.mono _ _ _ (fun d hd => ?_) h, pi_weak (pi_enum hg hm (pa_cons ha.pe pa_nil (by rw [hs]; rfl)) hs) fun σ H R ⟨B, ρ, ok, h⟩ => ⟨B, ρ, ok, ha.mono _ _ _ (fun d hd v B' H' g r => ?_) h⟩⟩
  · cases d <;> first | exact hd.elim | exact k _ hd
  · cases d <;> first | exact hd.elim | skip
    rename_i ds
    obtain ⟨a, xs, rfl, h1, h2⟩ := rp_lst r
    refine ⟨a, xs, rfl, SqL.of (g.w.sub _ _ h1), hd _ B' H' g fun i B1 H1 e1 w => ?_⟩
    have h3 : H1 a = some (.lst xs) := w.sub _ _ (e1 _ _ h1)
    refine ⟨fun hi => ⟨xs, SqL.of h3, by rw [rpa_len h2]; rw [enumD_len] at hi; exact hi⟩, fun d hd' => ?_⟩
    obtain ⟨x, h4, h5⟩ := enumD_get hd'
    obtain ⟨y, h6, h7⟩ := rpa_get h2 h4
    refine ⟨⟨xs, y, SqL.of h3, h6⟩, fun z H2 ⟨T, u, e2, hT, e3, hy⟩ => ?_⟩
    subst e2 e3 h5
    have hu := hy xs (SqL.of h3)
    rw [h6] at hu
    cases hu
    have g4 := Gr.new (o := .tup [.int (i : Nat), y]) w hT
    refine ⟨_, g4, .tup upd_same (.cons ?_ (.cons (rp_mono g4.b (rp_mono e1 h7)) .nil))⟩
    rw [Nat.zero_add]
    exact .int _
def zipD : List D → List D → List D
  | a :: as, b :: bs => .tuple [a, b] :: zipD as bs
  | _, _ => []
theorem zipD_get : ∀ {as bs : List D} {i : Nat} {d : D}, (zipD as bs)[i]? = some d → ∃ a b, as[i]? = some a ∧ bs[i]? = some b ∧ d = .tuple [a, b]
  | a :: as, b :: bs, 0, d, h => by
    simp [zipD] at h
    exact ⟨a, b, rfl, rfl, h.symm⟩
  | a :: as, b :: bs, i + 1, d, h => by
    simp only [zipD, List.getElem?_cons_succ] at h
    obtain ⟨x, y, h1, h2, h3⟩ := zipD_get h
    exact ⟨x, y, by simpa using h1, by simpa using h2, h3⟩
  | [], _, _, _, h => by simp [zipD] at h
  | _ :: _, [], _, _, h => by simp [zipD] at h
theorem zipD_len : ∀ (as bs : List D), (zipD as bs).length = min as.length bs.length
  | a :: as, b :: bs => by simp only [zipD, List.length_cons, zipD_len as bs]; omega
  | [], bs => by simp [zipD]
  | _ :: _, [] => by simp [zipD]
def fZip (fa fb : SE) : SI := fun ρ Q => fa ρ fun d => fb ρ fun e => match d, e with | .list as, .list bs => Q (zipD as bs) | .tuple as, .tuple bs => Q (zipD as bs) | _, _ => False
theorem i_zip {e e2 : Expr} {fa fb : SE} {p pos : Pos} (hm : X.mg "zip" = none) (ha : PV X c e fa) (hb : PV X c e2 fb) (hg : Gl X "zip" := by rfl) (hs : starEach [e, e2] X.env = (false, eval e X.env) :: starEach [e2] X.env := by rfl) (hs2 : starEach [e2] X.env = (false, eval e2 X.env) :: starEach [] X.env := by rfl)
    (hpl : (backTo pos (starEach [e2] X.env)).any (·.1) = false := by rfl) : PItd X c (.Tuple elts kk tpos) (.Call (.Name "zip" p) [e, e2] [] pos) (fZip fa fb) := by
  refine ⟨fun ρ Q Q' k h => ha.mono _ _ _ (fun d hd => hb.mono _ _ _ (fun e he => ?_) hd) h, pi_weak (RZ.pi_zipA hg hm (pa_cons ha.pe (pa_cons hb.pe pa_nil hs2) hs) hs hpl) fun σ H R ⟨B, ρ, ok, h⟩ =>
    ⟨B, ρ, ok, ha.mono _ _ _ (fun d hd v B' H' g r => ⟨B', ρ, ok.mono g, hb.mono _ _ _ (fun e he u B2 H2 g2 r2 => ?_) hd⟩) h⟩⟩
  · cases d <;> cases e <;> first | exact he.elim | exact k _ he
  · have r' := rp_mono g2.b r
    have gg := g.trans ok.w g2
    cases d <;> cases e <;> first | exact he.elim | skip
    · obtain ⟨a, xs, rfl, h1, h2⟩ := rp_lst r'
      obtain ⟨b, ys, rfl, h3, h4⟩ := rp_lst r2
      refine ⟨a, b, xs, ys, rfl, .inl ⟨SqL.of (g2.w.sub _ _ h1), SqL.of (g2.w.sub _ _ h3), he _ B2 H2 gg fun i B1 H1 e1 w => ?_⟩⟩
      have k1 : H1 a = some (.lst xs) := w.sub _ _ (e1 _ _ h1)
      have k2 : H1 b = some (.lst ys) := w.sub _ _ (e1 _ _ h3)
      refine ⟨fun hi => ⟨xs, ys, SqL.of k1, SqL.of k2, by rw [rpa_len h2, rpa_len h4]; rw [zipD_len] at hi; omega⟩, fun d hd' => ?_⟩
      obtain ⟨p, q, m1, m2, m3⟩ := zipD_get hd'
      obtain ⟨x, n1, n2⟩ := rpa_get h2 m1
      obtain ⟨y, n3, n4⟩ := rpa_get h4 m2
      refine ⟨⟨xs, ys, x, y, SqL.of k1, SqL.of k2, n1, n3⟩, fun z H3 ⟨T, x', y', e2, hT, e3, hx, hy⟩ => ?_⟩
      subst e2 e3 m3
      have hx := hx xs (SqL.of k1)
      have hy := hy ys (SqL.of k2)
      rw [n1] at hx
      rw [n3] at hy
      cases hx
      cases hy
      have g4 := Gr.new (o := .tup [x, y]) w hT
      exact ⟨_, g4, .tup upd_same (.cons (rp_mono g4.b (rp_mono e1 n2)) (.cons (rp_mono g4.b (rp_mono e1 n4)) .nil))⟩
    · obtain ⟨a, xs, rfl, h1, h2⟩ := rp_tup r'
      obtain ⟨b, ys, rfl, h3, h4⟩ := rp_tup r2
      refine ⟨a, b, xs, ys, rfl, .inr ⟨SqT.of (g2.w.sub _ _ h1), SqT.of (g2.w.sub _ _ h3), he _ B2 H2 gg fun i B1 H1 e1 w => ?_⟩⟩
      have k1 : H1 a = some (.tup xs) := w.sub _ _ (e1 _ _ h1)
      have k2 : H1 b = some (.tup ys) := w.sub _ _ (e1 _ _ h3)
      refine ⟨fun hi => ⟨xs, ys, SqT.of k1, SqT.of k2, by rw [rpa_len h2, rpa_len h4]; rw [zipD_len] at hi; omega⟩, fun d hd' => ?_⟩
      obtain ⟨p, q, m1, m2, m3⟩ := zipD_get hd'
      obtain ⟨x, n1, n2⟩ := rpa_get h2 m1
      obtain ⟨y, n3, n4⟩ := rpa_get h4 m2
      refine ⟨⟨xs, ys, x, y, SqT.of k1, SqT.of k2, n1, n3⟩, fun z H3 ⟨T, x', y', e2, hT, e3, hx, hy⟩ => ?_⟩
      subst e2 e3 m3
      have hx := hx xs (SqT.of k1)
      have hy := hy ys (SqT.of k2)
      rw [n1] at hx
      rw [n3] at hy
      cases hx
      cases hy
      have g4 := Gr.new (o := .tup [x, y]) w hT
      exact ⟨_, g4, .tup upd_same (.cons (rp_mono g4.b (rp_mono e1 n2)) (.cons (rp_mono g4.b (rp_mono e1 n4)) .nil))⟩
end
end DL
namespace DL
open PySem L2 PyProof.Rows
/-! ### bags: none; a list of a list of ints and two ints -/
def noBag (a : Addr) : Bg := ⟨a, fun _ => False, fun _ => True, fun _ _ _ _ => trivial⟩
/-- the bag's words -/
structure BagW (pb pc : Addr) (H : Hp) (cs : List Int) (d m : Int) : Prop where
  ne : pb ≠ pc
  b : H pb = some (.lst [.ref pc, .int d, .int m])
  c : H pc = some (.lst (cs.map V.int))
  cs0 : ∀ x ∈ cs, 0 ≤ x
  d0 : 0 ≤ d
  m0 : 0 ≤ m
  m1 : m < 2147483647
def lstBag (pb pc : Addr) : Bg where
  pb := pb
  mem := fun a => a = pb ∨ a = pc
  ok := fun H => ∃ cs d m, BagW pb pc H cs d m
  loc := fun H H' k ⟨cs, d, m, w⟩ => ⟨cs, d, m, w.ne, by rw [k pb (.inl rfl)]; exact w.b, by rw [k pc (.inr rfl)]; exact w.c, w.cs0, w.d0, w.m0, w.m1⟩
def IsLst (c : C) : Prop := ∃ pb pc, c.toBg = lstBag pb pc
theorem IsLst.up {c : C} (h : IsLst c) : ∀ B1 H1, IsLst { c with B0 := B1, H0 := H1 } := fun _ _ => h
/-- the bag's own objects changed -/
theorem Gr.bag {c : C} {B H H' : Hp} (w : Wd c B H) (k : ∀ a, ¬ c.isBag a → H' a = H a) (h : ∀ a, c.isBag a → H' a ≠ none) (ok : c.ok H') : Gr c B H B H' := by
  refine ⟨Evl.Ex.refl B, fun a o n e => by rw [k a n]; exact e, fun _ _ => rfl, fun a o e => ?_, w.bag.out, h, ok⟩
  rw [k a (w.nb e)]; exact w.sub a o e
/-! ### ints read without a change -/
abbrev RI := St → Hp → Int → Prop
structure PI (X : Cx) (e : Expr) (f : RI) : Prop where
  pe : PE X e (fun σ H Q => ∃ i, f σ H i ∧ Q (.int i) H)
section
variable {X : Cx}
theorem PI.of {e : Expr} {f : RI} {t : TE} (h : PE X e t) (w : ∀ σ H Q i, f σ H i → Q (.int i) H → t σ H Q) : PI X e f := ⟨pe_weak h fun σ H Q ⟨i, h1, h2⟩ => w σ H Q i h1 h2⟩
theorem pi_nm (i : Nat) {x : Str} {pos : Pos} (hN : X.N[i]? = some x := by rfl) (hv : Vis X.env.scope x := by first | exact Or.inl rfl | exact Or.inr (Or.inl rfl) | exact Or.inr (Or.inr rfl))
    (hd : (x == ("__debug__" : Str)) = false := by decide) (hcd : (x == ("__classdict__" : Str)) = false := by decide) : PI X (.Name x pos) (fun σ _ j => σ[i]? = some (some (.int j))) :=
  .of (pe_var hN hv hd hcd) fun σ H Q j h q => ⟨_, h, q⟩
theorem pi_c {i : Int} {j : Nat} {pos : Pos} : PI X (.Constant (.int i) j pos) (fun _ _ k => k = i) := .of pe_int fun σ H Q k h q => by
  subst h; exact q
theorem pi_bin {op : Operator} {C : Int → Int → Prop} {g : Int → Int → Int} {a b : Expr} {fa fb : RI} {pos : Pos} (ho : OpR X (binaryOp op) (rI C fun i j => .int (g i j))) (ha : PI X a fa) (hb : PI X b fb) :
    PI X (.BinOp a op b pos) (fun σ H k => ∃ i j, fa σ H i ∧ fb σ H j ∧ C i j ∧ k = g i j) :=
  .of (pe_op ho ha.pe hb.pe) fun σ H Q k ⟨i, j, h1, h2, h3, h4⟩ q => ⟨i, h1, j, h2, i, j, rfl, rfl, h3, by rw [h4] at q; exact q⟩
theorem iop_add : OpR X (binaryOp .Add) (rI (fun _ _ => True) fun i j => .int (i + j)) := rI0_I op_add
theorem pi_int {e : Expr} {f : RI} {p pos : Pos} (hm : X.mg "int" = none) (he : PI X e f) (hg : Gl X "int" := by rfl) (hs : starEach [e] X.env = (false, eval e X.env) :: starEach [] X.env := by rfl) (hpl : (backTo pos (starEach [] X.env)).any (·.1) = false := by rfl) :
    PI X (.Call (.Name "int" p) [e] [] pos) f :=
  .of (pe_callTy call_int1 hg hm (by decide +kernel) (pa_cons he.pe pa_nil hs) (by decide) (by decide) hs hpl) fun σ H Q k h q => ⟨k, h, .inl ⟨k, rfl, q⟩⟩
/-- bag[k], k ≥ 1 -/
theorem pi_bag (i : Nat) {x : Str} {k : Int} {jj : Nat} {p1 p2 pos : Pos} (hN : X.N[i]? = some x := by rfl) (hv : Vis X.env.scope x := by first | exact Or.inl rfl | exact Or.inr (Or.inl rfl) | exact Or.inr (Or.inr rfl))
    (hd : (x == ("__debug__" : Str)) = false := by decide) (hcd : (x == ("__classdict__" : Str)) = false := by decide) :
    PI X (.Subscript (.Name x p1) (.Constant (.int k) jj p2) pos) (fun σ H j => ∃ p xs, σ[i]? = some (some (.ref p)) ∧ H p = some (.lst xs) ∧ atI xs k = some (.int j)) :=
  .of (pe_ix ix_seq (pe_var hN hv hd hcd) pe_int (fun _ _ => rfl)) fun σ H Q j ⟨p, xs, h1, h2, h3⟩ q => ⟨_, h1, .inl ⟨p, xs, k, .int j, rfl, rfl, SqL.of h2, h3, q⟩⟩
/-- a test of two ints -/
theorem pt_i {op : CmpOp} {g : Int → Int → Bool} {a b : Expr} {fa fb : RI} {pos : Pos} (ho : OpR X (compareOp op) (rI0 fun i j => .bl (g i j))) (ha : PI X a fa) (hb : PI X b fb) (hm : behindInMarks op b = false := by first | exact nomark _ | rfl) :
    PT X (.Compare a [op] [b] pos) (fun σ H Q => ∃ i j, fa σ H i ∧ fb σ H j ∧ Q (g i j) H) := by
  refine pt_weak (pt_cmpR ho ha.pe hb.pe hm) fun σ H Q ⟨i, j, h1, h2, h3⟩ => ?_
  exact ⟨i, h1, j, h2, i, j, rfl, rfl, _, rfl, h3⟩
theorem iop_eq : OpR X (compareOp .Eq) (rI0 fun i j => .bl (decide (i = j))) := opr_weak op_eq fun x y H Q ⟨i, j, e1, e2, q⟩ => by
  subst e1 e2
  refine ⟨rfl, ?_⟩
  have e : decide (V.int i = V.int j) = decide (i = j) := by simp
  rw [e]; exact q
/-- bag[0], a list of ints, is not [] -/
theorem shaped_ints : ∀ cs : List Int, SeqAt.shaped (.list (cs.map PyData.int)) = true := by
  intro cs
  have h1 : ∀ cs : List Int, PyData.canLayAll0 (cs.map PyData.int) = true := fun cs => by
    induction cs with
    | nil => rfl
    | cons c cs ih => simp [PyData.canLayAll0, PyData.canLay0, ih]
  have h2 : ∀ cs : List Int, PyData.depthAll (cs.map PyData.int) ≤ 1 := fun cs => by
    induction cs with
    | nil => simp [PyData.depthAll]
    | cons c cs ih => simp [PyData.depthAll, PyData.depth, ih]
  have := h2 cs
  have e : (PyData.list (cs.map PyData.int)).depth ≤ 64 := by
    simp only [PyData.depth]
    omega
  unfold SeqAt.shaped
  rw [decide_eq_true e]
  simp only [PyData.canLay0, h1, Bool.and_self]
theorem dp_ints {K : PySem.W.Frag} {H : Hp} {p : Addr} {cs : List Int} (h : H p = some (.lst (cs.map V.int))) : Dp K H (.ref p) (.list (cs.map PyData.int)) :=
  rp_dp (B := H) (.lst h (rpa_of_ints cs)) (SeqAt.canLay_of_shaped (shaped_ints cs))
theorem eqv_nil (cs : List Int) : (!PyData.eqv (.list (cs.map PyData.int)) (.list [])) = !cs.isEmpty := by
  cases cs <;> simp [PyData.eqv, PyData.eqvAll]
theorem pt_full (i : Nat) {x : Str} {j0 : Nat} {p1 p2 p3 p4 pos : Pos} (hu : X.A.units + 64 < cLine) (hN : X.N[i]? = some x := by rfl) (hv : Vis X.env.scope x := by first | exact Or.inl rfl | exact Or.inr (Or.inl rfl) | exact Or.inr (Or.inr rfl))
    (hd : (x == ("__debug__" : Str)) = false := by decide) (hcd : (x == ("__classdict__" : Str)) = false := by decide) :
    PT X (.Compare (.Subscript (.Name x p1) (.Constant (.int 0) j0 p2) p3) [.NotEq] [.List [] p4] pos)
      (fun σ H Q => ∃ p xs q, ∃ cs : List Int, σ[i]? = some (some (.ref p)) ∧ H p = some (.lst xs) ∧ atI xs 0 = some (.ref q) ∧ H q = some (.lst (cs.map V.int)) ∧ ∀ H', (∀ a, H a ≠ none → H' a = H a) → Q (!cs.isEmpty) H') := by
  refine pt_weak (pt_cmpR (op_neD hu) (pe_ix ix_seq (pe_var hN hv hd hcd) pe_int (fun _ _ => rfl)) (pe_lst pa_nil) (by rfl)) fun σ H Q ⟨p, xs, q, cs, h1, h2, h3, h4, k⟩ => ?_
  refine ⟨_, h1, .inl ⟨p, xs, 0, .ref q, rfl, rfl, SqL.of h2, h3, ?_⟩⟩
  refine ⟨by decide, fun l hl => ?_⟩
  have nq : q ≠ l := ne_of_none h4 hl
  refine ⟨_, _, dp_ints (cs := cs) (by rw [upd_ne nq]; exact h4), dp_ints (cs := []) upd_same, shaped_ints cs, shaped_ints [], _, rfl, ?_⟩
  rw [show (List.map PyData.int ([] : List Int)) = [] from rfl, eqv_nil]
  exact k _ fun a ha => upd_ne fun z => ha (by rw [z]; exact hl)
/-- bag[k] = e -/
theorem ps_bag (i : Nat) {x : Str} {e : Expr} {f : RI} {k : Int} {j0 : Nat} {p1 p2 p3 pos : Pos} (he : PI X e f) (hN : X.N[i]? = some x := by rfl) (hv : Vis X.env.scope x := by first | exact Or.inl rfl | exact Or.inr (Or.inl rfl) | exact Or.inr (Or.inr rfl))
    (hd : (x == ("__debug__" : Str)) = false := by decide) (hcd : (x == ("__classdict__" : Str)) = false := by decide)
    (ha : ∀ v, assign (.Subscript (.Name x p1) (.Constant (.int k) j0 p2) p3) X.env v = (do
      let ov ← holding [v] (eval (.Name x p1) X.env)
      let iv ← holding [v, ov] (eval (.Constant (.int k) j0 p2) X.env)
      standAt p3
      holding [v, ov, iv] (setItem ov iv v)
      release [v, ov, iv] []) := by intro _; rfl)
    (hs : swapsWithSole [.Subscript (.Name x p1) (.Constant (.int k) j0 p2) p3] e pos.line X.env = pure false := by rfl) (hw : swappedStores [.Subscript (.Name x p1) (.Constant (.int k) j0 p2) p3] e X.env = pure none := by rfl)
    (h1 : (assignEach [.Subscript (.Name x p1) (.Constant (.int k) j0 p2) p3] X.env).map (·.2) = [assign (.Subscript (.Name x p1) (.Constant (.int k) j0 p2) p3) X.env] := by rfl) :
    PS X (.Assign [.Subscript (.Name x p1) (.Constant (.int k) j0 p2) p3] e pos) (fun D σ H => ∃ v p xs j, f σ H v ∧ σ[i]? = some (some (.ref p)) ∧ H p = some (.lst xs) ∧ ixN xs.length k = some j ∧ D.nx σ (upd H p (.lst (xs.set j (.int v))))) :=
  ps_weak (ps_asg he.pe (pg_sub (pe_var hN hv hd hcd) pe_int set_list ha) hs hw h1) fun D σ H ⟨v, p, xs, j, q1, q2, q3, q4, q⟩ => ⟨v, q1, _, q2, p, xs, k, j, rfl, rfl, q3, q4, q⟩
/-- cell = bag[0].pop() -/
theorem ps_bagPop (i j : Nat) {x y : Str} {j0 : Nat} {p0 p1 p2 p3 p4 p5 pos : Pos} (hNd : X.N.Nodup) (hN : X.N[i]? = some x := by rfl) (hv : Vis X.env.scope x := by first | exact Or.inl rfl | exact Or.inr (Or.inl rfl) | exact Or.inr (Or.inr rfl))
    (hd : (x == ("__debug__" : Str)) = false := by decide) (hcd : (x == ("__classdict__" : Str)) = false := by decide) (hj : X.N[j]? = some y := by rfl) (hy : Loc X.env.scope y := by first | exact Or.inl rfl | exact Or.inr rfl)
    (hf : X.fn y = true ∨ X.env.scope.names.lookup y = some .local := by first | exact .inl rfl | exact .inr rfl | assumption)
    (hbase : attributeBase (.Subscript (.Name x p1) (.Constant (.int 0) j0 p2) p3) "pop" X.env (eval (.Subscript (.Name x p1) (.Constant (.int 0) j0 p2) p3) X.env) = eval (.Subscript (.Name x p1) (.Constant (.int 0) j0 p2) p3) X.env := by rfl) (hline : (p4.endLine == p5.line) = true := by rfl)
    (hs : swapsWith (.Call (.Attribute (.Subscript (.Name x p1) (.Constant (.int 0) j0 p2) p3) "pop" p4) [] [] p5) (some (.Name y p0)) pos.line X.env = pure false := by rfl) :
    PS X (.Assign [.Name y p0] (.Call (.Attribute (.Subscript (.Name x p1) (.Constant (.int 0) j0 p2) p3) "pop" p4) [] [] p5) pos)
      (fun D σ H => ∃ p xs q ys v, σ[i]? = some (some (.ref p)) ∧ H p = some (.lst xs) ∧ atI xs 0 = some (.ref q) ∧ H q = some (.lst ys) ∧ ys[ys.length - 1]? = some v ∧ D.nx (σ.set j (some v)) (upd H q (.lst ys.dropLast))) :=
  ps_weak (ps_set hNd hj hy (pe_bm0 PySem.F.plainAttrs_list PySem.F.slot_list_pop PySem.F.type_list_pop mt_pop (pe_ix ix_seq (pe_var hN hv hd hcd) pe_int (fun _ _ => rfl)) hbase hline) hs hf) fun D σ H ⟨p, xs, q, ys, v, q1, q2, q3, q4, q5, k⟩ =>
    ⟨_, q1, .inl ⟨p, xs, 0, .ref q, rfl, rfl, SqL.of q2, q3, .inl ⟨rfl, ys, SqL.of q4⟩, q, ys, v, rfl, rfl, q4, q5, k⟩⟩
theorem pi_if {cc a b : Expr} {t : TT} {fa fb : RI} {pos : Pos} {r : St → Hp → Bool → Prop} (hc : PT X cc t) (w : ∀ σ H b Q, r σ H b → Q b H → t σ H Q) (ha : PI X a fa) (hb : PI X b fb) :
    PI X (.IfExp cc a b pos) (fun σ H i => ∃ k, r σ H k ∧ (if k = true then fa σ H i else fb σ H i)) :=
  .of (pe_ifExp hc ha.pe hb.pe) fun σ H Q i ⟨k, h1, h2⟩ q => w _ _ _ _ h1 (by
    cases k with
    | true => exact ⟨i, h2, q⟩
    | false => exact ⟨i, h2, q⟩)
theorem ps_retI {e : Expr} {f : RI} {pos : Pos} (he : PI X e f) : PS X (.Return (some e) pos) (fun D σ H => ∃ i, f σ H i ∧ D.rt (.int i) H) := ps_weak (ps_ret he.pe) fun D σ H h => h
theorem ps_setI (i : Nat) {x : Str} {e : Expr} {f : RI} {pos pos' : Pos} (hN : X.N.Nodup) (he : PI X e f) (hi : X.N[i]? = some x := by rfl) (hx : Loc X.env.scope x := by first | exact Or.inl rfl | exact Or.inr rfl)
    (hs : swapsWith e (some (.Name x pos')) pos.line X.env = pure false := by rfl) (hf : X.fn x = true ∨ X.env.scope.names.lookup x = some .local := by first | exact .inl rfl | exact .inr rfl | assumption) :
    PS X (.Assign [.Name x pos'] e pos) (fun D σ H => ∃ v, f σ H v ∧ D.nx (σ.set i (some (.int v))) H) := ps_weak (ps_set hN hi hx he.pe hs hf) fun D σ H ⟨v, h1, h2⟩ => ⟨v, h1, h2⟩
end
/-! ### the draw -/
abbrev rBg (k : Int) : RI := fun σ H j => ∃ p xs, σ[0]? = some (some (.ref p)) ∧ H p = some (.lst xs) ∧ atI xs k = some (.int j)
abbrev rNm (i : Nat) : RI := fun σ _ j => σ[i]? = some (some (.int j))
abbrev rK (i : Int) : RI := fun _ _ k => k = i
abbrev rBin (C : Int → Int → Prop) (g : Int → Int → Int) (fa fb : RI) : RI := fun σ H k => ∃ i j, fa σ H i ∧ fb σ H j ∧ C i j ∧ k = g i j
abbrev rMul := rBin CMulW fun i j => i * j
abbrev rAdd := rBin (fun _ _ => True) fun i j => i + j
abbrev rMod := rBin (fun _ j => 0 < j) fun i j => i % j
def CDv (i j : Int) : Prop := 0 < j ∧ j.natAbs.log2 < 9000
theorem iop_div {X : Cx} : OpR X (binaryOp .FloorDiv) (rI CDv fun i j => .int (i / j)) := opr_weak op_fdivA fun x y H Q ⟨i, j, e1, e2, h, q⟩ => by
  refine ⟨i, j, e1, e2, ⟨by have := h.1; omega, h.2⟩, ?_⟩
  show Q (V.int (i.fdiv j)) H
  rw [Int.fdiv_eq_ediv_of_nonneg _ (Int.le_of_lt h.1)]
  exact q
abbrev rDiv := rBin CDv fun i j => i / j
abbrev rPow := rBin CPow fun i j => i ^ j.toNat
abbrev tIt (g : Int → Int → Bool) (fa fb : RI) : TT := fun σ H Q => ∃ i j, fa σ H i ∧ fb σ H j ∧ Q (g i j) H
abbrev tFull : TT := fun σ H Q => ∃ p xs q, ∃ cs : List Int, σ[0]? = some (some (.ref p)) ∧ H p = some (.lst xs) ∧ atI xs 0 = some (.ref q) ∧ H q = some (.lst (cs.map V.int)) ∧ ∀ H', (∀ a, H a ≠ none → H' a = H a) → Q (!cs.isEmpty) H'
abbrev tPut (k : Int) (f : RI) : TS := fun D σ H => ∃ v p xs j, f σ H v ∧ σ[0]? = some (some (.ref p)) ∧ H p = some (.lst xs) ∧ ixN xs.length k = some j ∧ D.nx σ (upd H p (.lst (xs.set j (.int v))))
abbrev tPopB : TS := fun D σ H => ∃ p xs q ys v, σ[0]? = some (some (.ref p)) ∧ H p = some (.lst xs) ∧ atI xs 0 = some (.ref q) ∧ H q = some (.lst ys) ∧ ys[ys.length - 1]? = some v ∧ D.nx (σ.set 2 (some v)) (upd H q (.lst ys.dropLast))
abbrev rIfI (g : Int → Int → Bool) (c1 c2 fa fb : RI) : RI := fun σ H i => ∃ k, (∃ x y, c1 σ H x ∧ c2 σ H y ∧ k = g x y) ∧ (if k = true then fa σ H i else fb σ H i)
abbrev tSetI (i : Nat) (f : RI) : TS := fun D σ H => ∃ v, f σ H v ∧ D.nx (σ.set i (some (.int v))) H
abbrev tRetI (f : RI) : TS := fun D σ H => ∃ i, f σ H i ∧ D.rt (.int i) H
abbrev gEqI (i j : Int) : Bool := decide (i = j)
abbrev gGtI (i j : Int) : Bool := decide (j < i)
def tDraw (a b q : Int) : TS :=
  tSeq (tWhile (tAnd (tIt gEqI (rBg 1) (rK 0)) tFull) (tSeq tPopB (tPut 1 (rIfI gGtI (rNm 2) (rPow (rK 10) (rK 9)) (rNm 2) (rK 0)))))
    (tSeq (tIfS (tIt gGtI (rBg 1) (rK 0)) (tSeq (tSetI 3 (rMod (rBg 1) (rNm 1))) (tSeq (tPut 1 (rDiv (rBg 1) (rNm 1))) (tRetI (rNm 3)))) tNext)
      (tSeq (tPut 2 (rMod (rAdd (rMul (rBg 2) (rK a)) (rK b)) (rK 2147483647))) (tRetI (rMod (rDiv (rMod (rMul (rBg 2) (rBg 2)) (rK 2147483629)) (rK q)) (rNm 1)))))
def spDraw : Spec := fun ss Q => ∃ n : Int, ss = [.bg, .sh (.int n)] ∧ 0 < n ∧ n.natAbs.log2 < 9000 ∧ ∀ r : Int, 0 ≤ r → r < n → Q (.int r)
/-! what the draw does -/
theorem BagW.keep {pb pc : Addr} {H H' : Hp} {cs : List Int} {d m : Int} (w : BagW pb pc H cs d m) (k : ∀ a, H a ≠ none → H' a = H a) : BagW pb pc H' cs d m :=
  ⟨w.ne, by rw [k _ (by rw [w.b]; exact fun z => nomatch z)]; exact w.b, by rw [k _ (by rw [w.c]; exact fun z => nomatch z)]; exact w.c, w.cs0, w.d0, w.m0, w.m1⟩
theorem BagW.put1 {pb pc : Addr} {H : Hp} {cs : List Int} {d m : Int} (w : BagW pb pc H cs d m) {e : Int} (he : 0 ≤ e) : BagW pb pc (upd H pb (.lst ([V.ref pc, .int d, .int m].set 1 (.int e)))) cs e m :=
  ⟨w.ne, upd_same, by rw [upd_ne (Ne.symm w.ne)]; exact w.c, w.cs0, he, w.m0, w.m1⟩
theorem BagW.put2 {pb pc : Addr} {H : Hp} {cs : List Int} {d m : Int} (w : BagW pb pc H cs d m) {e : Int} (he : 0 ≤ e) (h1 : e < 2147483647) : BagW pb pc (upd H pb (.lst ([V.ref pc, .int d, .int m].set 2 (.int e)))) cs d e :=
  ⟨w.ne, upd_same, by rw [upd_ne (Ne.symm w.ne)]; exact w.c, w.cs0, w.d0, he, h1⟩
theorem BagW.pop {pb pc : Addr} {H : Hp} {cs : List Int} {d m : Int} (w : BagW pb pc H cs d m) : BagW pb pc (upd H pc (.lst (cs.map V.int).dropLast)) cs.dropLast d m :=
  ⟨w.ne, by rw [upd_ne w.ne]; exact w.b, by rw [upd_same, List.map_dropLast], fun x hx => w.cs0 x (List.dropLast_subset _ hx), w.d0, w.m0, w.m1⟩
theorem getLast_at {cs : List Int} (h : cs ≠ []) : ∃ x ∈ cs, (cs.map V.int)[(cs.map V.int).length - 1]? = some (.int x) := by
  refine ⟨cs.getLast h, List.getLast_mem h, ?_⟩
  rw [List.length_map, List.getElem?_map, ← List.getLast?_eq_getElem?, List.getLast?_eq_getLast h]
  rfl
/-- between two states: only the bag's objects have changed, and new ones came -/
def BagTo (pb pc : Addr) (H H' : Hp) : Prop := ∀ a, a ≠ pb → a ≠ pc → H a ≠ none → H' a = H a
theorem BagTo.refl {pb pc : Addr} {H : Hp} : BagTo pb pc H H := fun _ _ _ _ => rfl
theorem BagTo.keep {pb pc : Addr} {H H1 H2 : Hp} (t : BagTo pb pc H H1) (k : ∀ a, H1 a ≠ none → H2 a = H1 a) : BagTo pb pc H H2 := fun a h1 h2 h3 => by
  have e := t a h1 h2 h3
  rw [k a (by rw [e]; exact h3), e]
theorem BagTo.pb {pb pc : Addr} {H H1 : Hp} {o : HO} (t : BagTo pb pc H H1) : BagTo pb pc H (upd H1 pb o) := fun a h1 h2 h3 => by rw [upd_ne h1]; exact t a h1 h2 h3
theorem BagTo.pc {pb pc : Addr} {H H1 : Hp} {o : HO} (t : BagTo pb pc H H1) : BagTo pb pc H (upd H1 pc o) := fun a h1 h2 h3 => by rw [upd_ne h2]; exact t a h1 h2 h3
theorem draw_run {a b q n : Int} {pb pc : Addr} {D : Ends} {σ : L2.St} {H : Hp} {cs : List Int} {d m : Int} (hq : 0 < q ∧ q < 1000) (ha : 0 ≤ a ∧ a < 4294967296) (hb : 0 ≤ b) (hn : 0 < n) (hn2 : n.natAbs.log2 < 9000)
    (w : BagW pb pc H cs d m) (h0 : σ[0]? = some (some (.ref pb))) (h1 : σ[1]? = some (some (.int n))) (hl : σ.length = 4)
    (h : ∀ r : Int, 0 ≤ r → r < n → ∀ H', BagTo pb pc H H' → (∃ cs d m, BagW pb pc H' cs d m) → D.rt (.int r) H') : tDraw a b q D σ H := by
  have ml : ∀ {x y : Int}, 0 ≤ x → x < 4294967296 → 0 ≤ y → y < 4294967296 → CMulW x y := fun {x y} g1 g2 g3 g4 =>
    wide_mul (a := 32) (b := 32) (by omega) (by omega) (by decide) (by decide) (by decide)
  refine ⟨fun k σ' H' => σ'[0]? = some (some (.ref pb)) ∧ σ'[1]? = some (some (.int n)) ∧ σ'.length = 4 ∧ BagTo pb pc H H' ∧ ∃ cs d m, BagW pb pc H' cs d m ∧ cs.length = k, ⟨cs.length, h0, h1, hl, BagTo.refl, cs, d, m, w, rfl⟩, ?_⟩
  rintro k σ1 H1 ⟨g0, g1, gl, gt, cs, d, m, w, rfl⟩
  -- what comes behind the loop
  have rest : ∀ {H2 : Hp} {cs : List Int} {d m : Int} {σ1 : L2.St}, σ1[0]? = some (some (.ref pb)) → σ1[1]? = some (some (.int n)) → σ1.length = 4 → BagTo pb pc H H2 → BagW pb pc H2 cs d m →
      (tSeq (tIfS (tIt gGtI (rBg 1) (rK 0)) (tSeq (tSetI 3 (rMod (rBg 1) (rNm 1))) (tSeq (tPut 1 (rDiv (rBg 1) (rNm 1))) (tRetI (rNm 3)))) tNext)
      (tSeq (tPut 2 (rMod (rAdd (rMul (rBg 2) (rK a)) (rK b)) (rK 2147483647))) (tRetI (rMod (rDiv (rMod (rMul (rBg 2) (rBg 2)) (rK 2147483629)) (rK q)) (rNm 1))))) D σ1 H2 := by
    intro H2 cs d m σ1 g0 g1 gl gt w
    have b1 : rBg 1 σ1 H2 d := ⟨pb, _, g0, w.b, rfl⟩
    have b2 : rBg 2 σ1 H2 m := ⟨pb, _, g0, w.b, rfl⟩
    refine ⟨d, 0, b1, rfl, ?_⟩
    by_cases hd : 0 < d
    · rw [show gGtI d 0 = true from decide_eq_true hd]; dsimp only; rw [if_pos rfl]
      have r0 := Int.emod_nonneg d (Int.ne_of_gt hn)
      have r1 := Int.emod_lt_of_pos d hn
      refine ⟨d % n, ⟨d, n, b1, g1, hn, rfl⟩, ?_⟩
      have s0 : (σ1.set 3 (some (.int (d % n))))[0]? = some (some (.ref pb)) := by rw [List.getElem?_set_ne (by decide)]; exact g0
      have s1 : (σ1.set 3 (some (.int (d % n))))[1]? = some (some (.int n)) := by rw [List.getElem?_set_ne (by decide)]; exact g1
      refine ⟨d / n, pb, _, 1, ⟨d, n, ⟨pb, _, s0, w.b, rfl⟩, s1, ⟨hn, hn2⟩, rfl⟩, s0, w.b, rfl, ?_⟩
      refine ⟨d % n, ?_, h _ r0 r1 _ gt.pb ⟨cs, _, _, w.put1 (Int.ediv_nonneg w.d0 (Int.le_of_lt hn))⟩⟩
      show (σ1.set 3 (some (.int (d % n))))[3]? = _
      rw [List.getElem?_set_self (by omega)]
    · rw [show gGtI d 0 = false from decide_eq_false hd]; dsimp only; rw [if_neg (by decide)]
      have m0 := w.m0
      have m1 := w.m1
      have n0 := Int.emod_nonneg (m * a + b) (b := 2147483647) (by decide)
      have n1 := Int.emod_lt_of_pos (m * a + b) (b := 2147483647) (by decide)
      refine ⟨(m * a + b) % 2147483647, pb, _, 2, ⟨_, _, ⟨m * a, b, ⟨m, a, b2, rfl, ml m0 (by omega) ha.1 ha.2, rfl⟩, rfl, trivial, rfl⟩, rfl, show (0 : Int) < 2147483647 by decide, rfl⟩, g0, w.b, rfl, ?_⟩
      have w2 := w.put2 n0 n1
      generalize (m * a + b) % 2147483647 = z at n0 n1 w2
      have b3 : rBg 2 σ1 (upd H2 pb (.lst ([V.ref pc, .int d, .int m].set 2 (.int z)))) z := ⟨pb, _, g0, w2.b, rfl⟩
      have q0 : (0 : Int) < q := hq.1
      refine ⟨z * z % 2147483629 / q % n, ⟨_, n, ⟨_, q, ⟨_, _, ⟨z, z, b3, b3, ml n0 (by omega) n0 (by omega), rfl⟩, rfl, show (0 : Int) < 2147483629 by decide, rfl⟩, rfl, ⟨q0, ?_⟩, rfl⟩, g1, hn, rfl⟩, ?_⟩
      · have : q.natAbs < 2 ^ 10 := by omega
        by_cases z0 : q.natAbs = 0
        · rw [z0]; decide
        · exact Nat.lt_trans ((Nat.log2_lt z0).mpr this) (by decide)
      · exact h _ (Int.emod_nonneg _ (Int.ne_of_gt hn)) (Int.emod_lt_of_pos _ hn) _ gt.pb ⟨_, _, _, w2⟩
  refine ⟨d, 0, ⟨pb, _, g0, w.b, rfl⟩, rfl, ?_⟩
  by_cases hd : d = 0
  · rw [show gEqI d 0 = true from decide_eq_true hd]; dsimp only; rw [if_pos rfl]
    refine ⟨pb, _, pc, cs, g0, w.b, rfl, w.c, fun H2 k2 => ?_⟩
    have w2 := w.keep k2
    by_cases hc : cs = []
    · subst hc
      exact rest g0 g1 gl (gt.keep k2) w2
    · rw [show (!cs.isEmpty) = true by cases cs <;> first | exact absurd rfl hc | rfl]; dsimp only; rw [if_pos rfl]
      refine ⟨fun σ' H' => σ'[0]? = some (some (.ref pb)) ∧ σ'[1]? = some (some (.int n)) ∧ σ'.length = 4 ∧ BagTo pb pc H H' ∧ ∃ cs' d m, BagW pb pc H' cs' d m ∧ cs'.length < cs.length, fun σ' H' ⟨a0, a1, a2, a3, cs', d', m', a4, a5⟩ => ⟨_, a5, a0, a1, a2, a3, cs', d', m', a4, rfl⟩, ?_⟩
      obtain ⟨x, hx, hx2⟩ := getLast_at hc
      refine ⟨pb, _, pc, _, .int x, g0, w2.b, rfl, w2.c, hx2, ?_⟩
      have s0 : (σ1.set 2 (some (.int x)))[0]? = some (some (.ref pb)) := by rw [List.getElem?_set_ne (by decide)]; exact g0
      have s1 : (σ1.set 2 (some (.int x)))[1]? = some (some (.int n)) := by rw [List.getElem?_set_ne (by decide)]; exact g1
      have s2 : (σ1.set 2 (some (.int x)))[2]? = some (some (.int x)) := List.getElem?_set_self (by omega)
      have w3 := w2.pop
      have x0 := w2.cs0 x hx
      have len : cs.dropLast.length < cs.length := by
        rw [List.length_dropLast]
        have : 0 < cs.length := List.length_pos_iff.mpr hc
        omega
      refine ⟨if 10 ^ (9 : Int).toNat < x then x else 0, pb, _, 1, ⟨gGtI x (10 ^ (9 : Int).toNat), ⟨x, _, s2, ⟨10, 9, rfl, rfl, ⟨by decide, by decide, by decide⟩, rfl⟩, rfl⟩, ?_⟩, s0, w3.b, rfl, s0, s1, by rw [List.length_set]; exact gl, (gt.keep k2).pc.pb, _, _, _, w3.put1 ?_, len⟩
      · unfold gGtI
        by_cases e : (10 : Int) ^ (9 : Int).toNat < x
        · rw [decide_eq_true e, if_pos rfl, if_pos e]; exact s2
        · rw [decide_eq_false e, if_neg (by decide), if_neg e]
      · split
        · exact x0
        · exact Int.le_refl 0
  · rw [show gEqI d 0 = false from decide_eq_false hd]; dsimp only; rw [if_neg (by decide)]
    exact rest g0 g1 gl gt w
theorem BagTo.gr {c : C} {B H H' : Hp} {pb pc : Addr} (w : Wd c B H) (hc : c.toBg = lstBag pb pc) (t : BagTo pb pc H H') (k : ∃ cs d m, BagW pb pc H' cs d m) : Gr c B H B H' := by
  have hm : ∀ a, c.isBag a ↔ (a = pb ∨ a = pc) := fun a => by
    unfold C.isBag
    rw [hc]; exact Iff.rfl
  have hok : c.ok H' := by rw [hc]; exact k
  refine ⟨Evl.Ex.refl B, fun a o n e => ?_, fun _ _ => rfl, fun a o e => ?_, w.bag.out, fun a ha => ?_, hok⟩
  · rw [t a (fun z => n ((hm a).mpr (.inl z))) (fun z => n ((hm a).mpr (.inr z))) (by rw [e]; exact fun z => nomatch z)]; exact e
  · have n := w.nb e
    have e' := w.sub a o e
    rw [t a (fun z => n ((hm a).mpr (.inl z))) (fun z => n ((hm a).mpr (.inr z))) (by rw [e']; exact fun z => nomatch z)]; exact e'
  · obtain ⟨cs, d, m, v⟩ := k
    rcases (hm a).mp ha with z | z
    · rw [z, v.b]; exact fun q => nomatch q
    · rw [z, v.c]; exact fun q => nomatch q
def gDraw : SS := fun D ρ => ∃ n : Int, ρ = [.bg, .sh (.int n), .un, .un] ∧ 0 < n ∧ n.natAbs.log2 < 9000 ∧ ∀ r : Int, 0 ≤ r → r < n → D.rt (.int r)
theorem mono_Draw : MonoS gDraw := fun D D' ρ l ⟨n, h1, h2, h3, h4⟩ => ⟨n, h1, h2, h3, fun r a b => l.rt _ (h4 r a b)⟩
theorem draw_ss {X : Cx} {c : C} {sts : List Stmt} {a b q : Int} (hG : IsLst c) (hq : 0 < q ∧ q < 1000) (ha : 0 ≤ a ∧ a < 4294967296) (hb : 0 ≤ b) (h : PSs X sts (tDraw a b q)) : PSsd X c sts gDraw := by
  obtain ⟨pb, pc, hc⟩ := hG
  refine ⟨mono_Draw, pss_weak h fun D σ H ⟨B, ρ, ok, n, e1, h2, h3, h4⟩ => ?_⟩
  subst e1
  have s0 : SlOk c B H σ 0 .bg := ok.sl 0 _ rfl
  obtain ⟨v, s1, s2⟩ : SlOk c B H σ 1 (.sh (.int n)) := ok.sl 1 _ rfl
  rw [rp_int s2] at s1
  have s0' : σ[0]? = some (some (.ref c.pb)) := s0
  have hp : c.pb = pb := by
    have : c.toBg.pb = (lstBag pb pc).pb := by rw [hc]
    exact this
  rw [hp] at s0'
  have okk : c.ok H := ok.w.bag.ok
  rw [hc] at okk
  obtain ⟨cs, d, m, w⟩ : ∃ cs d m, BagW pb pc H cs d m := okk
  exact draw_run hq ha hb h2 h3 w s0' s1 (by rw [← ok.len]; rfl) fun r r0 r1 H' t k => h4 r r0 r1 _ B H' (ok.g.trans ok.w0 (t.gr ok.w hc k)) (.int r)
theorem spDraw_mono : ∀ ss (Q Q' : D → Prop), (∀ d, Q d → Q' d) → spDraw ss Q → spDraw ss Q' := fun ss Q Q' k ⟨n, h1, h2, h3, h4⟩ => ⟨n, h1, h2, h3, fun r a b => k _ (h4 r a b)⟩
theorem spDraw_len : ∀ ss Q, spDraw ss Q → ss.length = 2 := fun ss Q ⟨n, h1, _⟩ => by rw [h1]; rfl
theorem spDraw_go {N : List Str} (hN : N.length = 4) : ∀ ss (Q : D → Prop), spDraw ss Q → gDraw (endsOf Q) (initE N ss) := fun ss Q ⟨n, h1, h2, h3, h4⟩ => ⟨n, by
  subst h1
  unfold initE
  rw [hN]; rfl, h2, h3, h4⟩
end DL
namespace DL
open PySem L2 PyProof.Rows
/-! ### the script, cut -/
def GOwn (K : PySem.W.Frag) (c : C) : Prop := ∃ ns : List Int, ns.length ≤ most ∧ SqL K c.H0 c.pb (ns.map V.int) ∧ ∀ a, ¬ c.isBag a
theorem sql_up {K : PySem.W.Frag} {H H' : Hp} {a : Addr} {xs : List V} (k : ∀ a o, H a = some o → H' a = some o) (h : SqL K H a xs) : SqL K H' a xs := by
  rcases h with h | h
  · rcases h with h | ⟨ob, h⟩
    · exact .inl (.inl (k _ _ h))
    · exact .inl (.inr ⟨ob, k _ _ h⟩)
  · exact .inr h
theorem cut_map {α β : Type} (f : α → β) (ns : List α) (lo hi : Option Int) : ∃ ms : List α, ms.length ≤ ns.length ∧ (((ns.map f).drop (HT.sIx (ns.map f).length 0 lo)).take (HT.sIx (ns.map f).length (ns.map f).length hi - HT.sIx (ns.map f).length 0 lo)) = ms.map f :=
  ⟨(ns.drop (HT.sIx (ns.map f).length 0 lo)).take (HT.sIx (ns.map f).length (ns.map f).length hi - HT.sIx (ns.map f).length 0 lo), by rw [List.length_take, List.length_drop]; omega, by rw [List.map_take, List.map_drop]⟩
/-- script[a:b] -/
def fScr : SL := fun ρ Q => lk ρ 0 = .bg ∧ ∀ ms : List Int, ms.length ≤ most → Q (ms.map PyData.int)
theorem n_script {X : Cx} {c : C} {x : Str} {p1 p2 pos : Pos} {lo hi : Option Expr} {l h : Option Int} (hG : GOwn X.K c) (hl : POd X c lo fun _ Q => Q l) (hh : POd X c hi fun _ Q => Q h) (hN : X.N[0]? = some x := by rfl) (hv : Vis X.env.scope x := by first | exact Or.inl rfl | exact Or.inr (Or.inl rfl) | exact Or.inr (Or.inr rfl))
    (hd : (x == ("__debug__" : Str)) = false := by decide) (hcd : (x == ("__classdict__" : Str)) = false := by decide) : PN X c (.Subscript (.Name x p1) (.Slice lo hi none p2) pos) fScr := by
  obtain ⟨ns, hl0, hS, hno⟩ := hG
  refine ⟨fun ρ Q Q' k ⟨h1, h2⟩ => ⟨h1, fun ms hm => k _ (h2 ms hm)⟩, pe_weak (pe_slice sl_list (pe_var hN hv hd hcd) hl.po hh.po) fun σ H Q ⟨B, ρ, ok, e, q⟩ => ?_⟩
  have s0 : SlOk c B H σ 0 .bg := ok.sl 0 _ (lk_get e fun z => nomatch z)
  refine ⟨.ref c.pb, s0, B, ρ, ok, fun B1 H1 g1 => ⟨B1, ρ, ok.mono g1, fun B2 H2 g2 => ?_⟩⟩
  have g := g1.trans ok.w g2
  have S2 : SqL X.K H2 c.pb (ns.map V.int) := sql_up (fun a o e => g.h a o (hno a) (ok.g.h a o (hno a) e)) hS
  refine ⟨c.pb, _, rfl, S2, fun t ht => ?_⟩
  obtain ⟨ms, hml, hm⟩ := cut_map V.int ns l h
  have e2 : cutV (ns.map V.int) l h = ms.map V.int := hm
  have g3 := Gr.newO (o := .lst (cutV (ns.map V.int) l h)) g.w ht
  refine q ms (Nat.le_trans hml hl0) t _ B2 _ (g.trans ok.w g3) (g.back ht) (Evl.fresh_back g.w.sub ht) upd_same ?_
  rw [e2]; exact rpa_of_ints ms
end DL
namespace DL
open PySem L2 PySem.Spec PyProof.Rows
/-- try: a body that raises nothing -/
theorem s_tryN {X : Cx} {c : C} {body : List Stmt} {h : ExceptHandler} {hs : List ExceptHandler} {f : SS} {pos : Pos} (hn : ∀ e s, ¬ X.xe e s) (hb : PSsd X c body f) : PSd X c (.Try body (h :: hs) [] [] pos) f :=
  ⟨hb.mono, ps_weak (ps_try_never (u := tNext) hn hb.ps pss_nil) fun D σ H q => q⟩
/-! ### the bag is made -/
def spOwn : Spec := fun ss Q => ss = [.bg] ∧ ∀ (cs : List Int) (m : Int), (∀ x ∈ cs, 0 ≤ x) → 0 ≤ m → m < 2147483647 → Q (.list [.list (cs.map PyData.int), .int 0, .int m])
theorem spOwn_mono : ∀ ss (Q Q' : D → Prop), (∀ d, Q d → Q' d) → spOwn ss Q → spOwn ss Q' := fun ss Q Q' k ⟨h1, h2⟩ => ⟨h1, fun cs m a b e => k _ (h2 cs m a b e)⟩
theorem spOwn_len : ∀ ss Q, spOwn ss Q → ss.length = 1 := fun ss Q ⟨h, _⟩ => by rw [h]; rfl
theorem bag_of {B H : Hp} {v : V} {cs : List Int} {m : Int} (x : Ex B H) (r : Rp B v (.list [.list (cs.map PyData.int), .int 0, .int m])) (h1 : ∀ x ∈ cs, 0 ≤ x) (h2 : 0 ≤ m) (h3 : m < 2147483647) : ∃ pb pc, v = .ref pb ∧ BagW pb pc H cs 0 m := by
  obtain ⟨pb, xs, rfl, e1, r1⟩ := rp_lst r
  cases r1 with
  | cons r1 r2 =>
    cases r2 with
    | cons r2 r3 =>
      cases r3 with
      | cons r3 r4 =>
        cases r4
        obtain ⟨pc, ys, rfl, e2, r5⟩ := rp_lst r1
        have e3 := rp_int r2
        have e4 := rp_int r3
        subst e3 e4
        have e5 := rpa_ints r5
        subst e5
        refine ⟨pb, pc, rfl, fun z => ?_, x _ _ e1, x _ _ e2, h1, Int.le_refl 0, h2, h3⟩
        subst z
        rw [e1] at e2
        cases cs with
        | nil => cases e2
        | cons c cs => cases e2
section
variable {X : Cx} {k : Nat} {f : Addr} {fd : FuncData} {ps : List Str}
def tOwn (K : PySem.W.Frag) : TE := fun σ H Q => ∃ a, ∃ ns : List Int, σ[0]? = some (some (.ref a)) ∧ ns.length ≤ most ∧ SqL K H a (ns.map V.int) ∧ ∀ pb pc cs m H', BagW pb pc H' cs 0 m → Q (.ref pb) H'
theorem pe_own {x y : Str} {p p1 pos : Pos} {ps : List Str} (F : FnG (GOwn X.K) X.prog X.w X.K X.mg X.base k f fd ps spOwn) (hgd : X.A.guards = some []) (hr : Room k X.A) (hm : X.mg x = some (.ref f)) (hk : PySem.W.keepIn X.K (.ref f) = true) (hb : Binds X.K fd ps [])
    (hN : X.N[0]? = some y := by rfl) (hv : Vis X.env.scope y := by first | exact Or.inl rfl | exact Or.inr (Or.inl rfl) | exact Or.inr (Or.inr rfl)) (hd : (y == ("__debug__" : Str)) = false := by decide) (hcd : (y == ("__classdict__" : Str)) = false := by decide)
    (hg : Gl X x := by rfl) (hdb : (x == ("__debug__" : Str)) = false := by decide) (he : starEach [.Name y p1] X.env = (false, eval (.Name y p1) X.env) :: starEach [] X.env := by rfl) (hpl : (backTo pos (starEach [] X.env)).any (·.1) = false := by rfl) :
    PE X (.Call (.Name x p) [.Name y p1] [] pos) (tOwn X.K) := by
  refine ⟨fun pins s σ H Q I ⟨a, ns, h0, hl0, hS, q⟩ => wpAny_Call_Name_kw (ld_glob I hg hm (PySem.W.callWith_K (h₀ := X.base) I.ok.mod.kin hk (wpAny_mono ((pa_cons (pe_var hN hv hd hcd) pa_nil he).run pos pins s σ H (fun vs H1 => vs = [.ref a] ∧ H1 = H) I ⟨_, h0, rfl, rfl⟩) (fun us s1 hv => ?_) fun _ _ z => z) he hpl) hdb)⟩
  obtain ⟨vs, H1, I1, rv, e1, e2⟩ := hv
  subst e1 e2
  refine ⟨I1.kIn, wpAny_call ?_⟩
  have hl : us.length = ps.length := by
    rw [← rv.length]
    exact (F.len [.bg] (fun _ => True) ⟨rfl, fun _ _ _ _ _ => trivial⟩)
  have hbb := hb s1 us I1.kIn (by rw [List.append_nil]; exact hl)
  rw [List.append_nil] at hbb
  refine run_fng F hgd hr I1 hbb rv ⟨{ toBg := noBag a, B0 := fun _ => none, H0 := H1 }, ⟨ns, hl0, hS, fun _ z => z⟩, rfl, ⟨(fun _ _ z => nomatch z), ⟨fun _ z => z.elim, fun _ z => z.elim, trivial⟩⟩, [.bg], ⟨rfl, trivial⟩, rfl, fun cs m a1 a2 a3 v B' H' g r => ?_⟩
  obtain ⟨pb, pc, e, w⟩ := bag_of g.w.sub r a1 a2 a3
  subst e
  exact q pb pc cs m H' w
end
/-- the law's body: the bag, then the rest -/
def gLaw (n : Nat) (g : SS) : Prop := g ⟨fun _ => False, fun d => d = .bool true, fun _ => False, fun _ => False, fun _ => False⟩ (.un :: .bg :: List.replicate n .un)
theorem law_ss {X : Cx} {st : Stmt} {rest : List Stmt} {g : SS} {n : Nat} (h0 : PS X st (tAsg (tOwn X.K) (gName 1))) (h : ∀ c, IsLst c → PSsd X c rest g) (hg : gLaw n g) :
    PSs X (st :: rest) (fun D σ H => (∀ H', D.rt (.bl true) H') ∧ ∃ a, ∃ ns : List Int, σ = some (.ref a) :: List.replicate (n + 1) none ∧ ns.length ≤ most ∧ SqL X.K H a (ns.map V.int)) := by
  refine ⟨fun pins s σ H D I ⟨k, a, ns, e, hl0, hS⟩ => ?_⟩
  subst e
  have hr : PSs X rest (fun D σ H => (∀ H', D.rt (.bl true) H') ∧ ∃ pb pc cs m, BagW pb pc H cs 0 m ∧ σ[1]? = some (some (.ref pb)) ∧ σ.length = n + 2) := by
    refine ⟨fun pins s σ H D I ⟨k, pb, pc, cs, m, w, e1, e2⟩ => ?_⟩
    let c : C := { toBg := lstBag pb pc, B0 := fun _ => none, H0 := H }
    have hw : Wd c c.B0 H := ⟨(fun _ _ z => nomatch z), (fun _ _ => rfl), fun a ha => by
      rcases ha with z | z
      · rw [z, w.b]; exact fun q => nomatch q
      · rw [z, w.c]; exact (fun q => nomatch q), ⟨cs, 0, m, w⟩⟩
    refine (h c ⟨pb, pc, rfl⟩).ps.run pins s σ H D I ⟨c.B0, .un :: .bg :: List.replicate n .un, ⟨hw, hw, Gr.refl hw, by simp [e2], fun i s hi => ?_, fun i j p ds es _ hi _ _ => ?_⟩, (h c ⟨pb, pc, rfl⟩).mono _ _ _ ⟨fun _ z => False.elim z, fun d hd v B' H' g r => ?_, fun _ z => False.elim z, fun _ z => False.elim z, fun _ z => False.elim z⟩ hg⟩
    · match i with
      | 0 => cases hi; trivial
      | 1 => cases hi; exact e1
      | i + 2 =>
        simp only [List.getElem?_cons_succ, List.getElem?_replicate] at hi
        split at hi
        · cases hi; trivial
        · cases hi
    · match i with
      | 0 => cases hi
      | 1 => cases hi
      | i + 2 =>
        simp only [List.getElem?_cons_succ, List.getElem?_replicate] at hi
        split at hi <;> cases hi
    · subst hd
      rw [rp_bl r]; exact k H'
  exact (pss_cons h0 hr).run pins s _ H D I ⟨a, ns, rfl, hl0, hS, fun pb pc cs m H' w => ⟨k, pb, pc, cs, m, w, rfl, by simp⟩⟩
/-- the law's own promise: at the law's call, the guards empty -/
structure FnL (P : Program) (w : World) (K : PySem.W.Frag) (mg : Str → Option Value) (base : Heap) (f : Addr) : Prop where
  run : ∀ (s : Shared) (H : Hp) (a : Addr) (ns : List Int), Env0 P w K mg base callerA [] s H → ns.length ≤ most → SqL K H a (ns.map V.int) →
    codeAny (model P w) callerA (.call (.ref f) ⟨[.ref a], []⟩) (CR CX0 [] P w H s (fun v _ => v = .bl true) E0) s
theorem fnl_of {P : Program} {w : World} {K : PySem.W.Frag} {mg : Str → Option Value} {base : Heap} {x qual : Str} {st : Stmt} {f : Addr} {fd : FuncData} {y : Str} {N : List Str} {n k : Nat} (F : Fun K x qual st f fd) (sc : FnScope N [y] (defScope st)) (hN : N.length = n + 2) (hr : Room (k + 1) callerA)
    (body : ∀ (cdv : Value) (s : Shared) (H : Hp), Room k (callerA.deeper (envOfC qual (defScope st) s.heap.objs.size f cdv)) →
      PSs (cxOf CX0 P w K mg base N qual (defScope st) f cdv callerA [] s H E0).nox (defBody st) (fun D σ H => (∀ H', D.rt (.bl true) H') ∧ ∃ a, ∃ ns : List Int, σ = some (.ref a) :: List.replicate (n + 1) none ∧ ns.length ≤ most ∧ SqL K H a (ns.map V.int)))
    (hbind : ∀ (s : Shared) (u : Value), BindsTo s fd ⟨[u], []⟩ [(y, u)]) : FnL P w K mg base f := by
  obtain ⟨oc, od, kV, doc, pm, an, cdv, ct, osl, rfl, lk', hcd⟩ := F.ex
  refine ⟨fun s H a ns e0 hl0 hS => ?_⟩
  have stands : ∀ b o, base.get? b = some o → s.heap.get? b = some o := fun b o z => (e0.bs b o z).1
  have inK : K.In s.heap := e0.mod.kin.keeps stands
  have r : Vals [V.ref a] [Value.ref a] := .cons rfl .nil
  refine codeAny_call_function hr.depth (inK _ _ lk') rfl sc.co sc.gen rfl (PySem.W.codeRec_of inK hcd) ((hbind s (.ref a)) _ _ _ _ (wpAny_newFunctionEnv_cells sc.kind ?_ ?_))
  · rintro ⟨m, v⟩ hy
    have hm : m ∈ [y] := by
      rw [List.mem_singleton] at hy
      cases hy
      exact List.mem_singleton.mpr rfl
    exact (sc.par m hm).elim .inl fun q => .inr ⟨q, PySem.W.cellsFrom_some _ _ _ (.inl q)⟩
  · intro env he s1 hx
    subst he
    refine ⟨(e0.mod.nolimit.keeps stands).keeps hx.toInCall.keep, codeAny_func ?_⟩
    have I := inv_start (CX := CX0) (E := E0) (qual := qual) (vs := [V.ref a]) (us := [Value.ref a]) sc hr.hd e0 rfl r hx
    have go := (body cdv s H (hr.deeper _)).nox.run [] s1 (L2.start N [V.ref a]) H { nx := fun _ _ => False, rt := fun v _ => v = .bl true } I ⟨fun _ => rfl, a, ns, ?_, hl0, hS⟩
    · refine wpAny_mono go (fun fl s' hs => ?_) fun _ _ z => z
      cases fl with
      | ret u =>
        obtain ⟨v, σ', H', J, rv, q⟩ := hs
        exact ⟨v, H', J.os, J.bare, J.base, J.hok, rv, q⟩
      | next =>
        obtain ⟨σ', H', J, q⟩ := hs
        exact q.elim
      | brk => exact hs.elim fun _ z => z.elim fun _ y => y.2.elim
      | cont => exact hs.elim fun _ z => z.elim fun _ y => y.2.elim
    · unfold L2.start
      rw [hN]
      simp only [List.map_cons, List.map_nil, List.length_cons, List.length_nil]
      rfl
end DL
/-! DLExA: an own error over LineError over ValueError is made: its __init__ says super().__init__(..), and keeps one field, or none. -/
namespace DL
namespace EX
open PySem PySem.W PySem.Calls PyProof.Rows L2
abbrev veL : List Value := [.type "ValueError", .type "Exception", .type "BaseException", .type "object"]
/-- super().__init__(..) -/
abbrev supS (es : List Expr) (p0 p1 p2 p3 p4 : Pos) : Stmt := .Expr (.Call (.Attribute (.Call (.Name "super" p0) [] [] p1) "__init__" p2) es [] p3) p4
/-- what the written part says of the class C and its __init__ at f -/
structure IniF (prog : Program) (K : Frag) (C f : Addr) (q : Str) (params : Arguments) (body : List Stmt) (sc : Scope) (cda cc : Addr) : Prop where
  cls : OexC K C
  fn : ∃ oc od osl kV doc pm an ct, K.lookup f = some ⟨oc, od, .func (ksFn "__init__" q params body sc .none kV doc pm an (.ref cda) ct cc), osl⟩
  named : codeIn K (.ref cda) q = true
  code : ∃ cl cd vs cs file tf, K.lookup cda = some ⟨cl, cd, .fields vs, cs⟩ ∧ vs[2]? = some (.str file tf) ∧ ((prog.main.file : Str) == file) = true
  cell : ∃ cl cd cs, K.lookup cc = some ⟨cl, cd, .cell (some (.ref C)), cs⟩
  own : ∃ cd, clsIn K C = some cd
  self : mroIn K C (.ref C) = some true
  opq : nsIn K cStatics "thirdparty.any" = some none
  sup : ks_superIn K C C "__init__" = some (some (.builtin "ValueError.__init__"))
  subV : subIn K (.ref C) (.type "ValueError") = some true
  big : excInitIn K C veL "ValueError.__new__" = true
  find : findIn K (.ref C) "__init__" = some (some (.ref f))
  isf : typeIn K (.ref f) = some (.type "function")
  free : (prog.main.scope.names.lookup ("super" : Str)).isSome = false
  kS : sc.names.lookup ("super" : Str) = some .globalImplicit
  kC : sc.names.lookup ("__class__" : Str) = some .free
  kI : sc.kind = .function
  co : sc.isCoroutine = false
  gen : sc.isGenerator = false
section
variable {prog : Program} {w : World} {A : Around} {E : Value → Shared → Prop} {K : Frag} {mg mb m : Str → Option Value} {h₀ : Heap} {C f cda cc L e t0 : Addr} {q : Str} {params : Arguments} {body : List Stmt} {sc : Scope} {s : Shared}
/-- the object of super() -/
theorem sup_obj {news : List (Addr × Obj)} {p0 p1 : Pos} {at_ : Str} {whole : Sem Value} {ar : Arg} {Q : Value → Shared → Prop} (Z : IniF prog K C f q params body sc cda cc) (Fx : Fr h₀ L s.heap m) (KX : K.In h₀) (Nx : News h₀ L s.heap news)
    (gl : h₀.Ns mainGlobals mg) (gn : mg "super" = none) (bu : h₀.Ns builtinsNs mb) (bn : mb "super" = some (.type "super")) (first : (params.posonlyargs ++ params.args).head? = some ar) (loc : sc.names.lookup ar.arg = some .local) (val : m ar.arg = some (.ref e))
    (inst : InstAt s.heap e (excObj C t0 none .none) C none) (hat : (at_ == ("__class__" : Str)) = false)
    (k : ∀ so h', Fr h₀ L h' m → News h₀ L h' ((so, ks_superObj C e C) :: news) → (∀ p ∈ news, p.1 < so) → Q (.ref so) { s with heap := h' }) :
    _root_.PySem.wpAt (model prog w) A (.func body (ksEnv q sc L f (.ref cda) cc)) (attributeBase (.Call (.Name "super" p0) [] [] p1) at_ (ksEnv q sc L f (.ref cda) cc) whole) Q E s := by
  have now : K.In s.heap := KX.keeps Fx.keep
  obtain ⟨hh, gg, dd, tt, oo⟩ := s
  obtain ⟨oc, od, osl, kV, doc, pm, an, ct, lkF⟩ := Z.fn
  obtain ⟨c1, c2, vs, c3, file, tf, lkC, hvs, hfile⟩ := Z.code
  obtain ⟨l1, l2, l3, lkL⟩ := Z.cell
  obtain ⟨cd, hcd⟩ := Z.own
  obtain ⟨oD, hD1, hD2⟩ : ∃ oD, hh.get? C = some oD ∧ oD.data = .cls cd := by
    unfold clsIn at hcd
    split at hcd
    · rename_i ho
      cases hcd
      exact ⟨_, now _ _ ho, rfl⟩
    · cases hcd
  have step1 := @ks_wpAt_super_base prog w A E ⟨hh, gg, dd, tt, oo⟩ (ksEnv q sc L f (.ref cda) cc) body p0 p1 at_ whole f cda _ _ (ksFn "__init__" q params body sc .none kV doc pm an (.ref cda) ct cc) ar vs file tf Q
    Z.kS Z.kC hat rfl (now _ _ lkF) rfl first rfl (now _ _ lkC) rfl hvs hfile Z.free
  refine step1 (ks_loadName_global Z.kI Z.kS (loadGlobal_builtin (env := ksEnv q sc L f (.ref cda) cc) (gl.keeps Fx.keep) gn (bu.keeps Fx.keep) bn ⟨rfl, ?_⟩))
  refine wpAny_loadName_free Z.kI Z.kC rfl ⟨_, now _ _ lkL, rfl⟩ ?_
  refine wpAny_loadName_local Z.kI loc Fx.ns val ?_
  refine ks_wpAny_isType_cls hD1 hD2 ⟨rfl, ?_⟩
  refine ks_wpAny_call_super hD1 hD2 inst.at_ inst.cls (fun c z => nomatch (show Data.fields _ = Data.cls c from z)) (looks_mroIn now Z.self) fun h' z kk => ?_
  obtain ⟨F2, N2, l2⟩ := ks_newsPush (s := ⟨hh, gg, dd, tt, oo⟩) Fx Nx rfl z kk
  exact k _ _ F2 N2 l2
end
end EX
end DL
namespace DL
namespace EX
open PySem PySem.W PySem.Calls PyProof.Rows L2
section
variable {prog : Program} {w : World} {A : Around} {E : Value → Shared → Prop} {K : Frag} {mg mb m : Str → Option Value} {h₀ : Heap} {C f cda cc L e t0 : Addr} {q : Str} {params : Arguments} {body : List Stmt} {sc : Scope} {s : Shared}
/-- the method of super(), called with values -/
theorem sup_call {es : List Expr} {p0 p1 p2 p3 p4 : Pos} {ar : Arg} {Q : Flow → Shared → Prop} {us : List Value} {pl : Sem Bool} (Z : IniF prog K C f q params body sc cda cc) (Fx : Fr h₀ L s.heap m) (KX : K.In h₀) (Nx : News h₀ L s.heap [(e, excObj C t0 none .none)])
    (gl : h₀.Ns mainGlobals mg) (gn : mg "super" = none) (bu : h₀.Ns builtinsNs mb) (bn : mb "super" = some (.type "super")) (first : (params.posonlyargs ++ params.args).head? = some ar) (loc : sc.names.lookup ar.arg = some .local) (val : m ar.arg = some (.ref e))
    (hz : us.length ≤ sizeLine)
    (args : ∀ (u : Addr) (s1 : Shared), Fr h₀ L s1.heap m → s1.heap.get? u = some (kxs_mw "ValueError.__init__" e) → (∀ Q1 : Value → Shared → Prop, wpAny (model prog w) A (call (.ref u) us) Q1 E s1 → wpAny (model prog w) A (callWith p3 (.ref u) [] (backTo p3 (starEach es (ksEnv q sc L f (.ref cda) cc))) []) Q1 E s1))
    (he : eval (.Call (.Attribute (.Call (.Name "super" p0) [] [] p1) "__init__" p2) es [] p3) (ksEnv q sc L f (.ref cda) cc) = (do
      let ov ← attributeBase (.Call (.Name "super" p0) [] [] p1) "__init__" (ksEnv q sc L f (.ref cda) cc) (eval (.Call (.Name "super" p0) [] [] p1) (ksEnv q sc L f (.ref cda) cc))
      standAt p2.atName
      let (fx, fst) ← holding [ov] (getMethod ov "__init__" pl)
      callWith p3 fx fst (backTo p3 (starEach es (ksEnv q sc L f (.ref cda) cc))) []))
    (hi : interactive (ksEnv q sc L f (.ref cda) cc) = false) (hs : swapsWith (.Call (.Attribute (.Call (.Name "super" p0) [] [] p1) "__init__" p2) es [] p3) none p4.line (ksEnv q sc L f (.ref cda) cc) = pure false)
    (k : ∀ t1 h' tk, Fr h₀ L h' m → News h₀ L h' [(e, excObj C t1 none .none)] → Q .next { s with heap := h', toks := tk }) :
    _root_.PySem.wpAt (model prog w) A (.func body (ksEnv q sc L f (.ref cda) cc)) (exec (supS es p0 p1 p2 p3 p4) (ksEnv q sc L f (.ref cda) cc)) Q E s := by
  have mem0 : (e, excObj C t0 none .none) ∈ [(e, excObj C t0 none .none)] := List.mem_singleton.mpr rfl
  refine ks_wpAt_Expr_any (ks_wpAt_MethodCall (pl := pl) (sup_obj Z Fx KX Nx gl gn bu bn first loc val (InstAt.of_exc0 Nx mem0) (by decide) fun so h1 F1 N1 l1 => ?_) he) hi hs
  have inst1 : InstAt h1 e (excObj C t0 none .none) C none := InstAt.of_exc0 N1 (List.mem_cons_of_mem _ mem0)
  refine kxs_method kxs_ValueError (s := { s with heap := h1 }) F1 KX N1 List.mem_cons_self inst1 Z.opq Z.sup Z.subV (by decide) fun u h2 F2 N2 l2 => ?_
  refine args u _ F2 (N2 _ List.mem_cons_self).1 _ ?_
  have lso := l1 _ mem0
  have lu := l2 _ (List.mem_cons_of_mem _ mem0)
  have U : UpdF e (excObj C t0 none .none) [(u, kxs_mw "ValueError.__init__" e), (so, ks_superObj C e C), (e, excObj C t0 none .none)] (fun o' => [(u, kxs_mw "ValueError.__init__" e), (so, ks_superObj C e C), (e, o')]) :=
    .tail (Ne.symm (Nat.ne_of_lt lu)) (.tail (Ne.symm (Nat.ne_of_lt lso)) (.head fun p hp => nomatch hp))
  refine kxs_call (s := { s with heap := h2, toks := s.toks + 1 }) F2 KX N2 PySem.F.excBase_ValueError Z.big List.mem_cons_self U hz fun t1 h3 F3 N3 l3 => ?_
  exact k t1 h3 _ F3 fun p hp => by
    rw [List.mem_singleton.mp hp]
    exact N3 _ (by simp)
/-- .. with nothing -/
theorem sup_args0 {u : Addr} {p3 : Pos} {env : PySem.Env} {Q1 : Value → Shared → Prop} {s1 : Shared} (hu : s1.heap.get? u = some (kxs_mw "ValueError.__init__" e)) (h : wpAny (model prog w) A (call (.ref u) []) Q1 E s1) : wpAny (model prog w) A (callWith p3 (.ref u) [] (backTo p3 (starEach [] env)) []) Q1 E s1 :=
  kxs_callWith (i := "ValueError.__init__") (x := e) rfl (evalArgs_empty ⟨hu, h⟩)
/-- .. with a name's value -/
theorem sup_args1 {u : Addr} {p3 py : Pos} {y : Str} {v : Value} {env : PySem.Env} {Q1 : Value → Shared → Prop} {s1 : Shared} (hu : s1.heap.get? u = some (kxs_mw "ValueError.__init__" e)) (hk : env.scope.kind = .function) (hl : env.kindOf y = some .local) (hn : s1.heap.Ns env.locals m) (hv : m y = some v) (hd : (y == ("__debug__" : Str)) = false)
    (he : starEach [.Name y py] env = [(false, eval (.Name y py) env)]) (h : wpAny (model prog w) A (call (.ref u) [v]) Q1 E s1) : wpAny (model prog w) A (callWith p3 (.ref u) [] (backTo p3 (starEach [.Name y py] env)) []) Q1 E s1 := by
  rw [he]
  refine kxs_callWith (i := "ValueError.__init__") (x := e) rfl (evalArgs_plain (spliced_cons (wpAny_Name (wpAny_loadName_local hk hl hn hv ?_) hd)))
  exact spliced_nil ⟨hu, h⟩
end
end EX
end DL
namespace DL
namespace EX
open PySem PySem.W PySem.Calls PyProof.Rows L2
/-- the object behind the making: its dict's address, or none -/
abbrev excD (C t1 : Addr) (dx : Option Addr) : Obj := { cls := .ref C, dict := dx, data := .fields #[.ref t1, .none, .none, .none, .bool false, .none] }
section
variable {prog : Program} {w : World} {A : Around} {K : Frag} {mg mb : Str → Option Value} {hp : Heap} {C f cda cc e t0 : Addr} {q sf y : Str} {params : Arguments} {body : List Stmt} {sc : Scope} {g : Array GenState} {d : Drawn} {t : Nat} {os : OsState} {R : Result → Shared → Prop} {h2 : Heap} {v : Value}
  {p0 p1 p2 p3 p4 py p6 p7 p8 p9 : Pos}
/-- what stands when the __init__ begins -/
structure Ini0 (K : Frag) (mg mb : Str → Option Value) (hp h2 : Heap) (C e t0 : Addr) : Prop where
  inK : K.In hp
  gl : hp.Ns mainGlobals mg
  gn : mg "super" = none
  bu : hp.Ns builtinsNs mb
  bn : mb "super" = some (.type "super")
  lim : hp.NoLimit
  kk : ∀ b o, hp.get? b = some o → h2.get? b = some o
  at_ : h2.get? e = some (excObj C t0 none .none)
  new : hp.get? e = none
  siz : hp.objs.size ≤ h2.objs.size
/-- the names that the def binds -/
structure IniP (params : Arguments) (sc : Scope) (sf : Str) (us : List Value) (binds : List (Str × Value)) (fdp : Value → Value → Value → Option Addr → Value → FuncData) (e : Addr) : Prop where
  first : ∃ ar, (params.posonlyargs ++ params.args).head? = some ar ∧ ar.arg = sf
  loc : sc.names.lookup sf = some .local
  bind : ∀ kV doc pm an ct, bindArgs (fdp kV doc pm an ct) ⟨.ref e :: us, []⟩ = pure binds
  val : binds.reverse.lookup sf = some (.ref e)
  cell : ∀ x ∈ sc.names, x.2 ≠ .cell
  locs : ∀ x ∈ binds, sc.names.lookup x.1 = some .local
/-- __init__ runs: what its body leaves -/
theorem ini_run {us : List Value} {binds : List (Str × Value)} (Z : IniF prog K C f q params body sc cda cc) (J : Ini0 K mg mb hp h2 C e t0) (hroom : A.depth < recursionLimit)
    (B : IniP params sc sf us binds (fun kV doc pm an ct => ksFn "__init__" q params body sc .none kV doc pm an (.ref cda) ct cc) e)
    (h : ∀ (A' : Around) (E : Value → Shared → Prop) (L : Addr) (h1 : Heap) (tk : Nat) (P : Flow → Shared → Prop), Fr hp L h1 (fun x => binds.reverse.lookup x) → News hp L h1 [(e, excObj C t0 none .none)] →
      (∀ fl s', P fl s' ↔ R (.ok (.ret (match fl with | .ret u => u | _ => .none))) s') →
      _root_.PySem.wpAt (model prog w) A' (.func body (ksEnv q sc L f (.ref cda) cc)) (execs body (ksEnv q sc L f (.ref cda) cc)) P E ⟨h1, g, d, tk, os⟩) :
    codeAny (model prog w) A (.call (.ref f) ⟨.ref e :: us, []⟩) R ⟨h2, g, d, t, os⟩ := by
  obtain ⟨oc, od, osl, kV, doc, pm, an, ct, lkF⟩ := Z.fn
  have in2 : K.In h2 := J.inK.keeps J.kk
  refine ks_codeAny_call_defAt (s := ⟨h2, g, d, t, os⟩) (body := body) (binds := binds) hroom (in2 _ _ lkF) rfl (J.lim.keeps J.kk) (codeRec_of in2 Z.named) rfl (BindsTo.of_eq (B.bind kV doc pm an ct)) B.cell B.locs (fun h1 hn hk => ?_) Z.co Z.gen Z.kI
  refine h _ _ h2.objs.size h1 _ _ ⟨hn, fun b o z => hk b o (J.kk b o z), J.siz⟩ (fun p hp' => ?_) fun fl s' => Iff.rfl
  rw [List.mem_singleton.mp hp']
  exact ⟨hk _ _ J.at_, Nat.ne_of_lt (Heap.lt_size J.at_), J.new⟩
/-- super().__init__() alone -/
theorem ini_zero (Z : IniF prog K C f q params [supS [] p0 p1 p2 p3 p4] sc cda cc) (J : Ini0 K mg mb hp h2 C e t0) (hroom : A.depth < recursionLimit)
    (B : IniP params sc sf [] [(sf, .ref e)] (fun kV doc pm an ct => ksFn "__init__" q params [supS [] p0 p1 p2 p3 p4] sc .none kV doc pm an (.ref cda) ct cc) e) (he : ∀ L : Addr, ∃ pl : Sem Bool, eval (.Call (.Attribute (.Call (.Name "super" p0) [] [] p1) "__init__" p2) [] [] p3) (ksEnv q sc L f (.ref cda) cc) = (do
      let ov ← attributeBase (.Call (.Name "super" p0) [] [] p1) "__init__" (ksEnv q sc L f (.ref cda) cc) (eval (.Call (.Name "super" p0) [] [] p1) (ksEnv q sc L f (.ref cda) cc))
      standAt p2.atName
      let (fx, fst) ← holding [ov] (getMethod ov "__init__" pl)
      callWith p3 fx fst (backTo p3 (starEach [] (ksEnv q sc L f (.ref cda) cc))) []))
    (k : ∀ h3 tk t1, (∀ b o, hp.get? b = some o → h3.get? b = some o) → h3.get? e = some (excD C t1 none) → R (.ok (.ret .none)) ⟨h3, g, d, tk, os⟩) :
    codeAny (model prog w) A (.call (.ref f) ⟨[.ref e], []⟩) R ⟨h2, g, d, t, os⟩ := by
  refine ini_run (us := []) Z J hroom B fun A' E L h1 tk P F1 N1 hP => ?_
  obtain ⟨ar, hfirst, rfl⟩ := B.first
  obtain ⟨pl, hpl⟩ := he L
  refine ks_wpAt_execs_cons (sup_call (s := ⟨h1, g, d, tk, os⟩) (us := []) Z F1 J.inK N1 J.gl J.gn J.bu J.bn hfirst B.loc B.val (Nat.zero_le _) (fun u s1 _ hu Q1 z => sup_args0 hu z) hpl (by unfold interactive; simp [Z.kI]) rfl fun t1 h3 tk3 F3 N3 => ?_)
  refine wpAt_of_wpAny (wpAny_execs_nil ((hP _ _).mpr ?_))
  exact k h3 tk3 t1 F3.keep (N3 _ List.mem_cons_self).1
/-- super().__init__(y), and self.y = y -/
theorem ini_one (Z : IniF prog K C f q params [supS [.Name y py] p0 p1 p2 p3 p4, .Assign [.Attribute (.Name sf p6) y p7] (.Name y p8) p9] sc cda cc) (J : Ini0 K mg mb hp h2 C e t0) (hroom : A.depth < recursionLimit)
    (B : IniP params sc sf [v] [(sf, .ref e), (y, v)] (fun kV doc pm an ct => ksFn "__init__" q params [supS [.Name y py] p0 p1 p2 p3 p4, .Assign [.Attribute (.Name sf p6) y p7] (.Name y p8) p9] sc .none kV doc pm an (.ref cda) ct cc) e)
    (he : ∀ L : Addr, ∃ pl : Sem Bool, eval (.Call (.Attribute (.Call (.Name "super" p0) [] [] p1) "__init__" p2) [.Name y py] [] p3) (ksEnv q sc L f (.ref cda) cc) = (do
      let ov ← attributeBase (.Call (.Name "super" p0) [] [] p1) "__init__" (ksEnv q sc L f (.ref cda) cc) (eval (.Call (.Name "super" p0) [] [] p1) (ksEnv q sc L f (.ref cda) cc))
      standAt p2.atName
      let (fx, fst) ← holding [ov] (getMethod ov "__init__" pl)
      callWith p3 fx fst (backTo p3 (starEach [.Name y py] (ksEnv q sc L f (.ref cda) cc))) []))
    (ly : sc.names.lookup y = some .local) (vy : List.lookup y [(y, v), (sf, .ref e)] = some v) (dy : (y == ("__debug__" : Str)) = false) (ds : (sf == ("__debug__" : Str)) = false) (hno : findIn K (.ref C) y = some none)
    (k : ∀ h3 tk t1 dx, (∀ b o, hp.get? b = some o → h3.get? b = some o) → h3.get? e = some (excD C t1 (some dx)) → hp.objs.size ≤ dx → dx ≠ e → h3.Ns1 dx (fun z => if z = y then some v else none) → R (.ok (.ret .none)) ⟨h3, g, d, tk, os⟩) :
    codeAny (model prog w) A (.call (.ref f) ⟨[.ref e, v], []⟩) R ⟨h2, g, d, t, os⟩ := by
  refine ini_run (us := [v]) Z J hroom B fun A' E L h1 tk P F1 N1 hP => ?_
  obtain ⟨ar, hfirst, rfl⟩ := B.first
  obtain ⟨pl, hpl⟩ := he L
  refine ks_wpAt_execs_cons (sup_call (s := ⟨h1, g, d, tk, os⟩) (us := [v]) Z F1 J.inK N1 J.gl J.gn J.bu J.bn hfirst B.loc B.val (by show 1 ≤ sizeLine; rw [sizeLine_eq]; omega)
    (fun u s1 Fu hu Q1 z => sup_args1 hu Z.kI ly Fu.ns vy dy rfl z) hpl (by unfold interactive; simp [Z.kI]) rfl fun t1 h3 tk3 F3 N3 => ?_)
  refine ks_wpAt_execs_cons (ks_wpAt_Assign_Attr ?_ rfl)
  refine wpAt_of_wpAny (wpAny_Name (wpAny_loadName_local Z.kI ly F3.ns vy ?_) dy)
  refine wpAny_Name (wpAny_loadName_local Z.kI B.loc F3.ns B.val ?_) ds
  have in3 : K.In h3 := J.inK.keeps F3.keep
  obtain ⟨nm, q', N', bs, bm, sn, sub, ab, col, dd, k0, k1, k2, k3, k5, hC, hbm⟩ := Z.cls.cls
  have hcl : clsIn K C = some { name := nm, bases := bs, mro := .ref C :: bm, ns := N', qualname := q', hasDict := true, slotNames := sn, subclasses := sub, abstract := ab, collection := col, hasDel := false } := by
    unfold clsIn
    rw [hC]
  have at3 : h3.get? e = some (excObj C t1 none .none) := (N3 _ List.mem_cons_self).1
  refine set_plain (s := ⟨h3, g, d, tk3, os⟩) in3 (InstAt.of_exc0 N3 List.mem_cons_self) Z.cls.sa ?_
  refine PySem.HandSPX.exc_osa in3 at3 hcl (show PySem.HandSPX.refsVE (.ref C :: bm) = true from hbm) rfl hno fun h4 tk4 dx kk dn dne hx hn => ?_
  refine wpAt_of_wpAny (wpAny_execs_nil ((hP _ _).mpr ?_))
  have nE : ∀ b o, hp.get? b = some o → b ≠ e := fun b o z z2 => by rw [z2, J.new] at z; cases z
  refine k h4 tk4 t1 dx (fun b o z => kk b o (nE b o z) (F3.keep b o z)) hx (Nat.le_trans ?_ dn) dne hn
  exact Nat.le_trans F3.above (Nat.le_of_lt (by obtain ⟨_, _, _, z, _⟩ := F3.ns; exact Heap.lt_size z))
end
end EX
end DL
namespace DL
namespace EX
open PySem PySem.W PySem.Calls PyProof.Rows L2 PySem.Spec
/-- such a class, by how many values its __init__ takes, and by which field it keeps -/
structure Ec0 (P : Program) (K : Frag) (C : Addr) : Prop where
  cls : OexC K C
  run : ∀ (w : World) (A : Around) (mg mb : Str → Option Value) (hp h2 : Heap) (e t0 : Addr) (g : Array GenState) (d : Drawn) (t : Nat) (os : OsState) (R : Result → Shared → Prop), Ini0 K mg mb hp h2 C e t0 → A.depth < recursionLimit →
    (∀ h3 tk t1, (∀ b o, hp.get? b = some o → h3.get? b = some o) → h3.get? e = some (excD C t1 none) → R (.ok (.ret .none)) ⟨h3, g, d, tk, os⟩) →
    ∀ f, findIn K (.ref C) "__init__" = some (some (.ref f)) → codeAny (model P w) A (.call (.ref f) ⟨[.ref e], []⟩) R ⟨h2, g, d, t, os⟩
  ini : ∃ f, findIn K (.ref C) "__init__" = some (some (.ref f)) ∧ typeIn K (.ref f) = some (.type "function")
structure Ec1 (P : Program) (K : Frag) (C : Addr) (y : Str) : Prop where
  cls : OexC K C
  run : ∀ (w : World) (A : Around) (mg mb : Str → Option Value) (hp h2 : Heap) (e t0 : Addr) (g : Array GenState) (d : Drawn) (t : Nat) (os : OsState) (R : Result → Shared → Prop) (v : Value), Ini0 K mg mb hp h2 C e t0 → A.depth < recursionLimit →
    (∀ h3 tk t1 dx, (∀ b o, hp.get? b = some o → h3.get? b = some o) → h3.get? e = some (excD C t1 (some dx)) → hp.objs.size ≤ dx → dx ≠ e → h3.Ns1 dx (fun z => if z = y then some v else none) → R (.ok (.ret .none)) ⟨h3, g, d, tk, os⟩) →
    ∀ f, findIn K (.ref C) "__init__" = some (some (.ref f)) → codeAny (model P w) A (.call (.ref f) ⟨[.ref e, v], []⟩) R ⟨h2, g, d, t, os⟩
  ini : ∃ f, findIn K (.ref C) "__init__" = some (some (.ref f)) ∧ typeIn K (.ref f) = some (.type "function")
/-- C() and C(e) -/
def tMk0 (C : Addr) : L2.St → Hp → XK → Prop := fun σ H Q => Q (.ref C) none H
def tMk1 (C : Addr) (y : Str) (te : TE) : L2.St → Hp → XK → Prop := fun σ H Q => te σ H fun v H1 => ∀ d, H1 d = none → Q (.ref C) (some d) (upd H1 d (.xd [(y, v)]))
section
variable {X : Cx} {C : Addr} {x y : Str} {p pos : Pos} {e : Expr} {te : TE}
theorem boot_super : bootBuiltins "super" = some (.type "super") := by decide +kernel
/-- what call_own leaves ahead of __init__ -/
theorem ini0_of {pins : List (Addr × Obj)} {σ : L2.St} {H : Hp} {hp : Heap} {g : Array GenState} {d : Drawn} {t : Nat} {os : OsState} {us : List Value} (I : Inv X pins σ H ⟨hp, g, d, t, os⟩) (gs : X.mg "super" = none) :
    ∃ mb, Ini0 X.K X.mg mb hp ((hp.push (kdv_tup us)).push (PySem.HandSPX.excO C hp.objs.size)) C (hp.objs.size + 1) hp.objs.size := by
  obtain ⟨mb, hb, hbb⟩ := I.ok.mod.blt
  refine ⟨mb, I.kIn, I.ok.mod.glob.keeps I.bk, gs, hb.keeps I.bk, ?_, I.nolimit, fun b o z => Heap.get?_push_of_some _ (Heap.get?_push_of_some _ z), by heap_get, ?_, ?_⟩
  · rw [hbb _ (by decide)]
    exact boot_super
  · cases z : hp.get? (hp.objs.size + 1) with
    | none => rfl
    | some o => exact absurd (Heap.lt_size z) (Nat.not_lt.mpr (Nat.le_succ _))
  · rw [Heap.size_push, Heap.size_push]
    omega
theorem pmk_zero {k : Nat} (T : Ec0 X.prog X.K C) (hr : Room (k + 1) X.A) (gs : X.mg "super" = none) (hg : Gl X x) (hm : X.mg x = some (.ref C)) (hdb : (x == ("__debug__" : Str)) = false := by decide) (he : starEach [] X.env = [] := by rfl) :
    PMk X (.Call (.Name x p) [] [] pos) (tMk0 C) := by
  intro pins s σ H Q I h
  obtain ⟨nm, q, N, bs, bm, sn, sub, ab, col, dd, k0, k1, k2, k3, k5, hC, hbm⟩ := T.cls.cls
  obtain ⟨fI, iC, tI⟩ := T.ini
  obtain ⟨hp, g, dr, tk, os⟩ := s
  refine wpAny_Call_Name_kw (ld_glob I hg hm ?_ hdb)
  refine callWith_K0 I.kIn T.cls.kC ?_
  obtain ⟨mb, J⟩ := ini0_of (C := C) (us := []) I gs
  refine wpAny_call (PySem.HandSPX.call_own PySem.F.excBase_ValueError (fun Y => PySem.HandSPX.refsVE_contains Y bm hbm) (I.kIn _ _ hC) (looks_findIn I.kIn iC) (fun self => bind_fn I.kIn self tI) (Nat.zero_le _) ?_)
  refine T.run _ _ _ _ _ _ _ _ _ _ _ _ _ J (hr.make C [] []).depth (fun h3 tk3 t1 kk at3 => ?_) fI iC
  refine ⟨rfl, ?_⟩
  refine ⟨hp.objs.size + 1, _, _, ⟨hp, g, dr, tk3, os⟩, H, .ref C, none, rfl, I.tok tk3, kk, J.new, at3, ⟨rfl, rfl⟩, rfl, rfl, I.hok.fresh (by show hp.objs.size ≤ _; omega), rfl, I.bare, raises_own T.cls.exC T.cls.tyC, h⟩
theorem pmk_one {k : Nat} (T : Ec1 X.prog X.K C y) (hr : Room (k + 1) X.A) (gs : X.mg "super" = none) (hg : Gl X x) (hm : X.mg x = some (.ref C)) (ha : PE X e te) (hdb : (x == ("__debug__" : Str)) = false := by decide)
    (he : starEach [e] X.env = (false, eval e X.env) :: starEach [] X.env := by rfl) (hpl : (backTo pos (starEach [] X.env)).any (·.1) = false := by rfl) : PMk X (.Call (.Name x p) [e] [] pos) (tMk1 C y te) := by
  intro pins s σ H Q I h
  obtain ⟨nm, q, N, bs, bm, sn, sub, ab, col, dd, k0, k1, k2, k3, k5, hC, hbm⟩ := T.cls.cls
  obtain ⟨fI, iC, tI⟩ := T.ini
  refine wpAny_Call_Name_kw (ld_glob I hg hm ?_ hdb)
  refine callWith_K (h₀ := X.base) I.ok.mod.kin T.cls.kC ?_ he hpl
  rw [he]
  refine spliced_cons (thn (ha.run pins _ σ H _ I h) fun u s1 ⟨v, H1, I1, rv, q1⟩ => spliced_nil ⟨I1.kIn, ?_⟩)
  obtain ⟨hp, g, dr, tk, os⟩ := s1
  obtain ⟨mb, J⟩ := ini0_of (C := C) (us := [u]) I1 gs
  refine wpAny_call (PySem.HandSPX.call_own PySem.F.excBase_ValueError (fun Y => PySem.HandSPX.refsVE_contains Y bm hbm) (I1.kIn _ _ hC) (looks_findIn I1.kIn iC) (fun self => bind_fn I1.kIn self tI) (by show 1 ≤ sizeLine; rw [sizeLine_eq]; omega) ?_)
  refine T.run _ _ _ _ _ _ _ _ _ _ _ _ _ u J (hr.make C [u] []).depth (fun h3 tk3 t1 dx kk at3 dn dne hns => ?_) fI iC
  refine ⟨rfl, ?_⟩
  obtain ⟨G, g1, g2⟩ := restrict h3 fun b => decide (b ≠ hp.objs.size + 1)
  have gk : ∀ b, b ≠ hp.objs.size + 1 → G.get? b = h3.get? b := fun b hb => g1 b (decide_eq_true hb)
  have ge : G.get? (hp.objs.size + 1) = none := g2 _ (by simp)
  have hd1 : H1 dx = none := I1.hok.fresh dn
  have nE : ∀ b o, hp.get? b = some o → b ≠ hp.objs.size + 1 := fun b o z z2 => by rw [z2, J.new] at z; cases z
  have ok : ObjOk X.prog X.w (upd H1 dx (.xd [(y, v)])) G dx (.xd [(y, v)]) := ⟨_, hns.at fun o z => (gk dx dne).trans z, relO_put (fs := []) rv fun _ => True.intro⟩
  have I2 : Inv X pins σ (upd H1 dx (.xd [(y, v)])) ⟨G, g, dr, tk3, os⟩ := I1.laid (t' := tk3) (fun b o z => (gk b (nE b o z)).trans (kk b o z)) dn ok
  refine ⟨hp.objs.size + 1, _, _, ⟨G, g, dr, tk3, os⟩, _, .ref C, some dx, rfl, I2, fun b o z => ?_, ge, at3, ⟨rfl, rfl⟩, rfl, rfl, ?_, rfl, I1.bare, raises_own T.cls.exC T.cls.tyC, q1 dx hd1⟩
  · rw [← gk b (fun z2 => by rw [z2, ge] at z; cases z)]
    exact z
  · rw [upd_ne (Ne.symm dne)]
    exact I1.hok.fresh (by show hp.objs.size ≤ _; omega)
end
end EX
end DL
namespace DL
open PySem L2 PySem.Spec PyProof.Rows
/-- the state at the law's call: the script alone is tracked, or nothing is -/
structure Call0 (P : Program) (w : World) (K : PySem.W.Frag) (s : Shared) (a : Addr) (ns : List Int) (H : Hp) : Prop where
  only : Only H
  sql : SqL K H a (ns.map V.int)
  hok : HOk P w H s.heap
  just : ∀ b, b ≠ a → H b = none
  free : H a ≠ none → K.lookup a = none
theorem call0 {P : Program} {w : World} {K : PySem.W.Frag} {s : Shared} {a : Addr} {vs : List Value} {ns : List Int} (inK : K.In s.heap) (ha : s.heap.get? a = some { cls := .type "list", data := .seq vs.toArray }) (hi : IntsAre vs ns) (hl : ns.length ≤ sizeLine) : ∃ H, Call0 P w K s a ns H := by
  have vv := vals_ints hi
  cases hk : K.lookup a with
  | some ob =>
    have e := inK a ob hk
    rw [ha] at e
    cases e
    refine ⟨fun _ => none, fun _ => .inl rfl, .inr ⟨_, vs.toArray, _, hk, rfl, rfl, rfl, ?_, by simpa using vv⟩, fun b u z => ?_, fun _ _ => rfl, fun z => absurd rfl z⟩
    · rw [List.size_toArray, hi.length]; exact hl
    · exact nomatch (show (none : Option HO) = some u from z)
  | none =>
    have at_ : ∀ {b : Addr}, b = a → (if b = a then some (HO.frz { cls := .type "list", data := .seq vs.toArray } (.lst (ns.map V.int))) else none) = some (HO.frz { cls := .type "list", data := .seq vs.toArray } (.lst (ns.map V.int))) := fun e => if_pos e
    have off : ∀ {b : Addr}, b ≠ a → (if b = a then some (HO.frz { cls := .type "list", data := .seq vs.toArray } (.lst (ns.map V.int))) else none) = none := fun e => if_neg e
    refine ⟨fun b => if b = a then some (.frz { cls := .type "list", data := .seq vs.toArray } (.lst (ns.map V.int))) else none, fun b => ?_, .inl (.inr ⟨_, at_ rfl⟩), fun b u z => ?_, fun b e => off e, fun _ => hk⟩
    · by_cases e : b = a
      · exact .inr ⟨_, _, at_ e⟩
      · exact .inl (off e)
    · by_cases e : b = a
      · have z1 := (at_ e).symm.trans z
        cases z1
        subst e
        exact ⟨ha, by rw [List.length_map]; exact hl, vs, _, vv, ha⟩
      · exact nomatch ((off e).symm.trans z)
theorem law_run {P : Program} {w : World} {K : PySem.W.Frag} {mg mb : Str → Option Value} {f a : Addr} {s : Shared} {vs : List Value} {ns : List Int}
    (inK : K.In s.heap) (gl : s.heap.Ns mainGlobals mg) (bn : s.heap.Ns builtinsNs mb) (bb : ∀ x : Str, x ≠ "__name__" → mb x = bootBuiltins x) (lim : s.heap.NoLimit) (gn : s.gens = #[])
    (ha : s.heap.get? a = some { cls := .type "list", data := .seq vs.toArray }) (hi : IntsAre vs ns) (hm : ns.length ≤ most) (F : ∀ base : Heap, K.In base → base.Ns mainGlobals mg → FnL P w K mg base f) :
    codeAny (model P w) callerA (.call (.ref f) ⟨[.ref a], []⟩) (fun r s' => r = .ok (.ret (.bool true)) ∧ OldK s.heap s'.heap ∧ s'.os = s.os ∧ AllBare s'.gens) s := by
  obtain ⟨H, c⟩ := call0 (P := P) (w := w) inK ha hi (most_le hm)
  have hid : ∀ {b : Addr} {ob : Obj}, s.heap.get? b = some ob → H b = none → (hidT s.heap H).get? b = some ob := fun e n => hidT_get e n
  have there : ∀ {b : Addr} {ob : Obj}, b ≠ a → s.heap.get? b = some ob → (hidT s.heap H).get? b = some ob := fun ne e => hid e (c.just _ ne)
  have ns_ : ∀ {b : Addr} {m : Str → Option Value}, s.heap.Ns b m → (hidT s.heap H).Ns b m := fun {b m} ⟨ob, es, ep, e, d, r⟩ => by
    refine ⟨ob, es, ep, there (fun z => ?_) e, d, r⟩
    subst z
    rw [ha] at e
    cases e
    exact nomatch (show Data.seq vs.toArray _ = Data.dict es ep from d)
  have inB : K.In (hidT s.heap H) := fun b ob e => hid (inK b ob e) (by
    by_cases z : b = a
    · subst z
      cases q : H b with
      | none => rfl
      | some u => rw [c.free (by rw [q]; exact fun z => nomatch z)] at e; cases e
    · exact c.just b z)
  have env : Env0 P w K mg (hidT s.heap H) callerA [] s H :=
    ⟨rfl, ⟨inB, ns_ gl, ⟨mb, ns_ bn, bb⟩, lim.elim fun mc h => ⟨mc, ns_ h.1, h.2⟩⟩, fun b ob e => of_hidT e, Nat.le_of_eq (hidT_size _ _), trivial, (fun b hb => absurd (show b ∈ ([] : List Addr) from hb) (by simp)), c.hok, .of_eq gn⟩
  refine codeAny_mono ((F _ inB (ns_ gl)).run s H a ns env hm c.sql) fun r s' hh => ?_
  cases r with
  | error e => exact hh.elim
  | ok fl =>
    cases fl with
    | ret u =>
      obtain ⟨v, H', hos, bare, un, hok', rv, e⟩ := hh
      subst e
      have e2 : u = Value.bool true := rv
      subst e2
      refine ⟨rfl, OldK.of_keep fun b ob e => ?_, hos, bare⟩
      cases q : H b with
      | none => exact un.keep b ob e q (fun z => absurd (show b ∈ ([] : List Addr) from z) (by simp)) (by simp)
      | some u =>
        rcases c.only b with z | ⟨ox, xs, z⟩
        · rw [q] at z; cases z
        · have old := (c.hok b _ z).1
          rw [e] at old
          cases old
          exact (hok' b _ (un.frzs b _ _ z)).1
    | next => exact hh.elim
    | brk => exact hh.elim
    | cont => exact hh.elim
theorem walk_law {l : PySem.W.OpenLaw} {n : Nat} {q : Program} {loose : List Str} {XP : (Str → Option Value) → Heap → Prop} {YP : World → Heap → Prop} {d : DefRec} (hn : l.most = some n) (hn2 : n ≤ most) (hdf : d.params.defaults = [])
    (F : ∀ (w : World) (mg : Str → Option Value) (f : Addr) (h : Heap), YP w h → h.Ns mainGlobals mg → mg d.name = some (.ref f) → ∃ K : PySem.W.Frag, K.In h ∧ ∀ base : Heap, K.In base → base.Ns mainGlobals mg → FnL l.prog w K mg base f) :
    PySem.W.WalkO q loose XP YP l.row.toRowW d [] (fun f vs => PySem.call f vs) := by
  refine Att.attach_call hn hdf fun w s₀ s mg mb f ob pm cd doc a vs ns G Y _ _ _ hmg hobj hints hlen hg => ?_
  obtain ⟨K, inK, hF⟩ := F w mg f _ Y G.T.g hmg
  exact law_run inK G.T.g G.T.b G.T.builtins G.T.nolimit hg hobj hints (Nat.le_trans hlen hn2) hF
end DL
namespace DL
open PySem L2 PySem.Spec PyProof.Rows
/-- a def known by its name -/
def Kn (P : Program) (w : World) (K : PySem.W.Frag) (mg : Str → Option Value) (base : Heap) (k : Nat) (x : Str) (ps : List Str) (S : Spec) : Prop :=
  ∃ f fd, FnG IsLst P w K mg base k f fd ps S ∧ mg x = some (.ref f) ∧ PySem.W.keepIn K (.ref f) = true ∧ Binds K fd ps []
def KnK (P : Program) (w : World) (K : PySem.W.Frag) (mg : Str → Option Value) (base : Heap) (k : Nat) (x : Str) (ps ks : List Str) (is : List Nat) (S : Spec) : Prop :=
  ∃ f fd, FnG IsLst P w K mg base k f fd ps S ∧ mg x = some (.ref f) ∧ PySem.W.keepIn K (.ref f) = true ∧ KwB K fd ps ks is
theorem Kn.up {P : Program} {w : World} {K : PySem.W.Frag} {mg : Str → Option Value} {base : Heap} {j k : Nat} {x : Str} {ps : List Str} {S : Spec} (h : Kn P w K mg base j x ps S) (l : j ≤ k) : Kn P w K mg base k x ps S :=
  let ⟨f, fd, h1, h2⟩ := h
  ⟨f, fd, h1.up l, h2⟩
theorem KnK.up {P : Program} {w : World} {K : PySem.W.Frag} {mg : Str → Option Value} {base : Heap} {j k : Nat} {x : Str} {ps ks : List Str} {is : List Nat} {S : Spec} (h : KnK P w K mg base j x ps ks is S) (l : j ≤ k) : KnK P w K mg base k x ps ks is S :=
  let ⟨f, fd, h1, h2⟩ := h
  ⟨f, fd, h1.up l, h2⟩
section
variable {X : Cx} {c : C} {k : Nat} {ps : List Str} {S : Spec}
theorem v_callX {x : Str} {p pos : Pos} {e : Expr} {es : List Expr} {fa : SA} (F : Kn X.prog X.w X.K X.mg X.base k x ps S) (hG : IsLst c) (hgd : X.A.guards = some []) (hr : Room k X.A) (ha : PAd X c (e :: es) fa)
    (hg : Gl X x := by rfl) (hdb : (x == ("__debug__" : Str)) = false := by decide) (he : starEach (e :: es) X.env = (false, eval e X.env) :: starEach es X.env := by rfl) (hpl : (backTo pos (starEach es X.env)).any (·.1) = false := by rfl) :
    PV X c (.Call (.Name x p) (e :: es) [] pos) (fCall S fa) := by
  obtain ⟨f, fd, h1, h2, h3, h4⟩ := F
  exact v_call h1 hG.up hgd hr h2 h3 h4 ha hg hdb he hpl
theorem v_callKX {x : Str} {p pos : Pos} {kws : List Keyword} {ks : List Str} {is : List Nat} {fa : SA} (F : KnK X.prog X.w X.K X.mg X.base k x ps ks is S) (hG : IsLst c) (hgd : X.A.guards = some []) (hr : Room k X.A) (ha : PKd X c kws fa)
    (hn : kws.length = ks.length := by rfl) (hg : Gl X x := by rfl) (hdb : (x == ("__debug__" : Str)) = false := by decide) (hall : (backToKw pos (keywordEach kws X.env)).all (·.1.isSome) = true := by rfl) (hks : (backToKw pos (keywordEach kws X.env)).filterMap (·.1) = ks := by rfl)
    (hpl : ((backTo pos (starEach [] X.env)).any (·.1) || (backToKw pos (keywordEach kws X.env)).any (·.1.isNone)) = false := by rfl) :
    PV X c (.Call (.Name x p) [] kws pos) (fCallK S is fa) := by
  obtain ⟨f, fd, h1, h2, h3, h4⟩ := F
  exact v_callK h1 hG.up hgd hr h2 h3 h4 ha hn hg hdb hall hks hpl
/-- freeze, whether it is one's own or shared already -/
def fFrz (i : Nat) (f : SS) : SS := fun D ρ => match lk ρ i with | .ow ds => f D (ρ.set i (.sh (.list ds))) | .sh _ => f D ρ | _ => False
theorem s_frz (i : Nat) {st : Stmt} {f : SS} (h : PSd X c st f) : PSd X c st (fFrz i f) := by
  have h2 := s_freeze i h
  refine ⟨fun D D' ρ l q => ?_, ⟨fun pins s σ H D I ⟨B, ρ, ok, q⟩ => ?_⟩⟩
  · unfold fFrz at q ⊢
    split at q <;> first | exact q.elim | exact h.mono _ _ _ l q
  · unfold fFrz at q
    cases e : lk ρ i with
    | ow ds =>
      rw [e] at q
      refine h2.ps.run pins s σ H D I ⟨B, ρ, ok, ?_⟩
      unfold fFreeze
      rw [e]; exact q
    | sh d =>
      rw [e] at q
      exact h.ps.run pins s σ H D I ⟨B, ρ, ok, q⟩
    | un => rw [e] at q; exact q.elim
    | bg => rw [e] at q; exact q.elim
    | ex x => rw [e] at q; exact q.elim
end
/-! ### specs -/
/-- n arguments; what they must be; what comes back -/
def sp (n : Nat) (pre : List Sl → Prop) (R : List Sl → D → Prop) : Spec := fun ss Q => ss.length = n ∧ pre ss ∧ ∀ d, R ss d → Q d
theorem sp_mono {n : Nat} {pre : List Sl → Prop} {R : List Sl → D → Prop} : ∀ ss (Q Q' : D → Prop), (∀ d, Q d → Q' d) → sp n pre R ss Q → sp n pre R ss Q' := fun ss Q Q' k h => ⟨h.1, h.2.1, fun d r => k d (h.2.2 d r)⟩
theorem sp_len {n : Nat} {pre : List Sl → Prop} {R : List Sl → D → Prop} : ∀ ss (Q : D → Prop), sp n pre R ss Q → ss.length = n := fun ss Q h => h.1
/-! ### reading what a suite does -/
theorem at0 {α : Type} (a : α) (r : List α) : atI (a :: r) 0 = some a := by
  unfold atI ixN
  rw [if_pos (by omega), if_pos (by rw [List.length_cons]; omega)]
  rfl
theorem at1 {α : Type} (a b : α) (r : List α) : atI (a :: b :: r) 1 = some b := by
  unfold atI ixN
  rw [if_pos (by omega), if_pos (by rw [List.length_cons, List.length_cons]; omega)]
  rfl
theorem at2 {α : Type} (a b c : α) (r : List α) : atI (a :: b :: c :: r) 2 = some c := by
  unfold atI ixN
  rw [if_pos (by omega), if_pos (by simp only [List.length_cons]; omega)]
  rfl
theorem at3 {α : Type} (a b c d : α) (r : List α) : atI (a :: b :: c :: d :: r) 3 = some d := by
  unfold atI ixN
  rw [if_pos (by omega), if_pos (by simp only [List.length_cons]; omega)]
  rfl
theorem at4 {α : Type} (a b c d e : α) (r : List α) : atI (a :: b :: c :: d :: e :: r) 4 = some e := by
  unfold atI ixN
  rw [if_pos (by omega), if_pos (by simp only [List.length_cons]; omega)]
  rfl
theorem ix0 (n : Nat) : ixN (n + 1) 0 = some 0 := by
  unfold ixN
  rw [if_pos (by omega), if_pos (by omega)]; rfl
theorem ix1 (n : Nat) : ixN (n + 2) 1 = some 1 := by
  unfold ixN
  rw [if_pos (by omega), if_pos (by omega)]; rfl
theorem ix2 (n : Nat) : ixN (n + 3) 2 = some 2 := by
  unfold ixN
  rw [if_pos (by omega), if_pos (by omega)]; rfl
theorem ix3 (n : Nat) : ixN (n + 4) 3 = some 3 := by
  unfold ixN
  rw [if_pos (by omega), if_pos (by omega)]; rfl
theorem lg2 : ((2 : Int).natAbs.log2 < 9000) = True := eq_true (by decide)
theorem lk_z (s : Sl) (r : Env) : lk (s :: r) 0 = s := rfl
theorem lk_s (s : Sl) (r : Env) (i : Nat) : lk (s :: r) (i + 1) = lk r i := rfl
theorem ifS {f g : SS} {b : Bool} {D : En} {ρ : Env} (h1 : b = true → f D ρ) (h2 : b = false → g D ρ) : (if b = true then f D ρ else g D ρ) := by
  cases b with
  | true => exact h1 rfl
  | false => exact h2 rfl
/-- if x == '..': .. , not taken -/
theorem skip_str {i : Nat} {x y : Str} {A B : SS} {E : En} {ρ : Env} (h : lk ρ i = .sh (.str y)) (ne : ¬ y = x) (k : B E ρ) : fSeqS (fIfS (fCmp gEq (fN i) (fC (.str x))) A fNext) B E ρ := by
  simp only [fSeqS, fIfS, fCmp, fN, h, fC, gEq, decide_eq_false ne, fNext]
  rw [if_neg (by decide)]
  exact k
theorem take_str {i : Nat} {x : Str} {A B : SS} {E : En} {ρ : Env} (h : lk ρ i = .sh (.str x)) (k : A { E with nx := B E } ρ) : fSeqS (fIfS (fCmp gEq (fN i) (fC (.str x))) A fNext) B E ρ := by
  simp only [fSeqS, fIfS, fCmp, fN, h, fC, gEq, decide_true, if_true]
  exact k
/-- a loop by an invariant: m falls -/
theorem while_of {t : ST} {body : SS} {E : En} (I : Nat → Env → Prop) (turn : ∀ m ρ, I m ρ → ∀ K : Env → Prop, (∀ m' ρ', m' < m → I m' ρ' → K ρ') → t ρ fun b => if b = true then body (loopE K E) ρ else E.nx ρ) (m : Nat) (ρ : Env) (h : I m ρ) : fWhile t body E ρ := by
  have key : ∀ n m ρ, m < n → I m ρ → fWhN t body n E ρ := by
    intro n
    induction n with
    | zero => intro m ρ l; omega
    | succ n ih => exact fun m ρ l h => turn m ρ h (fWhN t body n E) fun m' ρ' l' h' => ih m' ρ' (by omega) h'
  exact ⟨m + 1, key (m + 1) m ρ (Nat.lt_succ_self m) h⟩
/-- a for by an invariant of what is left -/
theorem for_of {g : GT} {body : SS} {E : En} (I : List D → Env → Prop) (turn : ∀ d ds ρ, I (d :: ds) ρ → ∀ K : Env → Prop, (∀ ρ', I ds ρ' → K ρ') → g d ρ fun ρ' => body (loopE K E) ρ') (last : ∀ ρ, I [] ρ → E.nx ρ) : ∀ ds ρ, I ds ρ → fFor g body ds E ρ
  | [], ρ, h => last ρ h
  | d :: ds, ρ, h => turn d ds ρ h (fFor g body ds E) fun ρ' h' => for_of I turn last ds ρ' h'
theorem rng_succ (lo : Int) (n : Nat) : rng lo (n + 1) = .int lo :: rng (lo + 1) n := by
  unfold rng
  rw [List.range_succ_eq_map, List.map_cons, List.map_map]
  congr 1
  · simp
  · refine List.map_congr_left fun i _ => ?_
    simp only [Function.comp]
    congr 1
    omega
/-- a for over a range -/
theorem for_rng {g : GT} {body : SS} {E : En} (I : Int → Env → Prop) : ∀ (n : Nat) (lo : Int) (ρ : Env), (∀ i ρ, lo ≤ i → i < lo + n → I i ρ → ∀ K : Env → Prop, (∀ ρ', I (i + 1) ρ' → K ρ') → g (.int i) ρ fun ρ' => body (loopE K E) ρ') → (∀ ρ, I (lo + n) ρ → E.nx ρ) → I lo ρ → fFor g body (rng lo n) E ρ
  | 0, lo, ρ, _, last, h => last ρ (by simpa using h)
  | n + 1, lo, ρ, turn, last, h => by
    rw [rng_succ]
    exact turn lo ρ (Int.le_refl _) (by omega) h (fFor g body (rng (lo + 1) n) E) fun ρ' h' => for_rng I n (lo + 1) ρ' (fun i ρ a b => turn i ρ (by omega) (by omega)) (fun ρ h => last ρ (by
      have e : lo + 1 + (n : Int) = lo + ((n + 1 : Nat) : Int) := by omega
      rw [← e]; exact h)) h'
theorem lc_of {g : GT} {t : ST} {e : SE} {ρ : Env} (I : List D → (List D → Prop) → Prop) (turn : ∀ d ds Q, I (d :: ds) Q → ∀ K : (List D → Prop) → Prop, (∀ Q', I ds Q' → K Q') → g d ρ fun ρ1 => t ρ1 fun b => if b = true then e ρ1 fun y => K fun ys => Q (y :: ys) else K Q) (last : ∀ Q, I [] Q → Q []) : ∀ ds Q, I ds Q → lcRun g t e ρ ds Q
  | [], Q, h => last Q h
  | d :: ds, Q, h => turn d ds Q h (fun Q' => lcRun g t e ρ ds Q') fun Q' h' => lc_of I turn last ds Q' h'
end DL
namespace DL
open PySem L2 PySem.Spec PyProof.Rows
/-! ### from the head's facts -/
theorem fun_of {K : PySem.W.Frag} {x : Str} {st : Stmt} {f : Addr} {fd : FuncData} (F : FunD K x x (defArgs st) (defBody st) (defScope st) [] [] f fd) : Fun K x x st f fd := by
  obtain ⟨⟨oc, od, dV, kV, doc, pm, an, cdv, ct, osl, e, lk, hcd, hD, hK⟩, kp⟩ := F
  rcases hD with ⟨_, rfl⟩ | ⟨z, _⟩
  · exact ⟨⟨oc, od, kV, doc, pm, an, cdv, ct, osl, e, lk, hcd⟩, kp⟩
  · exact absurd rfl z
abbrev XX (P : Program) (w : World) (K : PySem.W.Frag) (mg : Str → Option Value) (base : Heap) (N : List Str) (qual : Str) (st : Stmt) (f : Addr) (cdv : Value) (A : Around) (outer : List PySem.Env) (s : Shared) (H : Hp) : Cx :=
  (cxOf CX0 P w K mg base N qual (defScope st) f cdv A outer s H E0).nox
theorem kwb_of {K : PySem.W.Frag} {x qual : Str} {st : Stmt} {f : Addr} {fd : FuncData} {ps ks : List Str} {is : List Nat} (F : Fun K x qual st f fd)
    (h : ∀ (kV doc pm : Value) (an : Option Addr) (cdv ct : Value) (ws : List Value), ws.length = ks.length → bindArgs (PySem.W.fnOf x qual (defArgs st) (defBody st) (defScope st) .none kV doc pm an cdv ct) ⟨[], ks.zip ws⟩ = pure (ps.zip (perm is ws))) : KwB K fd ps ks is := by
  obtain ⟨oc, od, kV, doc, pm, an, cdv, ct, osl, rfl, lk, hcd⟩ := F.ex
  exact ⟨fun s ws _ hl => .of_eq (h kV doc pm an cdv ct ws hl)⟩
theorem Kn.mk {P : Program} {w : World} {K : PySem.W.Frag} {mg : Str → Option Value} {base : Heap} {k : Nat} {x : Str} {ps : List Str} {S : Spec} {f : Addr} {fd : FuncData} (h : FnG IsLst P w K mg base k f fd ps S) (h1 : mg x = some (.ref f)) (h2 : PySem.W.keepIn K (.ref f) = true) (h3 : Binds K fd ps []) : Kn P w K mg base k x ps S := ⟨f, fd, h, h1, h2, h3⟩
theorem KnK.mk {P : Program} {w : World} {K : PySem.W.Frag} {mg : Str → Option Value} {base : Heap} {k : Nat} {x : Str} {ps ks : List Str} {is : List Nat} {S : Spec} {f : Addr} {fd : FuncData} (h : FnG IsLst P w K mg base k f fd ps S) (h1 : mg x = some (.ref f)) (h2 : PySem.W.keepIn K (.ref f) = true) (h3 : KwB K fd ps ks is) : KnK P w K mg base k x ps ks is S := ⟨f, fd, h, h1, h2, h3⟩
theorem units_of {A : Around} {k : Nat} (hr : Room k A) : A.units + 64 < cLine := by
  have := hr.un
  omega
abbrev fForS (fi : SI) (g : GT) (f : SS) : SS := fun D ρ => fi ρ fun ds => fFor g f ds D ρ
end DL
namespace DL
open PySem L2 PySem.Spec PyProof.Rows
/-! ### data of a small size: may be shown and compared -/
/-- nesting at most n, shown in at most w signs -/
structure Ni (n w : Nat) (d : D) : Prop where
  sh : d.showable = true
  nd : d.hasDict = false
  cl : d.canLay0 = true
  dp : d.depth ≤ n
  wt : d.shown.length ≤ w
structure NiA (n w : Nat) (ds : List D) : Prop where
  sh : PyData.showableAll ds = true
  nd : PyData.hasDictAll ds = false
  cl : PyData.canLayAll0 ds = true
  dp : PyData.depthAll ds ≤ n
  wt : ((PyData.shownAll ds).map (·.length)).sum + 2 * (PyData.shownAll ds).length ≤ w
theorem Ni.le {n w m v : Nat} {d : D} (h : Ni n w d) (a : n ≤ m) (b : w ≤ v) : Ni m v d := ⟨h.sh, h.nd, h.cl, Nat.le_trans h.dp a, Nat.le_trans h.wt b⟩
theorem NiA.nil {n w : Nat} : NiA n w [] := ⟨rfl, rfl, rfl, by simp [PyData.depthAll], by simp [PyData.shownAll]⟩
theorem NiA.cons {n w v : Nat} {d : D} {ds : List D} (h : Ni n w d) (k : NiA n v ds) : NiA n (w + 2 + v) (d :: ds) :=
  ⟨by simp [PyData.showableAll, h.sh, k.sh], by simp [PyData.hasDictAll, h.nd, k.nd], by simp [PyData.canLayAll0, h.cl, k.cl],
    by have := h.dp; have := k.dp; simp only [PyData.depthAll]; omega, by have := h.wt; have := k.wt; simp only [PyData.shownAll, List.map_cons, List.sum_cons, List.length_cons]; omega⟩
theorem NiA.le {n w m v : Nat} {d : List D} (h : NiA n w d) (a : n ≤ m) (b : w ≤ v) : NiA m v d := ⟨h.sh, h.nd, h.cl, Nat.le_trans h.dp a, Nat.le_trans h.wt b⟩
theorem NiA.all {n w : Nat} : ∀ {ds : List D}, (∀ d ∈ ds, Ni n w d) → NiA n (ds.length * (w + 2)) ds
  | [], _ => NiA.nil
  | d :: ds, h => (NiA.cons (h d List.mem_cons_self) (NiA.all fun e he => h e (List.mem_cons_of_mem _ he))).le (Nat.le_refl _) (by rw [List.length_cons, Nat.succ_mul]; omega)
theorem Ni.list {n w : Nat} {ds : List D} (h : NiA n w ds) : Ni (n + 1) (w + 3) (.list ds) :=
  ⟨by simp [PyData.showable, h.sh], by simp [PyData.hasDict, h.nd], by simp [PyData.canLay0, h.cl], by have := h.dp; simp only [PyData.depth]; omega, by
    have := h.wt
    have := listText_len_le (PyData.shownAll ds)
    simp only [PyData.shown]
    omega⟩
theorem Ni.tup {n w : Nat} {ds : List D} (h : NiA n w ds) : Ni (n + 1) (w + 3) (.tuple ds) :=
  ⟨by simp [PyData.showable, h.sh], by simp [PyData.hasDict, h.nd], by simp [PyData.canLay0, h.cl], by have := h.dp; simp only [PyData.depth]; omega, by
    have := h.wt
    have := tupleText_len_le (PyData.shownAll ds)
    simp only [PyData.shown]
    omega⟩
theorem log2_lt {n k : Nat} (hk : 0 < k) (h : n < 2 ^ k) : n.log2 < k := by
  by_cases z : n = 0
  · subst z; rw [Nat.log2_zero]; exact hk
  · exact (Nat.log2_lt z).mpr h
theorem pow_1900 : (2 : Nat) ^ 1900 ≤ 10 ^ 590 := by decide +kernel
theorem Ni.int {i : Int} (h : i.natAbs < 2 ^ 1900) : Ni 0 600 (.int i) := by
  have h10 : i.natAbs < 10 ^ 590 := Nat.lt_of_lt_of_le h pow_1900
  have hl := log2_lt (by decide) h
  have e := int_text_length_le10 (k := 590) (by decide) h10
  clear h h10
  refine ⟨?_, rfl, rfl, by simp [PyData.depth], ?_⟩
  · simp only [PyData.showable, decide_eq_true_eq]
    exact Nat.lt_trans hl (by decide)
  · simp only [PyData.shown]
    rw [PySem.ofString_length]
    omega
theorem Ni.bool (b : Bool) : Ni 0 5 (.bool b) := ⟨rfl, rfl, rfl, by simp [PyData.depth], by cases b <;> decide⟩
theorem Ni.none : Ni 0 4 .none := ⟨rfl, rfl, rfl, by simp [PyData.depth], by decide⟩
theorem Ni.str {x : Str} {w : Nat} (h : (PyData.shown (.str x)).length ≤ w := by decide +kernel) (k : PyData.canLay0 (.str x) = true := by decide +kernel) : Ni 0 w (.str x) :=
  ⟨rfl, rfl, k, by simp [PyData.depth], h⟩
theorem Ni.shaped {n w : Nat} {d : D} (h : Ni n w d) (hn : n ≤ 60) : SeqAt.shaped d = true := by
  unfold SeqAt.shaped
  rw [h.cl, Bool.true_and, decide_eq_true_eq]
  have := h.dp
  omega
theorem Ni.repr {n w : Nat} {d : D} (h : Ni n w d) (hn : n ≤ 60) (hw : w ≤ 16777216) {Q : D → Prop} (q : Q (.str d.shown)) : bRepr [d] Q := ⟨h.sh, h.nd, by rw [sizeLine_eq]; exact Nat.le_trans h.wt hw, Nat.le_trans h.dp hn, q⟩
theorem Ni.eq {n w : Nat} {d : D} (h : Ni n w d) (hn : n ≤ 60) {Q : Bool → Prop} (q : Q true) : gEq d d Q := by
  have gen : SeqAt.shaped d = true ∧ SeqAt.shaped d = true ∧ Q (PyData.eqv d d) := ⟨h.shaped hn, h.shaped hn, by rw [SeqAt.eqv_refl d h.cl]; exact q⟩
  cases d with
  | int i => show Q (decide (i = i)); simpa using q
  | str i => show Q (decide (i = i)); simpa using q
  | bool i => show Q (decide (i = i)); simpa using q
  | none => exact gen
  | list ds => exact gen
  | tuple ds => exact gen
  | dict ds => exact gen
end DL
namespace DL
open PySem L2 PySem.Spec PyProof.Rows
/-! ### defs that hand a new list back -/
def toSpO (G : C → Prop) (S : Spec) : Sp := fun vs H Q _ => ∃ c : C, G c ∧ c.H0 = H ∧ Wd c c.B0 H ∧ ∃ ss, ArgsOk c c.B0 H vs ss ∧ S ss fun d => ∃ ds, d = .list ds ∧ ∀ p ws B' H', Gr c c.B0 H B' H' → H p = none → B' p = none → H' p = some (.lst ws) → RpA B' ws ds → Q (.ref p) H'
structure FnO (G : C → Prop) (P : Program) (w : World) (K : PySem.W.Frag) (mg : Str → Option Value) (base : Heap) (k : Nat) (f : Addr) (fd : FuncData) (ps : List Str) (S : Spec) : Prop where
  mono : ∀ ss (Q Q' : D → Prop), (∀ d, Q d → Q' d) → S ss Q → S ss Q'
  len : ∀ ss Q, S ss Q → ss.length = ps.length
  run : ∀ (A : Around) (outer : List PySem.Env) (s : Shared) (H : Hp) (args : Args) (us : List Value) (vs : List V) (Q : VK), A.guards = some [] → Room k A → Env0 P w K mg base A outer s H →
    BindsTo s fd args (ps.zip us) → Vals vs us → toSpO G S vs H Q E0 → codeAny (model P w) A (.call (.ref f) args) (CR CX0 outer P w H s Q E0) s
theorem FnO.up {G : C → Prop} {P : Program} {w : World} {K : PySem.W.Frag} {mg : Str → Option Value} {base : Heap} {j k : Nat} {f : Addr} {fd : FuncData} {ps : List Str} {S : Spec} (F : FnO G P w K mg base j f fd ps S) (h : j ≤ k) : FnO G P w K mg base k f fd ps S :=
  ⟨F.mono, F.len, fun A outer s H args us vs Q hg hr => F.run A outer s H args us vs Q hg (hr.mono h)⟩
/-- the end of such a def -/
def endsOfO (Q : D → Prop) : En := ⟨fun _ => False, fun _ => False, fun _ => False, fun _ => False, fun ds => Q (.list ds)⟩
section
variable {G : C → Prop} {P : Program} {w : World} {K : PySem.W.Frag} {mg : Str → Option Value} {base : Heap}
theorem fno_of {x qual : Str} {st : Stmt} {f : Addr} {fd : FuncData} {N ps : List Str} {k : Nat} {S : Spec} (F : Fun K x qual st f fd) (sc : FnScope N ps (defScope st)) (mono : ∀ ss (Q Q' : D → Prop), (∀ d, Q d → Q' d) → S ss Q → S ss Q') (len : ∀ ss Q, S ss Q → ss.length = ps.length)
    (body : ∀ (cdv : Value) (A : Around) (outer : List PySem.Env) (s : Shared) (c : C), G c → A.guards = some [] → Room k (A.deeper (envOfC qual (defScope st) s.heap.objs.size f cdv)) →
      ∃ g, PSsd (cxOf CX0 P w K mg base N qual (defScope st) f cdv A outer s c.H0 E0).nox c (defBody st) g ∧ ∀ ss Q, S ss Q → g (endsOfO Q) (initE N ss)) : FnO G P w K mg base (k + 1) f fd ps S := by
  obtain ⟨oc, od, kV, doc, pm, an, cdv, ct, osl, rfl, lk', hcd⟩ := F.ex
  refine ⟨mono, len, ?_⟩
  intro A outer s H args us vs Q hg hr e0 hb r hsp
  obtain ⟨c, hG, hH, wd, ss, ha, hS⟩ := hsp
  subst hH
  have hvl : vs.length = ps.length := by rw [ha.len]; exact len _ _ hS
  have stands : ∀ b o, base.get? b = some o → s.heap.get? b = some o := fun b o z => (e0.bs b o z).1
  have KX : K.In s.heap := e0.mod.kin.keeps stands
  refine codeAny_call_function hr.depth (KX _ _ lk') rfl sc.co sc.gen rfl (PySem.W.codeRec_of KX hcd) (hb _ _ _ _ (wpAny_newFunctionEnv_cells sc.kind ?_ ?_))
  · rintro ⟨n, v⟩ hy
    rcases sc.par n (List.of_mem_zip hy).1 with q | q
    · exact Or.inl q
    · exact Or.inr ⟨q, PySem.W.cellsFrom_some _ _ _ (Or.inl q)⟩
  · intro env he s1 x
    subst he
    refine ⟨(e0.mod.nolimit.keeps stands).keeps x.toInCall.keep, codeAny_func ?_⟩
    obtain ⟨g, hg1, hg2⟩ := body cdv A outer s c hG hg (hr.deeper _)
    have I := inv_start (CX := CX0) (E := E0) (qual := qual) sc hr.hd e0 hvl r x
    have ok := EOk.init (N := N) wd ha
    have goal := hg1.ps.nox.run [] s1 (L2.start N vs) c.H0 { nx := fun _ H' => False, rt := Q } I ⟨c.B0, initE N ss, ok, hg1.mono (endsOfO fun d => ∃ ds, d = .list ds ∧ ∀ p ws B' H', Gr c c.B0 c.H0 B' H' → c.H0 p = none → B' p = none → H' p = some (.lst ws) → RpA B' ws ds → Q (.ref p) H') _ _ ⟨fun ρ h => h.elim, fun _ h => h.elim, fun _ h => h.elim, fun _ h => h.elim, fun ds h => by
      obtain ⟨es, e, h⟩ := h
      cases e
      exact h⟩ (hg2 ss _ hS)⟩
    refine wpAny_mono goal (fun fl s' hs => ?_) fun _ _ z => z
    cases fl with
    | ret u =>
      obtain ⟨v, σ', H', J, rv, q⟩ := hs
      exact ⟨v, H', J.os, J.bare, J.base, J.hok, rv, q⟩
    | next =>
      obtain ⟨σ', H', J, q⟩ := hs
      exact q.elim
    | brk => exact hs.elim fun _ z => z.elim fun _ y => y.2.elim
    | cont => exact hs.elim fun _ z => z.elim fun _ y => y.2.elim
end
def fCallO (S : Spec) (fa : SA) : SL := fun ρ Q => fa ρ fun ss => S ss fun d => match d with | .list ds => Q ds | _ => False
def fCallOK (S : Spec) (is : List Nat) (fa : SA) : SL := fun ρ Q => fa ρ fun ss => S (perm is ss) fun d => match d with | .list ds => Q ds | _ => False
section
variable {G : C → Prop} {X : Cx} {c : C} {k : Nat} {f : Addr} {fd : FuncData} {ps : List Str} {S : Spec}
theorem run_fno {pins : List (Addr × Obj)} {σ : St} {H : Hp} {s : Shared} {Q : VK} {args : Args} {us : List Value} {vs : List V} (F : FnO G X.prog X.w X.K X.mg X.base k f fd ps S) (hgd : X.A.guards = some []) (hr : Room k X.A) (I : Inv X pins σ H s)
    (hb : BindsTo s fd args (ps.zip us)) (r : Vals vs us) (h : toSpO G S vs H Q E0) : codeAny (model X.prog X.w) X.A (.call (.ref f) args) (wants (EP X pins σ Q) X.xe) s := by
  refine codeAny_mono (F.run X.A X.stack s H args us vs Q hgd hr I.env0 hb r h) fun z s' hq => ?_
  cases z with
  | error e => exact False.elim hq
  | ok fl => cases fl <;> first | exact I.after hq | exact False.elim hq
theorem toSpO_of {B H B1 H1 : Hp} {Q : VK} {vs : List V} {ss : List Sl} (hG : ∀ B1 H1, G { c with B0 := B1, H0 := H1 }) (w0 : Wd c B H) (g : Gr c B H B1 H1) (F : FnO G X.prog X.w X.K X.mg X.base k f fd ps S) (r : ArgsOk c B1 H1 vs ss)
    (h : S ss fun d => ∃ ds, d = .list ds ∧ ∀ p ws B' H', Gr c B H B' H' → H p = none → B' p = none → H' p = some (.lst ws) → RpA B' ws ds → Q (.ref p) H') : toSpO G S vs H1 Q E0 :=
  ⟨{ c with B0 := B1, H0 := H1 }, hG _ _, rfl, ⟨g.w.sub, g.w.bag.again⟩, ss, by
    have conv : ∀ {vs : List V} {ss : List Sl}, ArgsOk c B1 H1 vs ss → ArgsOk { c with B0 := B1, H0 := H1 } B1 H1 vs ss := by
      intro vs
      induction vs with
      | nil => intro ss h; cases ss with
        | nil => trivial
        | cons _ _ => exact h
      | cons v vs ih => intro ss h; cases ss with
        | nil => exact h
        | cons s ss => exact ⟨by cases s <;> exact h.1, ih h.2⟩
    exact conv r, F.mono _ _ _ (fun d ⟨ds, e, hd⟩ => ⟨ds, e, fun p ws B' H' g2 h0 h1 h2 r2 => hd p ws B' H' (g.trans w0 ⟨g2.b, g2.h, g2.n, ⟨g2.w.sub, ⟨g2.w.bag.out, g2.w.bag.here, g2.w.bag.ok⟩⟩⟩) (g.back h0) h1 h2 r2⟩) h⟩
theorem mO {Q Q' : List D → Prop} (k : ∀ ds, Q ds → Q' ds) : ∀ d : D, (match d with | .list ds => Q ds | _ => False) → (match d with | .list ds => Q' ds | _ => False) := fun d h => by
  cases d <;> first | exact h.elim | exact k _ h
theorem listO {B H : Hp} {Q : VK} {Q' : List D → Prop} (k : ∀ ds, Q' ds → ∀ p ws B' H', Gr c B H B' H' → H p = none → B' p = none → H' p = some (.lst ws) → RpA B' ws ds → Q (.ref p) H') : ∀ d : D, (match d with | .list ds => Q' ds | _ => False) →
    ∃ ds, d = .list ds ∧ ∀ p ws B' H', Gr c B H B' H' → H p = none → B' p = none → H' p = some (.lst ws) → RpA B' ws ds → Q (.ref p) H' := fun d h => by
  cases d <;> first | exact h.elim | exact ⟨_, rfl, k _ h⟩
theorem n_callO {x : Str} {p pos : Pos} {e : Expr} {es : List Expr} {fa : SA} (F : FnO G X.prog X.w X.K X.mg X.base k f fd ps S) (hG : ∀ B1 H1, G { c with B0 := B1, H0 := H1 }) (hgd : X.A.guards = some []) (hr : Room k X.A) (hm : X.mg x = some (.ref f)) (hk : PySem.W.keepIn X.K (.ref f) = true) (hb : Binds X.K fd ps []) (ha : PAd X c (e :: es) fa)
    (hg : Gl X x := by rfl) (hdb : (x == ("__debug__" : Str)) = false := by decide) (he : starEach (e :: es) X.env = (false, eval e X.env) :: starEach es X.env := by rfl) (hpl : (backTo pos (starEach es X.env)).any (·.1) = false := by rfl) :
    PN X c (.Call (.Name x p) (e :: es) [] pos) (fCallO S fa) := by
  refine ⟨fun ρ Q Q' k h => ha.mono _ _ _ (fun ss hs => F.mono _ _ _ (mO k) hs) h, ⟨fun pins s σ H Q I ⟨B, ρ, ok, h⟩ => wpAny_Call_Name_kw (ld_glob I hg hm (PySem.W.callWith_K (h₀ := X.base) I.ok.mod.kin hk (wpAny_mono (ha.pa.run pos pins s σ H
    (fun vs H1 => ∃ B1 ss, Gr c B H B1 H1 ∧ ArgsOk c B1 H1 vs ss ∧ S ss fun d => ∃ ds, d = .list ds ∧ ∀ p ws B' H', Gr c B H B' H' → H p = none → B' p = none → H' p = some (.lst ws) → RpA B' ws ds → Q (.ref p) H') I ⟨B, ρ, ok, ha.mono _ _ _ (fun ss hs vs B1 H1 g r => ⟨B1, ss, g, r, F.mono _ _ _ (listO fun ds q => q) hs⟩) h⟩) (fun us s1 hv => ?_) fun _ _ z => z) he hpl) hdb)⟩⟩
  obtain ⟨vs, H1, I1, rv, B1, ss, g, ra, hS⟩ := hv
  have hl : us.length = ps.length := by rw [← rv.length, ra.len]; exact F.len _ _ hS
  refine ⟨I1.kIn, wpAny_call (run_fno F hgd hr I1 ?_ rv (toSpO_of hG ok.w g F ra hS))⟩
  have := hb s1 us I1.kIn (by rw [List.append_nil]; exact hl)
  rw [List.append_nil] at this
  exact this
end
def KnO (P : Program) (w : World) (K : PySem.W.Frag) (mg : Str → Option Value) (base : Heap) (k : Nat) (x : Str) (ps : List Str) (S : Spec) : Prop :=
  ∃ f fd, FnO IsLst P w K mg base k f fd ps S ∧ mg x = some (.ref f) ∧ PySem.W.keepIn K (.ref f) = true ∧ Binds K fd ps []
theorem KnO.up {P : Program} {w : World} {K : PySem.W.Frag} {mg : Str → Option Value} {base : Heap} {j k : Nat} {x : Str} {ps : List Str} {S : Spec} (h : KnO P w K mg base j x ps S) (l : j ≤ k) : KnO P w K mg base k x ps S :=
  let ⟨f, fd, h1, h2⟩ := h
  ⟨f, fd, h1.up l, h2⟩
theorem KnO.mk {P : Program} {w : World} {K : PySem.W.Frag} {mg : Str → Option Value} {base : Heap} {k : Nat} {x : Str} {ps : List Str} {S : Spec} {f : Addr} {fd : FuncData} (h : FnO IsLst P w K mg base k f fd ps S) (h1 : mg x = some (.ref f)) (h2 : PySem.W.keepIn K (.ref f) = true) (h3 : Binds K fd ps []) : KnO P w K mg base k x ps S := ⟨f, fd, h, h1, h2, h3⟩
section
variable {X : Cx} {c : C} {k : Nat} {ps : List Str} {S : Spec}
theorem n_callX {x : Str} {p pos : Pos} {e : Expr} {es : List Expr} {fa : SA} (F : KnO X.prog X.w X.K X.mg X.base k x ps S) (hG : IsLst c) (hgd : X.A.guards = some []) (hr : Room k X.A) (ha : PAd X c (e :: es) fa)
    (hg : Gl X x := by rfl) (hdb : (x == ("__debug__" : Str)) = false := by decide) (he : starEach (e :: es) X.env = (false, eval e X.env) :: starEach es X.env := by rfl) (hpl : (backTo pos (starEach es X.env)).any (·.1) = false := by rfl) :
    PN X c (.Call (.Name x p) (e :: es) [] pos) (fCallO S fa) := by
  obtain ⟨f, fd, h1, h2, h3, h4⟩ := F
  exact n_callO h1 hG.up hgd hr h2 h3 h4 ha hg hdb he hpl
/-- xs + ys, a new list -/
def fCat (fa fb : SE) : SL := fun ρ Q => fa ρ fun d => fb ρ fun e => match d, e with | .list xs, .list ys => xs.length + ys.length ≤ sizeLine ∧ Q (xs ++ ys) | _, _ => False
theorem n_cat {a b : Expr} {fa fb : SE} {pos : Pos} (ha : PB X c a fa) (hb : PB X c b fb) : PN X c (.BinOp a .Add b pos) (fCat fa fb) := by
  refine ⟨fun ρ Q Q' k h => ha.mono _ _ _ (fun d hd => hb.mono _ _ _ (fun e he => ?_) hd) h, pe_weak (pe_op op_cat ha.pe hb.pe) fun σ H Q ⟨B, ρ, ok, h⟩ => ⟨B, ρ, ok, ha.mono _ _ _ (fun d hd v B1 H1 g1 r1 => ⟨B1, ρ, ok.mono g1, hb.mono _ _ _ (fun e he u B2 H2 g2 r2 => ?_) hd⟩) h⟩⟩
  · cases d <;> cases e <;> first | exact he.elim | exact ⟨he.1, k _ he.2⟩
  · cases d <;> cases e <;> first | exact he.elim | skip
    obtain ⟨x, xs, rfl, h1, h2⟩ := (r1.mono g2).list g2.w
    obtain ⟨y, ys, rfl, h3, h4⟩ := r2.list g2.w
    refine ⟨x, y, xs, ys, rfl, rfl, h1, h3, by rw [rpa_len h2, rpa_len h4]; exact he.1, fun p hp => ?_⟩
    have g3 := Gr.newO (o := .lst (xs ++ ys)) g2.w hp
    exact he.2 p _ B2 _ ((g1.trans ok.w g2).trans ok.w g3) ((g1.trans ok.w g2).back hp) (Evl.fresh_back g2.w.sub hp) upd_same (rpa_app h2 h4)
end
end DL
namespace DL
open PySem L2 PySem.Spec PyProof.Rows
/-! ### is True, is False -/
def isBool (b : Bool) : D → Bool | .bool a => decide (a = b) | _ => false
def gIsB : GC | d, .bool b, Q => Q (isBool b d) | _, _, _ => False
theorem m_IsB : MonoC gIsB := fun d e Q Q' k h => by cases e <;> first | exact k _ h | exact h.elim
section
variable {X : Cx} {c : C}
theorem op_isBA : OpR X (compareOp .Is) fun x y H Q => ∃ b : Bool, y = .bl b ∧ Q (.bl (match x with | .bl a => decide (a = b) | _ => false)) H := by
  intro pins s σ H x y v u Q I rx ry ⟨b, e, q⟩
  subst e
  cases (show u = Value.bool b from ry)
  have no : plainIs v (.bool b) = true → (∀ a, v ≠ Value.bool a) → Q (.bl false) H → wpAny (model X.prog X.w) X.A (compareOp .Is v (.bool b)) (EP X pins σ Q) X.xe s := fun hp hn hq =>
    wpAny_is_other hp (hn b) ⟨.bl false, H, I, rfl, hq⟩
  cases x with
  | bl a =>
    cases (show v = Value.bool a from rx)
    by_cases e : a = b
    · subst e
      exact wpAny_is_self rfl ⟨.bl true, H, I, rfl, by simpa using q⟩
    · exact wpAny_is_other rfl (fun z => e (Value.bool.inj z)) ⟨.bl false, H, I, rfl, by simpa [e] using q⟩
  | non => cases (show v = Value.none from rx); exact no rfl (fun _ z => nomatch z) q
  | int i => obtain ⟨t, e⟩ := rx; subst e; exact no rfl (fun _ z => nomatch z) q
  | str i => obtain ⟨t, e⟩ := rx; subst e; exact no rfl (fun _ z => nomatch z) q
  | byt i => obtain ⟨t, e⟩ := rx; subst e; exact no rfl (fun _ z => nomatch z) q
  | flt i => obtain ⟨t, e⟩ := rx; subst e; exact no rfl (fun _ z => nomatch z) q
  | ref a => cases (show v = Value.ref a from rx); exact no rfl (fun _ z => nomatch z) q
  | ty n => cases (show v = Value.type n from rx); exact no rfl (fun _ z => nomatch z) q
theorem o_isB : CmpD X c .Is gIsB := ⟨m_IsB, opr_weak op_isBA fun x y H Q ⟨B, d, e, w, r1, r2, q⟩ => by
  cases e <;> first | exact q.elim | skip
  rename_i b
  refine ⟨b, r2.bl, ?_⟩
  rcases r1 with r | ⟨p, vs, ds, rfl, rfl, _⟩
  · cases r <;> exact q
  · exact q⟩
/-! ### [x, ..] * n, xs[::-1], a new list either way -/
def fRepL (fa fb : SE) : SL := fun ρ Q => fa ρ fun d => fb ρ fun e => match d, e with | .list xs, .int k => (-(2 ^ 63) ≤ k ∧ k < 2 ^ 63 ∧ xs.length * k.toNat ≤ sizeLine) ∧ Q (List.replicate k.toNat xs).flatten | _, _ => False
theorem rpa_repL {B : Hp} {vs : List V} {ds : List D} (h : RpA B vs ds) : ∀ k : Nat, RpA B (List.replicate k vs).flatten (List.replicate k ds).flatten
  | 0 => .nil
  | k + 1 => by rw [List.replicate_succ, List.replicate_succ, List.flatten_cons, List.flatten_cons]; exact rpa_app h (rpa_repL h k)
theorem n_repL {a b : Expr} {fa fb : SE} {pos : Pos} (ha : PB X c a fa) (hb : PB X c b fb) : PN X c (.BinOp a .Mult b pos) (fRepL fa fb) := by
  refine ⟨fun ρ Q Q' k h => ha.mono _ _ _ (fun d hd => hb.mono _ _ _ (fun e he => ?_) hd) h, pe_weak (pe_op op_rep ha.pe hb.pe) fun σ H Q ⟨B, ρ, ok, h⟩ => ⟨B, ρ, ok, ha.mono _ _ _ (fun d hd v B1 H1 g1 r1 => ⟨B1, ρ, ok.mono g1, hb.mono _ _ _ (fun e he u B2 H2 g2 r2 => ?_) hd⟩) h⟩⟩
  · cases d <;> cases e <;> first | exact he.elim | exact ⟨he.1, k _ he.2⟩
  · cases d <;> cases e <;> first | exact he.elim | skip
    rename_i ds k
    obtain ⟨x, xs, rfl, h1, h2⟩ := (r1.mono g2).list g2.w
    rw [r2.int]
    refine ⟨x, k, xs, rfl, rfl, h1, he.1.1, he.1.2.1, by rw [rpa_len h2]; exact he.1.2.2, fun p hp => ?_⟩
    have g3 := Gr.newO (o := .lst (List.replicate k.toNat xs).flatten) g2.w hp
    exact he.2 p _ B2 _ ((g1.trans ok.w g2).trans ok.w g3) ((g1.trans ok.w g2).back hp) (Evl.fresh_back g2.w.sub hp) upd_same (rpa_repL h2 _)
theorem n_revL {e : Expr} {fa : SE} {k : Nat} {p1 p2 p3 pos : Pos} (ha : PB X c e fa) : PN X c (.Subscript e (.Slice none none (some (.UnaryOp .USub (.Constant (.int 1) k p1) p2)) p3) pos) (fLRev fa) := by
  refine ⟨fun ρ Q Q' k h => ha.mono _ _ _ (fun d hd => ?_) h, pe_weak (pe_revL ha.pe) fun σ H Q ⟨B, ρ, ok, h⟩ => ⟨B, ρ, ok, ha.mono _ _ _ (fun d hd v B1 H1 g1 r1 => ?_) h⟩⟩
  · cases d <;> first | exact hd.elim | exact k _ hd
  · cases d <;> first | exact hd.elim | skip
    obtain ⟨a, xs, rfl, h1, h2⟩ := r1.list g1.w
    refine ⟨a, xs, rfl, SqL.of h1, fun l hl => ?_⟩
    have g2 := Gr.newO (o := .lst xs.reverse) g1.w hl
    exact hd l _ B1 _ (g1.trans ok.w g2) (g1.back hl) (Evl.fresh_back g1.w.sub hl) upd_same (rpa_rev h2)
def fIfN (t : ST) (fa fb : SL) : SL := fun ρ Q => t ρ fun b => if b = true then fa ρ Q else fb ρ Q
theorem n_if {t : ST} {cc a b : Expr} {fa fb : SL} {pos : Pos} (ht : PTd X c cc t) (ha : PN X c a fa) (hb : PN X c b fb) : PN X c (.IfExp cc a b pos) (fIfN t fa fb) := by
  refine ⟨fun ρ Q Q' k h => ht.mono _ _ _ (fun b hd => ?_) h, pe_weak (pe_ifExp ht.pt ha.pe hb.pe) fun σ H Q ⟨B, ρ, ok, h⟩ => ⟨B, ρ, ok, ht.mono _ _ _ (fun d hd B1 H1 g1 => ?_) h⟩⟩
  · cases b with
    | true => exact ha.mono _ _ _ k hd
    | false => exact hb.mono _ _ _ k hd
  · cases d with
    | true => exact ⟨B1, ρ, ok.mono g1, ha.mono _ _ _ (fun ds he p vs B2 H2 g2 h0 h1 h2 r2 => he p vs B2 H2 (g1.trans ok.w g2) (g1.back h0) h1 h2 r2) hd⟩
    | false => exact ⟨B1, ρ, ok.mono g1, hb.mono _ _ _ (fun ds he p vs B2 H2 g2 h0 h1 h2 r2 => he p vs B2 H2 (g1.trans ok.w g2) (g1.back h0) h1 h2 r2) hd⟩
end
end DL
namespace DL
open PySem L2 PySem.Spec PyProof.Rows
/-- a def that is never called so -/
theorem fng_zero {G : C → Prop} {P : Program} {w : World} {K : PySem.W.Frag} {mg : Str → Option Value} {base : Heap} {k : Nat} {f : Addr} {fd : FuncData} {ps : List Str} {S : Spec} (h : ∀ ss Q, ¬ S ss Q) : FnG G P w K mg base k f fd ps S :=
  ⟨fun ss Q _ _ q => (h ss Q q).elim, fun ss Q q => (h ss Q q).elim, fun _ _ _ _ _ _ _ _ _ _ _ _ _ ⟨_, _, _, _, ss, _, q⟩ => (h ss _ q).elim⟩
end DL
namespace DL
open PySem L2 PySem.Spec PyProof.Rows
/-! ### a, b = x, y where a name is seen by a comprehension: by way of the tuple -/
theorem MOk.newO {c : C} {H B' H' : Hp} {p : Addr} {o : HO} (hp : H' p = none) : ∀ {vs : List V} {ss : List Sl}, MOk c H B' H' vs ss → MOk c H B' (upd H' p o) vs ss
  | [], [], _ => trivial
  | _ :: _, .sh _ :: _, h => ⟨h.1, MOk.newO hp h.2⟩
  | _ :: _, .ow _ :: _, h => by
    obtain ⟨⟨q, ws, e, h0, h1, h2, r⟩, h3⟩ := h
    exact ⟨⟨q, ws, e, h0, h1, by rw [upd_ne (ne_of_none h2 hp)]; exact h2, r⟩, MOk.newO hp h3⟩
  | _ :: _, .un :: _, h => h
  | _ :: _, .bg :: _, h => h
  | _ :: _, .ex _ :: _, h => h
  | [], _ :: _, h => h
  | _ :: _, [], h => h
section
variable {X : Cx} {c : C}
theorem s_parG (i j : Nat) {x y : Str} {a b : Expr} {f : SM} {px py pt pos : Pos} {kt k2 : Nat} {pt2 : Pos} (hc : X.calm = true) (hN : X.N.Nodup) (ha : PMd X c [a, b] f) (hi : X.N[i]? = some x := by rfl) (hj : X.N[j]? = some y := by rfl)
    (hx : Loc X.env.scope x := by first | exact Or.inl rfl | exact Or.inr rfl) (hy : Loc X.env.scope y := by first | exact Or.inl rfl | exact Or.inr rfl)
    (fx : X.fn x = true ∨ X.env.scope.names.lookup x = some .local := by first | exact .inl rfl | exact .inr rfl) (fy : X.fn y = true ∨ X.env.scope.names.lookup y = some .local := by first | exact .inl rfl | exact .inr rfl)
    (hw : swappedStores [.Tuple [.Name x px, .Name y py] kt pt] (.Tuple [a, b] k2 pt2) X.env = pure none := by rfl)
    (hs : swapsWithSole [.Tuple [.Name x px, .Name y py] kt pt] (.Tuple [a, b] k2 pt2) pos.line X.env = pure false := by rfl)
    (h1 : (assignEach [.Tuple [.Name x px, .Name y py] kt pt] X.env).map (·.2) = [assign (.Tuple [.Name x px, .Name y py] kt pt) X.env] := by rfl)
    (hn : (assignEach [.Name x px, .Name y py] X.env).length = 2 := by rfl) (hst : (assignEach [.Name x px, .Name y py] X.env).findIdx? (·.1) = none := by rfl)
    (e1 : (assignEach [.Name x px, .Name y py] X.env).map (·.2) = assign (.Name x px) X.env :: (assignEach [.Name y py] X.env).map (·.2) := by rfl) (e2 : (assignEach [.Name y py] X.env).map (·.2) = assign (.Name y py) X.env :: (assignEach [] X.env).map (·.2) := by rfl) :
    PSd X c (.Assign [.Tuple [.Name x px, .Name y py] kt pt] (.Tuple [a, b] k2 pt2) pos) (fPar [i, j] f) := by
  refine ⟨mono_Par ha.mono, ps_weak (ps_asg (pe_tup ha.pa) (pg_tup hc (pgs_cons (pg_name hN hi hx fx) (pgs_cons (pg_name hN hj hy fy) pgs_nil e2) e1) hn hst) hs hw h1) fun D σ H ⟨B, ρ, ok, h⟩ => ⟨B, ρ, ok, ha.mono _ _ _ (fun ss hd vs B' H' g r => ?_) h⟩⟩
  have hv := r.len
  rw [← hd.1] at hv
  refine ⟨by rw [hv]; exact Nat.le_of_lt (small1000 (by show 2 ≤ 1000; decide)), fun p hp => ?_⟩
  have g2 := Gr.newO (o := .tup vs) g.w hp
  have hq := hd.2 _ B' _ (putAll' ok (g.trans ok.w g2) hd.1 (r.newO hp)) g.b
  match vs, hv with
  | [v, w], _ => exact ⟨p, [v, w], rfl, SqT.of upd_same, rfl, v, [w], rfl, w, [], rfl, rfl, hq⟩
theorem s_parG3 (i j l : Nat) {x y z : Str} {a b d : Expr} {f : SM} {px py pz pt pos : Pos} {kt k2 : Nat} {pt2 : Pos} (hc : X.calm = true) (hN : X.N.Nodup) (ha : PMd X c [a, b, d] f) (hi : X.N[i]? = some x := by rfl) (hj : X.N[j]? = some y := by rfl) (hl : X.N[l]? = some z := by rfl)
    (hx : Loc X.env.scope x := by first | exact Or.inl rfl | exact Or.inr rfl) (hy : Loc X.env.scope y := by first | exact Or.inl rfl | exact Or.inr rfl) (hz : Loc X.env.scope z := by first | exact Or.inl rfl | exact Or.inr rfl)
    (fx : X.fn x = true ∨ X.env.scope.names.lookup x = some .local := by first | exact .inl rfl | exact .inr rfl) (fy : X.fn y = true ∨ X.env.scope.names.lookup y = some .local := by first | exact .inl rfl | exact .inr rfl) (fz : X.fn z = true ∨ X.env.scope.names.lookup z = some .local := by first | exact .inl rfl | exact .inr rfl)
    (hw : swappedStores [.Tuple [.Name x px, .Name y py, .Name z pz] kt pt] (.Tuple [a, b, d] k2 pt2) X.env = pure none := by rfl)
    (hs : swapsWithSole [.Tuple [.Name x px, .Name y py, .Name z pz] kt pt] (.Tuple [a, b, d] k2 pt2) pos.line X.env = pure false := by rfl)
    (h1 : (assignEach [.Tuple [.Name x px, .Name y py, .Name z pz] kt pt] X.env).map (·.2) = [assign (.Tuple [.Name x px, .Name y py, .Name z pz] kt pt) X.env] := by rfl)
    (hn : (assignEach [.Name x px, .Name y py, .Name z pz] X.env).length = 3 := by rfl) (hst : (assignEach [.Name x px, .Name y py, .Name z pz] X.env).findIdx? (·.1) = none := by rfl)
    (e1 : (assignEach [.Name x px, .Name y py, .Name z pz] X.env).map (·.2) = assign (.Name x px) X.env :: (assignEach [.Name y py, .Name z pz] X.env).map (·.2) := by rfl) (e2 : (assignEach [.Name y py, .Name z pz] X.env).map (·.2) = assign (.Name y py) X.env :: (assignEach [.Name z pz] X.env).map (·.2) := by rfl) (e3 : (assignEach [.Name z pz] X.env).map (·.2) = assign (.Name z pz) X.env :: (assignEach [] X.env).map (·.2) := by rfl) :
    PSd X c (.Assign [.Tuple [.Name x px, .Name y py, .Name z pz] kt pt] (.Tuple [a, b, d] k2 pt2) pos) (fPar [i, j, l] f) := by
  refine ⟨mono_Par ha.mono, ps_weak (ps_asg (pe_tup ha.pa) (pg_tup hc (pgs_cons (pg_name hN hi hx fx) (pgs_cons (pg_name hN hj hy fy) (pgs_cons (pg_name hN hl hz fz) pgs_nil e3) e2) e1) hn hst) hs hw h1) fun D σ H ⟨B, ρ, ok, h⟩ => ⟨B, ρ, ok, ha.mono _ _ _ (fun ss hd vs B' H' g r => ?_) h⟩⟩
  have hv := r.len
  rw [← hd.1] at hv
  refine ⟨by rw [hv]; exact Nat.le_of_lt (small1000 (by show 3 ≤ 1000; decide)), fun p hp => ?_⟩
  have g2 := Gr.newO (o := .tup vs) g.w hp
  have hq := hd.2 _ B' _ (putAll' ok (g.trans ok.w g2) hd.1 (r.newO hp)) g.b
  match vs, hv with
  | [v, w, u], _ => exact ⟨p, [v, w, u], rfl, SqT.of upd_same, rfl, v, [w, u], rfl, w, [u], rfl, u, [], rfl, rfl, hq⟩
end
end DL
namespace DL
open PySem L2 PySem.Spec PyProof.Rows
/-! ### errors: what a def lets out, what a suite holds -/
def errN : List Str := ["Unfit", "TooMany", "BadText", "BadChain", "BadLog", "Refused", "NothingToUndo"]
/-- whether an error of the class a is one of b -/
def subX (a b : Str) : Bool := a == b || b == "LineError" || b == "ValueError"
def IsX (c : C) (K : PySem.W.Frag) (x : Xn) (cls : Value) (d : Option Addr) (B H : Hp) : Prop :=
  x.nm ∈ errN ∧ cls = .ref (He.ga K x.nm) ∧ (x.fl = none → d = none) ∧ ∀ y dv, x.fl = some (y, dv) → ∃ dd v, d = some dd ∧ ¬ c.isBag dd ∧ H dd = some (.xd [(y, v)]) ∧ Rp B v dv
abbrev WE := Xn → Env → Prop
def toW (c : C) (K : PySem.W.Frag) (W : WE) : WX := fun cls d σ H => ∃ B ρ x, EOk c B H σ ρ ∧ IsX c K x cls d B H ∧ W x ρ
abbrev SpecE := List Sl → (D → Prop) → (Xn → Prop) → Prop
def toSpE (G : C → Prop) (K : PySem.W.Frag) (S : SpecE) : Sp := fun vs H Q E => ∃ c : C, G c ∧ c.H0 = H ∧ Wd c c.B0 H ∧ ∃ ss, ArgsOk c c.B0 H vs ss ∧
  S ss (fun d => ∀ v B' H', Gr c c.B0 H B' H' → Rp B' v d → Q v H') (fun x => ∀ cls d B' H', Gr c c.B0 H B' H' → IsX c K x cls d B' H' → E cls d H')
structure FnE (G : C → Prop) (P : Program) (w : World) (K : PySem.W.Frag) (mg : Str → Option Value) (base : Heap) (k : Nat) (f : Addr) (fd : FuncData) (ps : List Str) (S : SpecE) : Prop where
  mono : ∀ ss (Q Q' : D → Prop) (E E' : Xn → Prop), (∀ d, Q d → Q' d) → (∀ x, E x → E' x) → S ss Q E → S ss Q' E'
  len : ∀ ss Q E, S ss Q E → ss.length = ps.length
  run : ∀ (A : Around) (outer : List PySem.Env) (s : Shared) (H : Hp) (args : Args) (us : List Value) (vs : List V) (Q : VK) (E : XK), A.guards = some [] → Room k A → Env0 P w K mg base A outer s H →
    BindsTo s fd args (ps.zip us) → Vals vs us → toSpE G K S vs H Q E → codeAny (model P w) A (.call (.ref f) args) (CR (L2.CX P w) outer P w H s Q E) s
section
variable {G : C → Prop} {P : Program} {w : World} {K : PySem.W.Frag} {mg : Str → Option Value} {base : Heap}
theorem FnE.up {j k : Nat} {f : Addr} {fd : FuncData} {ps : List Str} {S : SpecE} (F : FnE G P w K mg base j f fd ps S) (h : j ≤ k) : FnE G P w K mg base k f fd ps S :=
  ⟨F.mono, F.len, fun A outer s H args us vs Q E hg hr => F.run A outer s H args us vs Q E hg (hr.mono h)⟩
/-- THE RULE for a def that may raise -/
theorem fne_of {x qual : Str} {st : Stmt} {f : Addr} {fd : FuncData} {N ps : List Str} {k : Nat} {S : SpecE} (F : Fun K x qual st f fd) (sc : FnScope N ps (defScope st))
    (mono : ∀ ss (Q Q' : D → Prop) (E E' : Xn → Prop), (∀ d, Q d → Q' d) → (∀ x, E x → E' x) → S ss Q E → S ss Q' E') (len : ∀ ss Q E, S ss Q E → ss.length = ps.length) (g : WE → SS)
    (body : ∀ (cdv : Value) (A : Around) (outer : List PySem.Env) (s : Shared) (c : C) (E : XK) (W : WE), G c → A.guards = some [] → Room k (A.deeper (envOfC qual (defScope st) s.heap.objs.size f cdv)) →
      Takes (cxOf (L2.CX P w) P w K mg base N qual (defScope st) f cdv A outer s c.H0 E) (toW c K W) →
      PassesOwn (model P w) (A.deeper (envOfC qual (defScope st) s.heap.objs.size f cdv)) (envOfC qual (defScope st) s.heap.objs.size f cdv) (cxOf (L2.CX P w) P w K mg base N qual (defScope st) f cdv A outer s c.H0 E).xe →
      PSsd (cxOf (L2.CX P w) P w K mg base N qual (defScope st) f cdv A outer s c.H0 E) c (defBody st) (g W))
    (run : ∀ ss Q E, S ss Q E → g (fun x _ => E x) (endsOf Q) (initE N ss)) : FnE G P w K mg base (k + 1) f fd ps S := by
  obtain ⟨oc, od, kV, doc, pm, an, cdv, ct, osl, rfl, lk', hcd⟩ := F.ex
  refine ⟨mono, len, ?_⟩
  intro A outer s H args us vs Q E hg hr e0 hb r hsp
  obtain ⟨c, hG, hH, wd, ss, ha, hS⟩ := hsp
  subst hH
  have hvl : vs.length = ps.length := by rw [ha.len]; exact len _ _ _ hS
  have stands : ∀ b o, base.get? b = some o → s.heap.get? b = some o := fun b o z => (e0.bs b o z).1
  have KX : K.In s.heap := e0.mod.kin.keeps stands
  refine codeAny_call_function hr.depth (KX _ _ lk') rfl sc.co sc.gen rfl (PySem.W.codeRec_of KX hcd) (hb _ _ _ _ (wpAny_newFunctionEnv_cells sc.kind ?_ ?_))
  · rintro ⟨n, v⟩ hy
    rcases sc.par n (List.of_mem_zip hy).1 with q | q
    · exact Or.inl q
    · exact Or.inr ⟨q, PySem.W.cellsFrom_some _ _ _ (Or.inl q)⟩
  · intro env he s1 x
    subst he
    refine ⟨(e0.mod.nolimit.keeps stands).keeps x.toInCall.keep, codeAny_func ?_⟩
    have tk : Takes (cxOf (L2.CX P w) P w K mg base N qual (defScope st) f cdv A outer s c.H0 E) (toW c K fun x _ => ∀ cls d B' H', Gr c c.B0 c.H0 B' H' → IsX c K x cls d B' H' → E cls d H') :=
      (takes_of rfl rfl rfl rfl).imp fun cls d σ H ⟨B, ρ, x, ok, hx, hw⟩ => hw cls d B H ok.g hx
    have hg1 := body cdv A outer s c E _ hG hg (hr.deeper _) tk (passes_of rfl)
    have I := inv_start (CX := L2.CX P w) (E := E) (qual := qual) sc hr.hd e0 hvl r x
    have ok := EOk.init (N := N) wd ha
    have goal := hg1.ps.run [] s1 (L2.start N vs) c.H0 { nx := fun _ H' => Q .non H', rt := Q } I ⟨c.B0, initE N ss, ok, hg1.mono (endsOf fun d => ∀ v B' H', Gr c c.B0 c.H0 B' H' → Rp B' v d → Q v H') _ _ ⟨fun ρ h σ' B' H' ok' _ => h .non B' H' ok'.g .non, fun _ h => h, fun _ h => h.elim, fun _ h => h.elim, fun _ h => h.elim⟩ (run ss _ _ hS)⟩
    refine wpAny_mono goal (fun fl s' hs => ?_) fun _ _ z => z
    cases fl with
    | ret u =>
      obtain ⟨v, σ', H', J, rv, q⟩ := hs
      exact ⟨v, H', J.os, J.bare, J.base, J.hok, rv, q⟩
    | next =>
      obtain ⟨σ', H', J, q⟩ := hs
      exact ⟨.non, H', J.os, J.bare, J.base, J.hok, rfl, q⟩
    | brk => exact hs.elim fun _ z => z.elim fun _ y => y.2.elim
    | cont => exact hs.elim fun _ z => z.elim fun _ y => y.2.elim
end
end DL
namespace DL
open PySem L2 PySem.Spec PyProof.Rows
/-! ### the guard, with another entry, another error held -/
abbrev C.at (c : C) (b0 h0 : Hp) (a : Addr) (d : Option Addr) (n : Str) : C := { c with B0 := b0, H0 := h0, xa := a, xd := d, xn := n }
section
variable {c : C} {B H b0 h0 : Hp} {a : Addr} {d : Option Addr} {n : Str} {σ : L2.St} {ρ : Env}
theorem Wd.at (w : Wd c B H) : Wd (c.at b0 h0 a d n) B H := ⟨w.sub, ⟨w.bag.out, w.bag.here, w.bag.ok⟩⟩
theorem Wd.of (w : Wd (c.at b0 h0 a d n) B H) : Wd c B H := ⟨w.sub, ⟨w.bag.out, w.bag.here, w.bag.ok⟩⟩
theorem Gr.at {B' H' : Hp} (g : Gr c B H B' H') : Gr (c.at b0 h0 a d n) B H B' H' := ⟨g.b, g.h, g.n, g.w.at⟩
theorem Gr.of {B' H' : Hp} (g : Gr (c.at b0 h0 a d n) B H B' H') : Gr c B H B' H' := ⟨g.b, g.h, g.n, g.w.of⟩
def noOw (ρ : Env) : Bool := ρ.all fun s => match s with | .ow _ => false | _ => true
def noEx (ρ : Env) : Bool := ρ.all fun s => match s with | .ex _ => false | _ => true
theorem noOw_at {i : Nat} {ds : List D} (h : noOw ρ = true) (e : ρ[i]? = some (Sl.ow ds)) : False := by
  have := List.all_eq_true.mp h _ (List.mem_of_getElem? e)
  cases this
theorem noEx_at {i : Nat} {x : Xn} (h : noEx ρ = true) (e : ρ[i]? = some (Sl.ex x)) : False := by
  have := List.all_eq_true.mp h _ (List.mem_of_getElem? e)
  cases this
theorem EOk.conv (ok : EOk c B H σ ρ) (w0 : Wd c b0 h0) (g : Gr c b0 h0 B H) (ho : ∀ (i : Nat) (ds : List D) (p : Addr), ρ[i]? = some (Sl.ow ds) → σ[i]? = some (some (V.ref p)) → h0 p = none) (hx : (a = c.xa ∧ d = c.xd ∧ n = c.xn) ∨ noEx ρ = true) :
    EOk (c.at b0 h0 a d n) B H σ ρ := by
  refine ⟨w0.at, ok.w.at, g.at, ok.len, fun i s hi => ?_, ok.ap⟩
  have o := ok.sl i s hi
  cases s with
  | un => trivial
  | sh _ => exact o
  | bg => exact o
  | ow ds =>
    obtain ⟨p, vs, h1, h2, h3⟩ := o
    exact ⟨p, vs, h1, ho i ds p hi h1, h3⟩
  | ex x =>
    rcases hx with ⟨rfl, rfl, rfl⟩ | hx
    · exact o
    · exact (noEx_at hx hi).elim
/-- a try's body begins -/
theorem EOk.base (ok : EOk c B H σ ρ) (no : noOw ρ = true) : EOk (c.at B H c.xa c.xd c.xn) B H σ ρ :=
  ok.conv ok.w (Gr.refl ok.w) (fun i ds p hi _ => (noOw_at no hi).elim) (.inl ⟨rfl, rfl, rfl⟩)
/-- .. is left -/
theorem EOk.unbase {B' H' : Hp} {σ' : L2.St} {ρ' : Env} (ok : EOk c B H σ ρ) (k : EOk (c.at B H c.xa c.xd c.xn) B' H' σ' ρ') : EOk c B' H' σ' ρ' := by
  refine EOk.conv (c := c.at B H c.xa c.xd c.xn) (b0 := c.B0) (h0 := c.H0) (a := c.xa) (d := c.xd) (n := c.xn) k (ok.w0.at) ((ok.g.trans ok.w0 k.g.of).at) (fun i ds p hi hp => ?_) (.inl ⟨rfl, rfl, rfl⟩)
  obtain ⟨q, vs, h1, h2, h3⟩ := k.sl i _ hi
  rw [hp] at h1
  cases h1
  exact ok.g.back h2
/-- a slot is wiped -/
theorem EOk.wipe (ok : EOk c B H σ ρ) (i : Nat) : EOk c B H (σ.set i none) (ρ.set i .un) := by
  have old : ∀ {j : Nat} {s : Sl}, (ρ.set i .un)[j]? = some s → s ≠ .un → j ≠ i ∧ ρ[j]? = some s := fun {j s} h hs => by
    by_cases e : i = j
    · subst e
      have hl : i < ρ.length := by
        have := (List.getElem?_eq_some_iff.mp h).1
        rw [List.length_set] at this; exact this
      rw [List.getElem?_set_self hl] at h
      cases h
      exact absurd rfl hs
    · rw [List.getElem?_set_ne e] at h
      exact ⟨Ne.symm e, h⟩
  refine ⟨ok.w0, ok.w, ok.g, by rw [List.length_set, List.length_set]; exact ok.len, fun j s hj => ?_, fun j k p ds es hjk h1 h2 h3 h4 => ?_⟩
  · by_cases hs : s = .un
    · subst hs; trivial
    · obtain ⟨ne, h⟩ := old hj hs
      exact (ok.sl j s h).congr (List.getElem?_set_ne (Ne.symm ne))
  · obtain ⟨n1, k1⟩ := old h1 (fun z => nomatch z)
    obtain ⟨n2, k2⟩ := old h2 (fun z => nomatch z)
    rw [List.getElem?_set_ne (Ne.symm n1)] at h3
    rw [List.getElem?_set_ne (Ne.symm n2)] at h4
    exact ok.ap j k p ds es hjk k1 k2 h3 h4
/-- a suite begins: slot i holds the error -/
theorem EOk.enter {x : Xn} (ok : EOk c B H σ ρ) (no : noEx ρ = true) (i : Nat) (hn : x.nm = n) (h0 : x.fl = none → d = none) (hx : ∀ y dv, x.fl = some (y, dv) → ∃ dd v, d = some dd ∧ ¬ c.isBag dd ∧ H dd = some (.xd [(y, v)]) ∧ Rp B v dv) :
    EOk (c.at c.B0 c.H0 a d n) B H (σ.set i (some (.ref a))) (ρ.set i (.ex x)) := by
  have k : EOk (c.at c.B0 c.H0 a d n) B H σ ρ := ok.conv ok.w0 ok.g (fun i ds p hi hp => by
    obtain ⟨q, vs, h1, h2, h3⟩ := ok.sl i _ hi
    rw [hp] at h1
    cases h1
    exact h2) (.inr no)
  exact k.put (fun hi => ⟨List.getElem?_set_self hi, ⟨hn, h0⟩, hx⟩) fun ds p e _ => nomatch e
/-- .. is left -/
theorem EOk.exit {B' H' : Hp} {σ' : L2.St} {ρ' : Env} (ok : EOk c B H σ ρ) (k : EOk (c.at B H a d n) B' H' σ' ρ') (i : Nat) (no : noEx (ρ'.set i .un) = true) : EOk c B' H' (σ'.set i none) (ρ'.set i .un) := by
  have k2 := k.wipe i
  refine EOk.conv (c := c.at B H a d n) (b0 := c.B0) (h0 := c.H0) (a := c.xa) (d := c.xd) (n := c.xn) k2 (ok.w0.at) ((ok.g.trans ok.w0 k.g.of).at) (fun j ds p hj hp => ?_) (.inr no)
  obtain ⟨q, vs, h1, h2, h3⟩ := k2.sl j _ hj
  rw [hp] at h1
  cases h1
  exact ok.g.back h2
end
/-! ### calls -/
def fCallE (W : WE) (S : SpecE) (fa : SA) : SE := fun ρ Q => fa ρ fun ss => S ss Q fun x => W x ρ
def fCallEK (W : WE) (S : SpecE) (is : List Nat) (fa : SA) : SE := fun ρ Q => fa ρ fun ss => S (perm is ss) Q fun x => W x ρ
section
variable {G : C → Prop} {X : Cx} {c : C} {k : Nat} {f : Addr} {fd : FuncData} {ps : List Str} {S : SpecE} {W : WE}
theorem run_fne {pins : List (Addr × Obj)} {σ : L2.St} {H : Hp} {s : Shared} {Q : VK} {E : XK} {Wx : WX} {args : Args} {us : List Value} {vs : List V} (F : FnE G X.prog X.w X.K X.mg X.base k f fd ps S) (hgd : X.A.guards = some []) (hr : Room k X.A) (I : Inv X pins σ H s)
    (hb : BindsTo s fd args (ps.zip us)) (r : Vals vs us) (tk : Takes X Wx) (hE : ∀ cls d H', E cls d H' → Wx cls d σ H') (h : toSpE G X.K S vs H Q E) : codeAny (model X.prog X.w) X.A (.call (.ref f) args) (wants (EP X pins σ Q) X.xe) s := by
  refine codeAny_mono (F.run X.A X.stack s H args us vs Q E hgd hr I.env0 hb r h) fun z s' hq => ?_
  cases z with
  | error e => exact tk _ _ (XE.of_call I hE hq)
  | ok fl => cases fl <;> first | exact I.after hq | exact False.elim hq
theorem ArgsOk.at {B H b0 h0 : Hp} {a : Addr} {d : Option Addr} {n : Str} : ∀ {vs : List V} {ss : List Sl}, ArgsOk c B H vs ss → ArgsOk (c.at b0 h0 a d n) B H vs ss
  | [], [], _ => trivial
  | _ :: _, s :: _, h => ⟨by cases s <;> exact h.1, ArgsOk.at h.2⟩
  | [], _ :: _, h => h.elim
  | _ :: _, [], h => h.elim
theorem toSpE_of {B H B1 H1 : Hp} {σ : L2.St} {ρ : Env} {Q : VK} {vs : List V} {ss : List Sl} (hG : ∀ B1 H1, G { c with B0 := B1, H0 := H1 }) (ok : EOk c B H σ ρ) (g : Gr c B H B1 H1) (F : FnE G X.prog X.w X.K X.mg X.base k f fd ps S) (r : ArgsOk c B1 H1 vs ss)
    (h : S ss (fun d => ∀ v B' H', Gr c B H B' H' → Rp B' v d → Q v H') (fun x => W x ρ)) : toSpE G X.K S vs H1 Q (fun cls d H' => toW c X.K W cls d σ H') :=
  ⟨c.at B1 H1 c.xa c.xd c.xn, hG _ _, rfl, g.w.at, ss, r.at, F.mono _ _ _ _ _ (fun d hd v B' H' g2 r2 => hd v B' H' (g.trans ok.w g2.of) r2)
    (fun x hw cls d B' H' g2 hx => ⟨B', ρ, x, ok.mono (g.trans ok.w g2.of), hx, hw⟩) h⟩
theorem v_callE0 {x : Str} {p pos : Pos} {e : Expr} {es : List Expr} {fa : SA} (F : FnE G X.prog X.w X.K X.mg X.base k f fd ps S) (tk : Takes X (toW c X.K W)) (hG : ∀ B1 H1, G { c with B0 := B1, H0 := H1 }) (hgd : X.A.guards = some []) (hr : Room k X.A) (hm : X.mg x = some (.ref f)) (hk : PySem.W.keepIn X.K (.ref f) = true) (hb : Binds X.K fd ps []) (ha : PAd X c (e :: es) fa)
    (hg : Gl X x := by rfl) (hdb : (x == ("__debug__" : Str)) = false := by decide) (he : starEach (e :: es) X.env = (false, eval e X.env) :: starEach es X.env := by rfl) (hpl : (backTo pos (starEach es X.env)).any (·.1) = false := by rfl) :
    PV X c (.Call (.Name x p) (e :: es) [] pos) (fCallE W S fa) := by
  refine ⟨fun ρ Q Q' k h => ha.mono _ _ _ (fun ss hs => F.mono _ _ _ _ _ k (fun _ z => z) hs) h, ⟨fun pins s σ H Q I ⟨B, ρ, ok, h⟩ => wpAny_Call_Name_kw (ld_glob I hg hm (PySem.W.callWith_K (h₀ := X.base) I.ok.mod.kin hk (wpAny_mono (ha.pa.run pos pins s σ H
    (fun vs H1 => ∃ B1 ss, Gr c B H B1 H1 ∧ ArgsOk c B1 H1 vs ss ∧ S ss (fun d => ∀ v B' H', Gr c B H B' H' → Rp B' v d → Q v H') fun x => W x ρ) I ⟨B, ρ, ok, ha.mono _ _ _ (fun ss hs vs B1 H1 g r => ⟨B1, ss, g, r, hs⟩) h⟩) (fun us s1 hv => ?_) fun _ _ z => z) he hpl) hdb)⟩⟩
  obtain ⟨vs, H1, I1, rv, B1, ss, g, ra, hS⟩ := hv
  have hl : us.length = ps.length := by rw [← rv.length, ra.len]; exact F.len _ _ _ hS
  refine ⟨I1.kIn, wpAny_call (run_fne F hgd hr I1 ?_ rv tk (fun _ _ _ z => z) (toSpE_of hG ok g F ra hS))⟩
  have := hb s1 us I1.kIn (by rw [List.append_nil]; exact hl)
  rw [List.append_nil] at this
  exact this
theorem v_callEK0 {x : Str} {p pos : Pos} {kws : List Keyword} {ks : List Str} {is : List Nat} {fa : SA} (F : FnE G X.prog X.w X.K X.mg X.base k f fd ps S) (tk : Takes X (toW c X.K W)) (hG : ∀ B1 H1, G { c with B0 := B1, H0 := H1 }) (hgd : X.A.guards = some []) (hr : Room k X.A) (hm : X.mg x = some (.ref f)) (hk : PySem.W.keepIn X.K (.ref f) = true) (hb : KwB X.K fd ps ks is) (ha : PKd X c kws fa)
    (hn : kws.length = ks.length := by rfl) (hg : Gl X x := by rfl) (hdb : (x == ("__debug__" : Str)) = false := by decide) (hall : (backToKw pos (keywordEach kws X.env)).all (·.1.isSome) = true := by rfl) (hks : (backToKw pos (keywordEach kws X.env)).filterMap (·.1) = ks := by rfl)
    (hpl : ((backTo pos (starEach [] X.env)).any (·.1) || (backToKw pos (keywordEach kws X.env)).any (·.1.isNone)) = false := by rfl) :
    PV X c (.Call (.Name x p) [] kws pos) (fCallEK W S is fa) := by
  refine ⟨fun ρ Q Q' k h => ha.mono _ _ _ (fun ss hs => F.mono _ _ _ _ _ k (fun _ z => z) hs) h, ⟨fun pins s σ H Q I ⟨B, ρ, ok, h⟩ => wpAny_Call_Name_kw (ld_glob I hg hm (PySem.W.callWith_KW0 (h₀ := X.base) I.ok.mod.kin hk hall (wpAny_mono (ha.pk.run pos pins s σ H
    (fun vs H1 => ∃ B1 ss, Gr c B H B1 H1 ∧ ArgsOk c B1 H1 vs ss ∧ ss.length = kws.length ∧ S (perm is ss) (fun d => ∀ v B' H', Gr c B H B' H' → Rp B' v d → Q v H') fun x => W x ρ) I ⟨B, ρ, ok, ha.mono _ _ _ (fun ss hs vs B1 H1 g r => ⟨B1, ss, g, r, hs.2, hs.1⟩) (ha.len _ _ h)⟩) (fun us s1 hv => ?_) fun _ _ z => z) hpl) hdb)⟩⟩
  obtain ⟨vs, H1, I1, rv, B1, ss, g, ra, hsl, hS⟩ := hv
  rw [hks]
  exact ⟨I1.kIn, wpAny_call (run_fne F hgd hr I1 (hb.to s1 us I1.kIn (by rw [← rv.length, ra.len, hsl, hn])) (perm_vals rv is) tk (fun _ _ _ z => z) (toSpE_of hG ok g F (perm_args ra is) hS))⟩
end
/-! ### by names -/
def KnE (P : Program) (w : World) (K : PySem.W.Frag) (mg : Str → Option Value) (base : Heap) (k : Nat) (x : Str) (ps : List Str) (S : SpecE) : Prop :=
  ∃ f fd, FnE IsLst P w K mg base k f fd ps S ∧ mg x = some (.ref f) ∧ PySem.W.keepIn K (.ref f) = true ∧ Binds K fd ps []
def KnEK (P : Program) (w : World) (K : PySem.W.Frag) (mg : Str → Option Value) (base : Heap) (k : Nat) (x : Str) (ps ks : List Str) (is : List Nat) (S : SpecE) : Prop :=
  ∃ f fd, FnE IsLst P w K mg base k f fd ps S ∧ mg x = some (.ref f) ∧ PySem.W.keepIn K (.ref f) = true ∧ KwB K fd ps ks is
section
variable {P : Program} {w : World} {K : PySem.W.Frag} {mg : Str → Option Value} {base : Heap} {j k : Nat} {x : Str} {ps ks : List Str} {is : List Nat} {S : SpecE} {f : Addr} {fd : FuncData}
theorem KnE.up (h : KnE P w K mg base j x ps S) (l : j ≤ k) : KnE P w K mg base k x ps S := let ⟨f, fd, h1, h2⟩ := h; ⟨f, fd, h1.up l, h2⟩
theorem KnEK.up (h : KnEK P w K mg base j x ps ks is S) (l : j ≤ k) : KnEK P w K mg base k x ps ks is S := let ⟨f, fd, h1, h2⟩ := h; ⟨f, fd, h1.up l, h2⟩
theorem KnE.mk (h : FnE IsLst P w K mg base k f fd ps S) (h1 : mg x = some (.ref f)) (h2 : PySem.W.keepIn K (.ref f) = true) (h3 : Binds K fd ps []) : KnE P w K mg base k x ps S := ⟨f, fd, h, h1, h2, h3⟩
theorem KnEK.mk (h : FnE IsLst P w K mg base k f fd ps S) (h1 : mg x = some (.ref f)) (h2 : PySem.W.keepIn K (.ref f) = true) (h3 : KwB K fd ps ks is) : KnEK P w K mg base k x ps ks is S := ⟨f, fd, h, h1, h2, h3⟩
end
section
variable {X : Cx} {c : C} {k : Nat} {ps : List Str} {S : SpecE} {W : WE}
theorem v_callE {x : Str} {p pos : Pos} {e : Expr} {es : List Expr} {fa : SA} (F : KnE X.prog X.w X.K X.mg X.base k x ps S) (tk : Takes X (toW c X.K W)) (hG : IsLst c) (hgd : X.A.guards = some []) (hr : Room k X.A) (ha : PAd X c (e :: es) fa)
    (hg : Gl X x := by rfl) (hdb : (x == ("__debug__" : Str)) = false := by decide) (he : starEach (e :: es) X.env = (false, eval e X.env) :: starEach es X.env := by rfl) (hpl : (backTo pos (starEach es X.env)).any (·.1) = false := by rfl) :
    PV X c (.Call (.Name x p) (e :: es) [] pos) (fCallE W S fa) := by
  obtain ⟨f, fd, h1, h2, h3, h4⟩ := F
  exact v_callE0 h1 tk hG.up hgd hr h2 h3 h4 ha hg hdb he hpl
theorem v_callEK {x : Str} {p pos : Pos} {kws : List Keyword} {ks : List Str} {is : List Nat} {fa : SA} (F : KnEK X.prog X.w X.K X.mg X.base k x ps ks is S) (tk : Takes X (toW c X.K W)) (hG : IsLst c) (hgd : X.A.guards = some []) (hr : Room k X.A) (ha : PKd X c kws fa)
    (hn : kws.length = ks.length := by rfl) (hg : Gl X x := by rfl) (hdb : (x == ("__debug__" : Str)) = false := by decide) (hall : (backToKw pos (keywordEach kws X.env)).all (·.1.isSome) = true := by rfl) (hks : (backToKw pos (keywordEach kws X.env)).filterMap (·.1) = ks := by rfl)
    (hpl : ((backTo pos (starEach [] X.env)).any (·.1) || (backToKw pos (keywordEach kws X.env)).any (·.1.isNone)) = false := by rfl) :
    PV X c (.Call (.Name x p) [] kws pos) (fCallEK W S is fa) := by
  obtain ⟨f, fd, h1, h2, h3, h4⟩ := F
  exact v_callEK0 h1 tk hG.up hgd hr h2 h3 h4 ha hn hg hdb hall hks hpl
end
end DL
namespace DL
open PySem L2 PySem.Spec PyProof.Rows
/-! ### raise -/
def fRaise0 (W : WE) (nm : Str) : SS := fun D ρ => W ⟨nm, none⟩ ρ
def fRaise1 (W : WE) (nm y : Str) (fe : SE) : SS := fun D ρ => fe ρ fun d => W ⟨nm, some (y, d)⟩ ρ
section
variable {X : Cx} {c : C} {k : Nat} {W : WE} {x y : Str} {p p2 pos : Pos} {e : Expr} {fe : SE}
theorem s_raise0 (hc : X.calm = true) (tk : Takes X (toW c X.K W)) (T : EX.Ec0 X.prog X.K (He.ga X.K x)) (hr : Room (k + 1) X.A) (gs : X.mg "super" = none) (hm : X.mg x = some (.ref (He.ga X.K x))) (hx : x ∈ errN := by decide) (hg : Gl X x := by rfl) (hdb : (x == ("__debug__" : Str)) = false := by decide) (he : starEach [] X.env = [] := by rfl) :
    PSd X c (.Raise (some (.Call (.Name x p) [] [] p2)) none pos) (fRaise0 W x) :=
  ⟨fun _ _ _ _ h => h, ps_weak (ps_raise hc tk (EX.pmk_zero T hr gs hg hm hdb he)) fun D σ H ⟨B, ρ, ok, h⟩ => ⟨B, ρ, ⟨x, none⟩, ok, ⟨hx, rfl, fun _ => rfl, fun y dv z => nomatch z⟩, h⟩⟩
theorem s_raise1 (hc : X.calm = true) (tk : Takes X (toW c X.K W)) (T : EX.Ec1 X.prog X.K (He.ga X.K x) y) (hr : Room (k + 1) X.A) (gs : X.mg "super" = none) (hm : X.mg x = some (.ref (He.ga X.K x))) (ha : PV X c e fe) (hx : x ∈ errN := by decide) (hg : Gl X x := by rfl) (hdb : (x == ("__debug__" : Str)) = false := by decide)
    (he : starEach [e] X.env = (false, eval e X.env) :: starEach [] X.env := by rfl) (hpl : (backTo p2 (starEach [] X.env)).any (·.1) = false := by rfl) : PSd X c (.Raise (some (.Call (.Name x p) [e] [] p2)) none pos) (fRaise1 W x y fe) := by
  refine ⟨fun _ _ _ _ h => h, ps_weak (ps_raise hc tk (EX.pmk_one T hr gs hg hm ha.pe hdb he hpl)) fun D σ H ⟨B, ρ, ok, h⟩ => ⟨B, ρ, ok, ha.mono _ _ _ (fun d hd v B1 H1 g1 r1 a hz => ?_) h⟩⟩
  refine ⟨B1, ρ, ⟨x, some (y, d)⟩, ok.mono (g1.trans ok.w (Gr.newO (o := .xd [(y, v)]) g1.w hz)), ⟨hx, rfl, (fun z => nomatch z), fun y' dv z => ?_⟩, hd⟩
  cases z
  exact ⟨a, v, rfl, fun z => g1.w.there z hz, upd_same, r1⟩
end
/-! ### try: body, except x as n: suite -/
/-- the ends of a suite: the name goes -/
def suiteE (i : Nat) (D : En) : En := { nx := fun ρ => noEx (ρ.set i .un) = true ∧ D.nx (ρ.set i .un), rt := D.rt, bk := fun ρ => noEx (ρ.set i .un) = true ∧ D.bk (ρ.set i .un), ct := fun ρ => noEx (ρ.set i .un) = true ∧ D.ct (ρ.set i .un), ro := fun _ => False }
def fHand (i : Nat) (T : Str) (fs : SS) (Wo : WE) (D : En) (x : Xn) (ρ : Env) : Prop := if subX x.nm T = true then noEx ρ = true ∧ fs (suiteE i D) (ρ.set i (.ex x)) else Wo x ρ
def fTry (i : Nat) (T : Str) (fb : WE → SS) (fs : SS) (Wo : WE) : SS := fun D ρ => noOw ρ = true ∧ ∃ (W : WE) (D0 : En), En.le D0 D ∧ (∀ x ρ1, W x ρ1 → fHand i T fs Wo D x ρ1) ∧ fb W D0 ρ
theorem suiteE_le {i : Nat} {D D' : En} (l : En.le D D') : En.le (suiteE i D) (suiteE i D') := ⟨fun _ h => ⟨h.1, l.nx _ h.2⟩, l.rt, fun _ h => ⟨h.1, l.bk _ h.2⟩, fun _ h => ⟨h.1, l.ct _ h.2⟩, fun _ h => h⟩
theorem En.le.trans {D D' D2 : En} (a : En.le D D') (b : En.le D' D2) : En.le D D2 := ⟨fun _ h => b.nx _ (a.nx _ h), fun _ h => b.rt _ (a.rt _ h), fun _ h => b.bk _ (a.bk _ h), fun _ h => b.ct _ (a.ct _ h), fun _ h => b.ro _ (a.ro _ h)⟩
theorem fHand_mono {i : Nat} {T : Str} {fs : SS} {Wo : WE} (ms : MonoS fs) {D D' : En} (l : En.le D D') {x : Xn} {ρ : Env} (h : fHand i T fs Wo D x ρ) : fHand i T fs Wo D' x ρ := by
  unfold fHand at h ⊢
  by_cases hb : subX x.nm T = true
  · rw [if_pos hb] at h ⊢
    exact ⟨h.1, ms _ _ _ (suiteE_le l) h.2⟩
  · rw [if_neg hb] at h ⊢
    exact h
section
variable {X : Cx} {c : C} {x n : Str} {body suite : List Stmt} {b₀ : Stmt} {np pos pos' : Pos} {fb : WE → SS} {fs : SS} {Wo : WE}
theorem s_try_as (i : Nat) (hN : X.N.Nodup) (hsub : ∀ nm ∈ errN, PySem.W.exmOne X.K (.ref (He.ga X.K nm)) (.ref (He.ga X.K x)) = some (subX nm x)) (hm : X.mg x = some (.ref (He.ga X.K x))) (tk : Takes X (toW c X.K Wo))
    (hb : ∀ (b0 h0 : Hp) (W : WE) (pn : List (Addr × Obj)) (xe : Value → Shared → Prop), Takes (X.tr pn xe) (toW (c.at b0 h0 c.xa c.xd c.xn) X.K W) → PassesOwn (model X.prog X.w) X.A X.env xe → PSsd (X.tr pn xe) (c.at b0 h0 c.xa c.xd c.xn) body (fb W))
    (hsu : ∀ (b0 h0 : Hp) (a : Addr) (oe : Obj) (d : Option Addr) (nm : Str) (pn : List (Addr × Obj)), nm ∈ errN → Zc (.ref (He.ga X.K nm)) d oe → (∃ vs, oe.data = .fields vs) → PSsd (X.suite a ((a, oe) :: pn)) (c.at b0 h0 a d nm) (b₀ :: suite) fs)
    (hs : X.stack = X.env :: X.outer := by rfl) (hf : X.env.frame = some X.env.locals := by rfl) (hi : X.N[i]? = some n := by rfl) (hln : X.env.kindOf n = some .local := by rfl) (hg : Gl X x := by rfl) (hdb : (x == ("__debug__" : Str)) = false := by decide) :
    PSd X c (.Try body [.ExceptHandler (some (.Name x np)) (some n) (b₀ :: suite) pos'] [] [] pos) (fTry i x fb fs Wo) := by
  have ms : MonoS fs := (hsu (fun _ => none) (fun _ => none) 0 { cls := .ref (He.ga X.K "Unfit"), dict := none, data := .fields #[] } none "Unfit" [] (by decide) ⟨rfl, rfl⟩ ⟨_, rfl⟩).mono
  refine ⟨fun D D' ρ l h => ?_, ?_⟩
  · obtain ⟨h1, W, D0, l0, h2, h3⟩ := h
    exact ⟨h1, W, D0, l0.trans l, fun x ρ1 hw => fHand_mono ms l (h2 x ρ1 hw), h3⟩
  · let tb : WX → TS := fun Wx D σ H => ∃ (b0 h0 : Hp) (W : WE), (∀ x ρ σ B H cls d, W x ρ → EOk (c.at b0 h0 c.xa c.xd c.xn) B H σ ρ → IsX c X.K x cls d B H → Wx cls d σ H) ∧ ∃ B ρ D0, EOk (c.at b0 h0 c.xa c.xd c.xn) B H σ ρ ∧ En.le D0 (liftE (c.at b0 h0 c.xa c.xd c.xn) B D) ∧ fb W D0 ρ
    let ts : Addr → Value → Option Addr → TS := fun a cls d D σ H => ∃ (b0 h0 : Hp) (nm : Str), nm ∈ errN ∧ cls = .ref (He.ga X.K nm) ∧ toS (c.at b0 h0 a d nm) fs D σ H
    have main := ps_try_as (X := X) (x := x) (n := n) (c := .ref (He.ga X.K x)) (i := i) (body := body) (suite := suite) (b₀ := b₀) (np := np) (pos := pos) (pos' := pos') (tb := tb) (ts := ts) (Wout := toW c X.K Wo) hs hf hN hi hln ⟨hg, hdb, .inl hm⟩ tk
      (fun Wx pn xe tk' hp' => ⟨fun pins s σ H D I ⟨b0, h0, W, hW, B, ρ, D0, ok, l0, h⟩ =>
        have z := hb b0 h0 W pn xe (tk'.imp fun cls d σ H ⟨B, ρ, x, ok, hx, hw⟩ => hW x ρ σ B H cls d hw ok hx) hp'
        z.ps.run pins s σ H D I ⟨B, ρ, ok, z.mono _ _ _ l0 h⟩⟩)
      (fun a oe cls d pn hz hv => ⟨fun pins s σ H D I ⟨b0, h0, nm, hnm, e, h⟩ => by
        subst e
        exact (hsu b0 h0 a oe d nm pn hnm hz hv).ps.run pins s σ H D I h⟩)
    refine ps_weak main fun D σ H ⟨B, ρ, ok, no, W, D0, l0, hW, h⟩ => ?_
    have okb := ok.base no
    refine ⟨B, H, W, fun x1 ρ1 σ1 B1 H1 cls d hw ok1 hx => ?_, B, ρ, D0, okb, l0.trans ?_, h⟩
    · have hh := hW x1 ρ1 hw
      obtain ⟨hmem, hcls, hf0, hfl⟩ := hx
      subst hcls
      refine ⟨subX x1.nm x, hsub _ hmem, fun hb1 a ha => ?_, fun hb1 => ?_⟩
      · unfold fHand at hh
        rw [if_pos hb1] at hh
        obtain ⟨noE, hh⟩ := hh
        refine ⟨B, H, x1.nm, hmem, rfl, B1, ρ1.set i (.ex x1), ok1.enter noE i rfl hf0 hfl, ms (suiteE i (liftE c B D)) _ _ ⟨fun ρ2 q σ' B' H' ok2 _ => ?_, fun d q v B' H' g r => ?_, fun ρ2 q σ' B' H' ok2 _ => ?_, fun ρ2 q σ' B' H' ok2 _ => ?_, fun _ q => q.elim⟩ hh⟩
        · exact q.2 _ B' H' (ok.exit ok2 i q.1) ok2.g.b
        · exact q v B' H' (ok.g.trans ok.w0 g.of) r
        · exact q.2 _ B' H' (ok.exit ok2 i q.1) ok2.g.b
        · exact q.2 _ B' H' (ok.exit ok2 i q.1) ok2.g.b
      · unfold fHand at hh
        rw [if_neg (by rw [hb1]; exact Bool.false_ne_true)] at hh
        exact ⟨B1, ρ1, x1, ok.unbase ok1, ⟨hmem, rfl, hf0, hfl⟩, hh⟩
    · refine ⟨fun ρ2 q σ' B' H' ok2 e => q σ' B' H' (ok.unbase ok2) e, fun d q v B' H' g r => q v B' H' (ok.g.trans ok.w0 g.of) r, fun ρ2 q σ' B' H' ok2 e => q σ' B' H' (ok.unbase ok2) e, fun ρ2 q σ' B' H' ok2 e => q σ' B' H' (ok.unbase ok2) e, fun ds q p vs B' H' g h0 h1 h2 r => ?_⟩
      exact q p vs B' H' (ok.g.trans ok.w0 g.of) (ok.g.back h0) h1 h2 r
end
end DL
namespace DL
open PySem L2 PySem.Spec PyProof.Rows
/-! ### sizes -/
def Sm (k : Nat) (i : Int) : Prop := i.natAbs < 2 ^ k
theorem Sm.le {k l : Nat} {i : Int} (h : Sm k i) (hl : k ≤ l) : Sm l i := Nat.lt_of_lt_of_le h (Nat.pow_le_pow_right (by decide) hl)
theorem Sm.neg {k : Nat} {i : Int} (h : Sm k i) : Sm k (-i) := by unfold Sm at *; rw [Int.natAbs_neg]; exact h
theorem Sm.add {k : Nat} {i j : Int} (h : Sm k i) (h' : Sm k j) : Sm (k + 1) (i + j) := by
  unfold Sm at *
  have := Int.natAbs_add_le i j
  rw [Nat.pow_succ]
  omega
theorem Sm.sub {k : Nat} {i j : Int} (h : Sm k i) (h' : Sm k j) : Sm (k + 1) (i - j) := by
  have := Sm.add h h'.neg
  rwa [← Int.sub_eq_add_neg] at this
theorem Sm.mul {k l : Nat} {i j : Int} (h : Sm k i) (h' : Sm l j) : Sm (k + l) (i * j) := by
  unfold Sm at *
  rw [Int.natAbs_mul, Nat.pow_add]
  exact Nat.mul_lt_mul'' h h'
theorem Sm.nat {k : Nat} {i : Int} (h0 : 0 ≤ i) (h : i < 2 ^ k) : Sm k i := by
  unfold Sm
  have e : ((i.natAbs : Nat) : Int) < ((2 ^ k : Nat) : Int) := by
    rw [Int.natAbs_of_nonneg h0]
    exact_mod_cast h
  exact_mod_cast e
theorem Sm.abs {k : Nat} {i : Int} (h : Sm k i) : Sm k (if i < 0 then -i else i) := by
  split
  · exact h.neg
  · exact h
theorem Sm.mulw {k l : Nat} {i j : Int} (h : Sm k i) (h' : Sm l j) (hs : k + l + 2 ≤ 1000000 := by omega) : CMulW i j :=
  wide_mul (a := k + 1) (b := l + 1) (h.le (Nat.le_succ k)) (h'.le (Nat.le_succ l)) (by omega) (by omega) (by omega)
theorem Sm.log {k : Nat} {i : Int} (h : Sm k i) (hk : k < 9000 := by omega) : i.natAbs.log2 < 9000 := by
  have := log2_lt (k := k + 1) (by omega) (h.le (Nat.le_succ k))
  omega
/-- divided by a positive number -/
theorem Sm.div {k : Nat} {i g : Int} (h : Sm k i) (hg : 0 < g) : Sm k (i / g) := by
  unfold Sm at *
  have h1 : (i / g).natAbs ≤ i.natAbs := by
    have e1 := Int.ediv_mul_le i (Int.ne_of_gt hg)
    have e2 := Int.lt_ediv_add_one_mul_self i hg
    by_cases z : 0 ≤ i
    · have : 0 ≤ i / g := Int.ediv_nonneg z (Int.le_of_lt hg)
      have : i / g ≤ i := Int.ediv_le_self g z
      omega
    · have n : i / g < 0 := Int.ediv_neg_of_neg_of_pos (by omega) hg
      have q := Int.mul_le_mul_of_nonneg_left (a := 1) (b := g) (c := -i) (by omega) (by omega)
      rw [Int.mul_one, Int.neg_mul] at q
      have : i ≤ i / g := Int.le_ediv_of_mul_le hg (by omega)
      omega
  omega
theorem Sm.emod {k : Nat} {i g : Int} (hg : 0 < g) (h : Sm k g) : Sm k (i % g) := by
  unfold Sm at *
  have := Int.emod_nonneg i (Int.ne_of_gt hg)
  have := Int.emod_lt_of_pos i hg
  omega
/-! ### gcd -/
theorem gcd_fmod (i j : Int) : Int.gcd j (i.fmod j) = Int.gcd i j := by
  rw [Int.fmod_def, Int.gcd_comm i j]
  have : i - j * i.fdiv j = i + j * (-(i.fdiv j)) := by rw [Int.mul_neg]; omega
  rw [this]
  simp
theorem gcd_emod (i j : Int) : Int.gcd j (i % j) = Int.gcd i j := by
  rw [Int.emod_def, Int.gcd_comm i j]
  have : i - j * (i / j) = i + j * (-(i / j)) := by rw [Int.mul_neg]; omega
  rw [this]
  simp
/-! ### whole roots -/
def Rt (n s : Int) : Prop := 0 ≤ s ∧ s * s ≤ n ∧ n < (s + 1) * (s + 1)
theorem sq_exp (s : Int) : (s + 1) * (s + 1) = s * s + 2 * s + 1 := by
  rw [Int.add_mul, Int.mul_add, Int.mul_one, Int.one_mul]; omega
theorem rt_ex (n : Nat) : ∃ s, Rt n s := by
  induction n with
  | zero => exact ⟨0, by decide, by decide, by decide⟩
  | succ n ih =>
    obtain ⟨s, h0, h1, h2⟩ := ih
    by_cases h : ((n + 1 : Nat) : Int) < (s + 1) * (s + 1)
    · exact ⟨s, h0, by omega, h⟩
    · refine ⟨s + 1, by omega, by omega, ?_⟩
      have := sq_exp (s + 1)
      omega
theorem rt_of {n : Int} (h : 0 ≤ n) : ∃ s, Rt n s := by
  obtain ⟨s, hs⟩ := rt_ex n.toNat
  rw [Int.toNat_of_nonneg h] at hs
  exact ⟨s, hs⟩
theorem sq_le {a b : Int} (h0 : 0 ≤ a) (h : a ≤ b) : a * a ≤ b * b := Int.mul_le_mul h h h0 (by omega)
theorem rt_unique {n s t : Int} (h : Rt n s) (k : Rt n t) : s = t := by
  apply Classical.byContradiction
  intro c
  rcases Int.lt_or_gt_of_ne c with c | c
  · have := sq_le (a := s + 1) (b := t) (by have := h.1; omega) (by omega)
    have := h.2.2
    have := k.2.1
    omega
  · have := sq_le (a := t + 1) (b := s) (by have := k.1; omega) (by omega)
    have := k.2.2
    have := h.2.1
    omega
theorem rt_sq {n s r : Int} (h : Rt n s) (hr : 0 ≤ r) (e : r * r = n) : s = r := rt_unique h ⟨hr, by omega, by have := sq_exp r; omega⟩
/-- the mean is no less than the root -/
theorem rt_up {n s r : Int} (h : Rt n s) (hr : 0 < r) : s ≤ (r + n / r) / 2 := by
  obtain ⟨h0, h1, h2⟩ := h
  apply Classical.byContradiction
  intro c
  have c1 : r + n / r ≤ 2 * s - 1 := by omega
  have q : n < (n / r + 1) * r := Int.lt_ediv_add_one_mul_self n hr
  have le : n / r + 1 ≤ 2 * s - r := by omega
  have m := Int.mul_le_mul_of_nonneg_right le (Int.le_of_lt hr)
  have e : (2 * s - r) * r = s * s - (s - r) * (s - r) := by
    rw [Int.sub_mul, Int.sub_mul, Int.mul_sub, Int.mul_sub, Int.mul_assoc, Int.mul_comm r s]; omega
  have sq : 0 ≤ (s - r) * (s - r) := by
    rcases Int.le_total 0 (s - r) with z | z
    · exact Int.mul_nonneg z z
    · have := Int.mul_nonneg (a := -(s - r)) (b := -(s - r)) (by omega) (by omega)
      rwa [Int.neg_mul_neg] at this
  omega
theorem rt_quot {n s r : Int} (h : Rt n s) (hr : s < r) : n / r ≤ s := by
  obtain ⟨h0, h1, h2⟩ := h
  have m := Int.mul_le_mul_of_nonneg_left (a := s + 1) (b := r) (c := s + 1) (by omega) (by omega)
  have : n / r < s + 1 := Int.ediv_lt_of_lt_mul (by omega) (by omega)
  omega
/-- where it does not fall the root is reached -/
theorem rt_stop {n s r : Int} (h : Rt n s) (hr : 0 < r) (hs : s ≤ r) (k : r ≤ (r + n / r) / 2) : r = s := by
  apply Classical.byContradiction
  intro c
  have := rt_quot h (r := r) (by omega)
  omega
theorem rt_half {n s r : Int} (h : Rt n s) (hs : s < r) : 2 * ((r + n / r) / 2 - s) ≤ r - s := by
  have := rt_quot h hs
  omega
theorem rt_pos {n s : Int} (h : Rt n s) (hn : 2 ≤ n) : 0 < s := by
  apply Classical.byContradiction
  intro c
  have e : s = 0 := by have := h.1; omega
  have := h.2.2
  rw [e] at this
  omega
theorem bits_lt (n : Nat) : n < 2 ^ (Builtin.Int.intBits (n : Int)) := by
  unfold Builtin.Int.intBits
  by_cases z : n = 0
  · subst z; decide
  · have : ((n : Int) == 0) = false := by simp; omega
    first
      | (rw [this]; simp only [Bool.false_eq_true, if_false, Int.natAbs_natCast]; exact Nat.lt_log2_self)
      | (simp only [Int.natAbs_natCast]; split <;> first | omega | exact Nat.lt_log2_self)
      | (simp only [Int.natAbs_natCast]; exact Nat.lt_log2_self)
theorem bits_le {n : Nat} {k : Nat} (hk : 0 < k) (h : n < 2 ^ k) : Builtin.Int.intBits (n : Int) ≤ k := by
  have l := log2_lt hk h
  unfold Builtin.Int.intBits
  first
    | (split <;> simp_all <;> omega)
    | (simp only [Int.natAbs_natCast]; omega)
/-- the first guess is above the root -/
theorem rt_first {n : Nat} {s : Int} (h : Rt n s) (b : Nat) (hb : Builtin.Int.intBits (n : Int) ≤ 2 * b) : s < 2 ^ b := by
  have e := Nat.lt_of_lt_of_le (bits_lt n) (Nat.pow_le_pow_right (by decide : 0 < 2) hb)
  apply Classical.byContradiction
  intro c
  have c : (2 : Int) ^ b ≤ s := by omega
  have p : (0 : Int) ≤ 2 ^ b := Int.le_of_lt (Int.pow_pos (by decide))
  have m := sq_le p c
  have e2 : ((n : Nat) : Int) < (2 : Int) ^ b * 2 ^ b := by
    rw [← Int.pow_add]
    have : b + b = 2 * b := by omega
    rw [this]
    exact_mod_cast e
  have := h.2.1
  omega
end DL
namespace DL
open PySem L2 PySem.Spec PyProof.Rows
/-! ### a tuple, taken k times -/
theorem tuple_mul0 (l : Addr) (items : Array Value) (n : Nat) (dd : Option Addr) (sl : Array (Option Value)) (x : Int) (u : Tok) (c0 : (decide (x < -(2 ^ 63)) || decide (x ≥ 2 ^ 63)) = false) (c1 : (items.isEmpty || x == 1) = false) (c2 : (decide (x ≤ 0) || items.isEmpty) = true) :
    Meets (Builtin.«tuple.__mul__» ⟨[.ref l, .int x u], []⟩) (fun _ R s => s.heap.get? l = some { cls := .type "tuple", dict := dd, data := .seq items n, slots := sl } ∧
      R (.ok (.ret (Value.ref s.heap.objs.size))) { s with heap := s.heap.push { cls := Value.type "tuple", data := Data.seq #[] }, toks := s.toks }) :=
  .of_wp fun prog w A R s h => by
    obtain ⟨hp, g, d, tk, os⟩ := s
    obtain ⟨hl, h⟩ := h
    have f1 := AutoSeq1.idx_int
    wp_walk using wpAny_loadPart' hl
    repeat (first
      | (refine wpAny_ite_false (decide_eq_false (by rw [c0]; exact Bool.false_ne_true)) ?_; wp_walk using wpAny_loadPart' hl)
      | (refine wpAny_ite_false (decide_eq_false (by rw [c1]; exact Bool.false_ne_true)) ?_; wp_walk using wpAny_loadPart' hl)
      | (refine wpAny_ite_true (decide_eq_true c2) ?_; wp_walk using wpAny_loadPart' hl))
    exact ⟨_, rfl, h⟩
theorem tuple_mul1 (l : Addr) (items : Array Value) (n : Nat) (dd : Option Addr) (sl : Array (Option Value)) (x : Int) (u : Tok) (c0 : (decide (x < -(2 ^ 63)) || decide (x ≥ 2 ^ 63)) = false) (c1 : (items.isEmpty || x == 1) = true) :
    Meets (Builtin.«tuple.__mul__» ⟨[.ref l, .int x u], []⟩) (fun _ R s => s.heap.get? l = some { cls := .type "tuple", dict := dd, data := .seq items n, slots := sl } ∧
      R (.ok (.ret (Value.ref l))) s) :=
  .of_wp fun prog w A R s h => by
    obtain ⟨hp, g, d, tk, os⟩ := s
    obtain ⟨hl, h⟩ := h
    have f1 := AutoSeq1.idx_int
    wp_walk using wpAny_loadPart' hl
    repeat (first
      | (refine wpAny_ite_false (decide_eq_false (by rw [c0]; exact Bool.false_ne_true)) ?_; wp_walk using wpAny_loadPart' hl)
      | (refine wpAny_ite_true (decide_eq_true c1) ?_; wp_walk using wpAny_loadPart' hl))
    exact ⟨_, rfl, h⟩
section
variable {X : Cx} {c : C}
def rRep01 (K : PySem.W.Frag) : R2 := fun x y H Q => ∃ l k xs, x = .ref l ∧ y = .int k ∧ SqT K H l xs ∧ xs ≠ [] ∧ ((k = 0 ∧ ∀ p, H p = none → Q (.ref p) (upd H p (.tup []))) ∨ (k = 1 ∧ Q (.ref l) H))
theorem op_rep01 : OpR X (binaryOp .Mult) (rRep01 X.K) := by
  intro pins s σ H x y v u Q I rx ry h
  obtain ⟨l, k, xs, rfl, rfl, hT, hne, h⟩ := h
  cases rx
  obtain ⟨t, rfl⟩ := ry
  obtain ⟨its, r, ⟨⟨cls, dd, data, sl⟩, ho, hc, n, hd⟩, hs⟩ := I.tuple hT
  simp only at hc hd
  subst hc hd
  have hle : its.length = xs.length := r.length.symm
  have hn : its ≠ [] := fun e => hne (by
    rw [e] at hle
    exact List.eq_nil_of_length_eq_zero hle.symm)
  have hi : its.toArray.isEmpty = false := by
    cases its with
    | nil => exact absurd rfl hn
    | cons a b => rfl
  rcases h with ⟨rfl, q⟩ | ⟨rfl, q⟩
  · refine wpAny_binaryOp_repeat_ref (T := "tuple") (U := "int") (by decide) ⟨_, ho, rfl⟩ (fun s' => typeIs_int s' 0 t) noFill_tuple_mul F.fills_int_mul F.slot_int_rmul repeat_tuple F.slot_int_index.lookup
      (call_meets F.slot_int_rmul (typeIs_int s 0 t) F.entry_int_rmul (F.args_int_rmul_2 _ _) (int_rmul_tuple 0 t l its.toArray n dd sl)
        ⟨ho, rfl, ⟨_, ho, rfl⟩, call_meets F.slot_tuple_mul ⟨_, ho, rfl⟩ F.entry_tuple_mul (F.args_tuple_mul_2 _ _) (tuple_mul0 l its.toArray n dd sl 0 t rfl (by rw [hi]; rfl) rfl) ⟨ho, ?_⟩⟩)
    refine ⟨.ref s.heap.objs.size, _, I.laid (t' := s.toks) (o := .tup []) (fun b ob q => Heap.get?_push_of_some _ q) (Nat.le_refl _) ?_, rfl, q _ (I.hok.fresh (Nat.le_refl _))⟩
    exact ⟨Nat.zero_le _, [], .nil, IsTup.new _ _⟩
  · refine wpAny_binaryOp_repeat_ref (T := "tuple") (U := "int") (by decide) ⟨_, ho, rfl⟩ (fun s' => typeIs_int s' 1 t) noFill_tuple_mul F.fills_int_mul F.slot_int_rmul repeat_tuple F.slot_int_index.lookup
      (call_meets F.slot_int_rmul (typeIs_int s 1 t) F.entry_int_rmul (F.args_int_rmul_2 _ _) (int_rmul_tuple 1 t l its.toArray n dd sl)
        ⟨ho, rfl, ⟨_, ho, rfl⟩, call_meets F.slot_tuple_mul ⟨_, ho, rfl⟩ F.entry_tuple_mul (F.args_tuple_mul_2 _ _) (tuple_mul1 l its.toArray n dd sl 1 t rfl (by rw [hi]; rfl)) ⟨ho, ?_⟩⟩)
    exact ⟨.ref l, H, I, rfl, q⟩
def gRepT : G2 | .tuple ds, .int k, Q => ds ≠ [] ∧ 0 ≤ k ∧ k ≤ 1000 ∧ ds.length ≤ 1000 ∧ Q (.tuple (List.replicate k.toNat ds).flatten) | _, _, _ => False
theorem m_RepT : MonoG gRepT := fun d e Q Q' k h => by
  cases d <;> cases e <;> first | exact h.elim | exact ⟨h.1, h.2.1, h.2.2.1, h.2.2.2.1, k _ h.2.2.2.2⟩
theorem rpa_rep {B : Hp} {xs : List V} {ds : List D} (h : RpA B xs ds) : ∀ k : Nat, RpA B (List.replicate k xs).flatten (List.replicate k ds).flatten
  | 0 => .nil
  | k + 1 => by
    rw [List.replicate_succ, List.replicate_succ, List.flatten_cons, List.flatten_cons]
    exact rpa_app h (rpa_rep h k)
theorem o_repT : OpD X c (binaryOp .Mult) gRepT := by
  refine ⟨m_RepT, fun pins s σ H x y v u Q I rx ry ⟨B, d, e, w, r1, r2, q⟩ => ?_⟩
  cases d <;> cases e <;> first | exact q.elim | skip
  rename_i ds k
  obtain ⟨q1, q2, q3, q4, q5⟩ : ds ≠ [] ∧ 0 ≤ k ∧ k ≤ 1000 ∧ ds.length ≤ 1000 ∧ ∀ v B' H', Gr c B H B' H' → Rp B' v (.tuple (List.replicate k.toNat ds).flatten) → Q v H' := q
  obtain ⟨a, xs, rfl, h1, h2⟩ := r1.tup w
  rw [r2.int] at ry
  have r1' : Rp B (.ref a) (.tuple ds) := by
    rcases r1 with r1 | ⟨_, _, _, _, e, _⟩
    · exact r1
    · cases e
  have hne : xs ≠ [] := fun z => q1 ((rpa_nil_iff h2).mp z)
  by_cases k0 : k = 0
  · subst k0
    refine op_rep01 pins s σ H _ _ v u Q I rx ry ⟨a, 0, xs, rfl, rfl, SqT.of h1, hne, .inl ⟨rfl, fun p hp => ?_⟩⟩
    exact q5 _ _ _ (Gr.new (o := .tup []) w hp) (.tup upd_same .nil)
  · by_cases k1 : k = 1
    · subst k1
      refine op_rep01 pins s σ H _ _ v u Q I rx ry ⟨a, 1, xs, rfl, rfl, SqT.of h1, hne, .inr ⟨rfl, ?_⟩⟩
      refine q5 _ B H (Gr.refl w) ?_
      have : (List.replicate (1 : Int).toNat ds).flatten = ds := by
        show (List.replicate 1 ds).flatten = ds
        simp
      rw [this]; exact r1'
    · refine op_repT pins s σ H _ _ v u Q I rx ry ⟨a, k, xs, rfl, rfl, SqT.of h1, hne, by omega, q3, by rw [rpa_len h2]; exact q4, fun p hp => ?_⟩
      have g := Gr.new (o := .tup (List.replicate k.toNat xs).flatten) w hp
      exact q5 _ _ _ g (.tup upd_same (rpa_mono g.b (rpa_rep h2 _)))
/-! ### in -/
def gIn : GC | d, .list ds, Q => SeqAt.shaped d = true ∧ SeqAt.shaped (.list ds) = true ∧ Q (ds.any fun z => PyData.eqv z d) | _, _, _ => False
def gNotIn : GC | d, .list ds, Q => SeqAt.shaped d = true ∧ SeqAt.shaped (.list ds) = true ∧ Q (!ds.any fun z => PyData.eqv z d) | _, _, _ => False
theorem m_In : MonoC gIn := fun d e Q Q' k h => by
  cases e <;> first | exact h.elim | exact ⟨h.1, h.2.1, k _ h.2.2⟩
theorem m_NotIn : MonoC gNotIn := fun d e Q Q' k h => by
  cases e <;> first | exact h.elim | exact ⟨h.1, h.2.1, k _ h.2.2⟩
theorem o_in (hu : X.A.units + 65 < cLine) : CmpD X c .In gIn := by
  refine ⟨m_In, opr_weak (op_inD hu) fun x y H Q ⟨B, d, e, w, r1, r2, q⟩ => ?_⟩
  cases e <;> first | exact q.elim | skip
  exact ⟨d, _, rp_dp (r1.rp w) (SeqAt.canLay_of_shaped q.1), rp_dp (r2.rp w) (SeqAt.canLay_of_shaped q.2.1), q.1, q.2.1, q.2.2⟩
theorem o_notIn (hu : X.A.units + 65 < cLine) : CmpD X c .NotIn gNotIn := by
  refine ⟨m_NotIn, opr_weak (op_notInD hu) fun x y H Q ⟨B, d, e, w, r1, r2, q⟩ => ?_⟩
  cases e <;> first | exact q.elim | skip
  exact ⟨d, _, rp_dp (r1.rp w) (SeqAt.canLay_of_shaped q.1), rp_dp (r2.rp w) (SeqAt.canLay_of_shaped q.2.1), q.1, q.2.1, q.2.2⟩
theorem units65 {A : Around} {k : Nat} (hr : Room k A) : A.units + 65 < cLine := by
  have := hr.un
  omega
/-! ### sorted: ints; at most one item -/
theorem perm_one {α : Type} : ∀ {b a : List α}, b.length ≤ 1 → a.Perm b → a = b
  | [], _, _, h => h.eq_nil
  | [_], _, _, h => List.perm_singleton.mp h
  | _ :: _ :: _, _, l, _ => absurd l (by simp)
theorem cr_sorted1 : CallR X (.builtin "sorted") (fun vs H Q => ∃ (a : Addr) (xs : List V), vs = [V.ref a] ∧ SqL X.K H a xs ∧ xs.length ≤ 1 ∧ ∀ p, H p = none → Q (.ref p) (upd H p (.lst xs))) := by
  intro pins s σ H vs us Q I r h
  obtain ⟨a, ns, rfl, hs, h1, q⟩ := h
  obtain ⟨its, rv, hl, hz⟩ := I.list hs
  rw [Vals.ref1 r]
  have hlen : its.length ≤ 1 := by rw [← rv.length]; exact h1
  refine Srt.sorted_any hl.isList (by rw [← rv.length]; exact hz) (fun h2 => by omega) fun out hp => ?_
  have ho : out = its := perm_one hlen hp
  subst ho
  obtain ⟨ep, he'⟩ := PyProof.Rows.sortedAll_at s.heap out out.toArray
  exact ⟨.ref _, upd H (s.heap.objs.size + 1) (.lst ns), I.laid (t' := s.toks) (fun _ _ => PyProof.Rows.sortedAll_old) (Nat.le_succ _) ⟨hz, out, ep, rv, he'⟩, rfl, q _ (I.hok.fresh (Nat.le_succ _))⟩
def fSrt (fa : SE) : SL := fun ρ Q => fa ρ fun d => match d with
  | .list ds => (∃ ns : List Int, ds = ns.map PyData.int ∧ ∀ ns' : List Int, ns'.Perm ns → ns'.Pairwise (· ≤ ·) → Q (ns'.map PyData.int)) ∨ (ds.length ≤ 1 ∧ Q ds)
  | _ => False
theorem n_sorted {e : Expr} {fa : SE} {x : Str} {p pos : Pos} (hm : X.mg x = none) (ha : PB X c e fa) (hg : Gl X x := by rfl) (hv : bootBuiltins x = some (.builtin "sorted") := by decide +kernel)
    (hn : x ≠ "__name__" := by decide) (hdb : (x == ("__debug__" : Str)) = false := by decide)
    (he : starEach [e] X.env = (false, eval e X.env) :: starEach [] X.env := by rfl) (hpl : (backTo pos (starEach [] X.env)).any (·.1) = false := by rfl) : PN X c (.Call (.Name x p) [e] [] pos) (fSrt fa) := by
  refine ⟨fun ρ Q Q' k h => ha.mono _ _ _ (fun d hd => ?_) h, pe_weak (pe_callB (r := fun vs H Q => rSortedI X.K vs H Q ∨ ∃ (a : Addr) (xs : List V), vs = [V.ref a] ∧ SqL X.K H a xs ∧ xs.length ≤ 1 ∧ ∀ p, H p = none → Q (.ref p) (upd H p (.lst xs))) (fun pins s σ H xs us Q I rv q => q.elim (cr_sortedI pins s σ H xs us Q I rv) (cr_sorted1 pins s σ H xs us Q I rv)) hg hm hv (pa_cons ha.pe pa_nil he) hn hdb he hpl) fun σ H Q ⟨B, ρ, ok, h⟩ => ⟨B, ρ, ok, ha.mono _ _ _ (fun d hd v B1 H1 g1 r1 => ?_) h⟩⟩
  · split at hd <;> first | exact hd.elim | skip
    rcases hd with ⟨ns, e1, h1⟩ | ⟨h1, h2⟩
    · exact .inl ⟨ns, e1, fun ns' a b => k _ (h1 ns' a b)⟩
    · exact .inr ⟨h1, k _ h2⟩
  · split at hd <;> first | exact hd.elim | skip
    rename_i ds
    obtain ⟨a, xs, rfl, h1, h2⟩ := r1.list g1.w
    have hL : SqL X.K H1 a xs := SqL.of h1
    rcases hd with ⟨ns, e1, hq⟩ | ⟨hlen, hq⟩
    · subst e1
      have e2 := rpa_ints h2
      subst e2
      refine .inl ⟨a, ns, rfl, hL, fun ns' l p1 p2 hl => ?_⟩
      have g2 := Gr.newO (o := .lst (ns'.map V.int)) g1.w hl
      exact hq ns' p1 p2 l _ B1 _ (g1.trans ok.w g2) (g1.back hl) (Evl.fresh_back g1.w.sub hl) upd_same (rpa_of_ints ns')
    · refine .inr ⟨a, xs, rfl, hL, by rw [rpa_len h2]; exact hlen, fun l hl => ?_⟩
      have g2 := Gr.newO (o := .lst xs) g1.w hl
      exact hq l xs B1 _ (g1.trans ok.w g2) (g1.back hl) (Evl.fresh_back g1.w.sub hl) upd_same h2
/-! ### sum of a tuple of ints -/
theorem cr_sumT (hc : X.calm = true) : CallR X (.builtin "sum") (fun vs H Q => ∃ (a : Addr) (ns : List Int), vs = [V.ref a] ∧ SqT X.K H a (ns.map V.int) ∧ Q (.int ns.sum) H) := by
  intro pins s σ H vs us Q I r h
  obtain ⟨a, ns, rfl, hs, q⟩ := h
  obtain ⟨its, rv, hl, _⟩ := I.tuple hs
  rw [Vals.ref1 r]
  have hi := rv.ints
  obtain ⟨xs, e⟩ := hi.allInts.items
  have hn : numsOf (intItems xs).toList = ns := by rw [← e]; exact hi.numsOf
  rw [nums_intItems] at hn
  have hl2 : s.heap.IsTuple a (intItems xs) := by
    rw [← e]
    obtain ⟨o, h1, h2, n, h3⟩ := hl
    exact ⟨o, h1, h2, n, h3⟩
  refine PySem.W.ktm_sumG (I.ok.hd hc) hl2 fun h' tk t' hk => ?_
  rw [preSum_eq, List.take_of_length_le (by simp), hn]
  exact ⟨.int _, H, I.kept hk, ⟨_, rfl⟩, q⟩
def bSumT : GB | [.tuple ds], Q => (match asInts ds with | some ns => Q (.int ns.sum) | none => False) | _, _ => False
theorem m_SumT : MonoB bSumT := fun ds Q Q' k h => by
  unfold bSumT at h ⊢
  split at h <;> first | exact h.elim | skip
  split at h <;> first | exact h.elim | exact k _ h
theorem c_sumT (hc : X.calm = true) : CallD X c (.builtin "sum") bSumT := ⟨m_SumT, callr_weak (cr_sumT hc) fun xs H Q ⟨B, ds, w, ra, q⟩ => by
  unfold bSumT at q
  split at q <;> first | exact q.elim | skip
  split at q <;> first | exact q.elim | skip
  rename_i e
  obtain ⟨v, e1, r⟩ := ra.one
  subst e1
  obtain ⟨a, xs, rfl, h1, h2⟩ := r.tup w
  have e2 := asInts_eq e
  subst e2
  have e3 := rpa_ints h2
  subst e3
  exact ⟨a, _, rfl, SqT.of h1, q _ B H (Gr.refl w) (.int _)⟩⟩
end
end DL
namespace DL
open PySem L2 PySem.Spec PyProof.Rows
/-! ### isinstance -/
def tyN : D → String
  | .none => "NoneType" | .bool _ => "bool" | .int _ => "int" | .str _ => "str" | .list _ => "list" | .tuple _ => "tuple" | .dict _ => "dict"
/-- a thing of the type t is one of n -/
def isB (t n : String) : Bool := t == n || (t == "bool" && n == "int")
section
variable {X : Cx} {c : C}
theorem bw_ty {B H : Hp} {v : V} {d : D} (w : Wd c B H) (r : Bw c B H v d) : TyX X.K H v (.type (tyN d)) := by
  rcases r with r | ⟨p, vs, ds, rfl, rfl, _, _, h5, _⟩
  · cases r with
    | non => exact .base .non
    | bl b => exact .base (.bl b)
    | int i => exact .base (.int i)
    | str x => exact .base (.str x)
    | lst h1 _ => exact .base (.lst (w.sub _ _ h1))
    | tup h1 _ => exact .base (.tup (w.sub _ _ h1))
    | dct h1 _ => exact .base (.dK (w.sub _ _ h1))
  · exact .base (.lst h5)
def fIsI (n : String) (fa : SE) : SE := fun ρ Q => fa ρ fun d => Q (.bool (isB (tyN d) n))
def allT : List String := ["NoneType", "bool", "int", "str", "list", "tuple", "dict"]
theorem tyN_mem (d : D) : tyN d ∈ allT := by cases d <;> simp [tyN, allT]
theorem kit_all : ∀ t ∈ allT, ∀ n ∈ ["int", "bool", "tuple", "str", "list", "dict"], kitB t n = some (isB t n) := by decide +kernel
theorem kit_int (d : D) : kitB (tyN d) "int" = some (isB (tyN d) "int") := kit_all _ (tyN_mem d) _ (by decide)
theorem kit_bool (d : D) : kitB (tyN d) "bool" = some (isB (tyN d) "bool") := kit_all _ (tyN_mem d) _ (by decide)
theorem kit_tuple (d : D) : kitB (tyN d) "tuple" = some (isB (tyN d) "tuple") := kit_all _ (tyN_mem d) _ (by decide)
theorem kit_str (d : D) : kitB (tyN d) "str" = some (isB (tyN d) "str") := kit_all _ (tyN_mem d) _ (by decide)
theorem kit_list (d : D) : kitB (tyN d) "list" = some (isB (tyN d) "list") := kit_all _ (tyN_mem d) _ (by decide)
theorem v_isi {e : Expr} {fa : SE} {T : Str} {n : String} {p p2 pos : Pos} (hk : ∀ d : D, kitB (tyN d) n = some (isB (tyN d) n)) (hm : X.mg "isinstance" = none) (hmT : X.mg T = none) (ha : PB X c e fa) (hvT : bootBuiltins T = some (.type n) := by decide +kernel)
    (hg : Gl X "isinstance" := by rfl) (hgT : Gl X T := by rfl) (hnT : T ≠ "__name__" := by decide) (hdT : (T == ("__debug__" : Str)) = false := by decide)
    (hs : starEach [e, .Name T p2] X.env = (false, eval e X.env) :: starEach [.Name T p2] X.env := by rfl) (hs2 : starEach [.Name T p2] X.env = (false, eval (.Name T p2) X.env) :: starEach [] X.env := by rfl)
    (hpl : (backTo pos (starEach [.Name T p2] X.env)).any (·.1) = false := by rfl) :
    PV X c (.Call (.Name "isinstance" p) [e, .Name T p2] [] pos) (fIsI n fa) := by
  refine ⟨fun ρ Q Q' k h => ha.mono _ _ _ (fun d hd => k _ hd) h, pe_weak (pe_callB call_isi hg hm (by decide +kernel) (pa_cons ha.pe (pa_cons (pe_bltn (v := .ty n) hgT hmT hvT rfl hnT hdT) pa_nil hs2) hs) (by decide) (by decide) hs hpl) fun σ H Q ⟨B, ρ, ok, h⟩ => ?_⟩
  exact ⟨B, ρ, ok, ha.mono _ _ _ (fun d hd v B1 H1 g1 r1 => ⟨v, .ty n, .type (tyN d), .type n, _, rfl, .ty n, bw_ty g1.w r1, kit_ty (hk d), hd _ B1 H1 g1 (.bl _)⟩) h⟩
/-! ### a < b < c -/
def fChain (g g' : GC) (fa fb fc : SE) : ST := fun ρ Q => fa ρ fun d => fb ρ fun e => g d e fun k => if k = true then fc ρ fun f => g' e f Q else Q false
theorem chain_mono {g g' : GC} {fa fb fc : SE} (ho : MonoC g) (ho' : MonoC g') (ha : Mono fa) (hb : Mono fb) (hc : Mono fc) : MonoT (fChain g g' fa fb fc) := fun ρ Q Q' k h =>
  ha _ _ _ (fun d hd => hb _ _ _ (fun e he => ho _ _ _ _ (fun b q => by
    cases b with
    | true => exact hc _ _ _ (fun f hf => ho' _ _ _ _ k hf) q
    | false => exact k _ q) he) hd) h
theorem t_chain {op op' : CmpOp} {g g' : GC} {a b cc : Expr} {fa fb fc : SE} {pos : Pos} (ho : CmpD X c op g) (ho' : CmpD X c op' g') (ha : PB X c a fa) (hb : PB X c b fb) (hc : PB X c cc fc) (hm : lastMarks [op, op'] [b, cc] = false := by with_unfolding_all rfl) :
    PTd X c (.Compare a [op, op'] [b, cc] pos) (fChain g g' fa fb fc) := by
  refine ⟨chain_mono ho.mono ho'.mono ha.mono hb.mono hc.mono, pt_weak (pt_chain ho.op ho'.op ha.pe hb.pe hc.pe hm) fun σ H Q ⟨B, ρ, ok, h⟩ => ?_⟩
  refine ⟨B, ρ, ok, ha.mono _ _ _ (fun d hd v B1 H1 g1 r1 => ?_) h⟩
  refine ⟨B1, ρ, ok.mono g1, hb.mono _ _ _ (fun e he u B2 H2 g2 r2 => ?_) hd⟩
  have g12 := g1.trans ok.w g2
  refine ⟨B2, d, e, g2.w, r1.mono g2, r2, ho.mono _ _ _ _ (fun k hk => ⟨k, rfl, ?_⟩) he⟩
  cases k with
  | false => exact ⟨false, rfl, hk B2 H2 g12⟩
  | true => exact ⟨B2, ρ, ok.mono g12, hc.mono _ _ _ (fun f hf x B3 H3 g3 r3 => ⟨B3, e, f, g3.w, r2.mono g3, r3, ho'.mono _ _ _ _ (fun k hk => ⟨k, rfl, hk B3 H3 (g12.trans ok.w g3)⟩) hf⟩) hk⟩
theorem v_chain {op op' : CmpOp} {g g' : GC} {a b cc : Expr} {fa fb fc : SE} {pos : Pos} (ho : CmpD X c op g) (ho' : CmpD X c op' g') (ha : PB X c a fa) (hb : PB X c b fb) (hc : PB X c cc fc) (hm : lastMarks [op, op'] [b, cc] = false := by with_unfolding_all rfl) :
    PV X c (.Compare a [op, op'] [b, cc] pos) (fun ρ Q => fChain g g' fa fb fc ρ fun k => Q (.bool k)) := by
  refine ⟨fun ρ Q Q' k h => chain_mono ho.mono ho'.mono ha.mono hb.mono hc.mono _ _ _ (fun b hb => k _ hb) h, pe_weak (pe_chain ho.op ho'.op ha.pe hb.pe hc.pe hm) fun σ H Q ⟨B, ρ, ok, h⟩ => ?_⟩
  refine ⟨B, ρ, ok, ha.mono _ _ _ (fun d hd v B1 H1 g1 r1 => ?_) h⟩
  refine ⟨B1, ρ, ok.mono g1, hb.mono _ _ _ (fun e he u B2 H2 g2 r2 => ?_) hd⟩
  have g12 := g1.trans ok.w g2
  refine ⟨B2, d, e, g2.w, r1.mono g2, r2, ho.mono _ _ _ _ (fun k hk => ⟨k, rfl, ?_⟩) he⟩
  cases k with
  | false => exact hk _ B2 H2 g12 (.bl false)
  | true => exact ⟨B2, ρ, ok.mono g12, hc.mono _ _ _ (fun f hf x B3 H3 g3 r3 => ⟨B3, e, f, g3.w, r2.mono g3, r3, ho'.mono _ _ _ _ (fun k hk => hk _ B3 H3 (g12.trans ok.w g3) (.bl k)) hf⟩) hk⟩
end
end DL
namespace DL
open PySem L2 PySem.Spec PyProof.Rows
/-! ### an except suite: isinstance of its error, its field -/
/-- where the name of a class leads -/
def cvN (K : PySem.W.Frag) (T : Str) : V := if T = "ValueError" then .ty "ValueError" else .ref (He.ga K T)
def cvU (K : PySem.W.Frag) (T : Str) : Value := if T = "ValueError" then .type "ValueError" else .ref (He.ga K T)
theorem cv_rel {K : PySem.W.Frag} {T : Str} : RelV (cvN K T) (cvU K T) := by
  unfold cvN cvU
  split <;> rfl
theorem cv_one {K : PySem.W.Frag} {T : Str} {u : Value} (h : RelV (cvN K T) u) : u = cvU K T := by
  unfold cvN at h
  unfold cvU
  split <;> rename_i e
  · rw [if_pos e] at h; exact h
  · rw [if_neg e] at h; exact h
/-- what the written part says of the classes -/
structure ErC (K : PySem.W.Frag) (C : Addr) : Prop where
  ga : PySem.W.findIn K (.ref C) "__getattribute__" = some (some (.builtin "BaseException.__getattribute__"))
  gg : PySem.W.findIn K (.ref C) "__getattr__" = some none
  ex : PySem.W.subIn K (.ref C) (.type "BaseException") = some true
  hd : PySem.W.hasDictIn K C = true
  cl : (PySem.W.clsIn K C).isSome = true
  ca : PySem.W.findIn K (.ref C) "__class__" = some (some (.builtin "object.__class__"))
  cg : PySem.W.specialIn K (.builtin "object.__class__") "__get__" = some (some (.builtin "getset_descriptor.__get__"))
  ct : PySem.W.takesIn K (.builtin "object.__class__") = some true
  ob : PySem.W.mroIn K C (.type "object") = some true
structure ErF (K : PySem.W.Frag) : Prop where
  cls : ∀ nm ∈ errN, ErC K (He.ga K nm)
  kit : ∀ nm ∈ errN, ∀ T ∈ ("LineError" :: "ValueError" :: errN : List Str), PySem.W.kitOne K (.ref (He.ga K nm)) (cvU K T) = some (subX nm T)
  exm : ∀ nm ∈ errN, ∀ T ∈ ("LineError" :: errN : List Str), PySem.W.exmOne K (.ref (He.ga K nm)) (.ref (He.ga K T)) = some (subX nm T)
def erB (K : PySem.W.Frag) : Bool := errN.all fun nm =>
  let C := He.ga K nm
  decide (PySem.W.findIn K (.ref C) "__getattribute__" = some (some (.builtin "BaseException.__getattribute__"))) && (decide (PySem.W.findIn K (.ref C) "__getattr__" = some none) && (decide (PySem.W.subIn K (.ref C) (.type "BaseException") = some true) && (PySem.W.hasDictIn K C && ((PySem.W.clsIn K C).isSome &&
  (decide (PySem.W.findIn K (.ref C) "__class__" = some (some (.builtin "object.__class__"))) && (decide (PySem.W.specialIn K (.builtin "object.__class__") "__get__" = some (some (.builtin "getset_descriptor.__get__"))) && (decide (PySem.W.takesIn K (.builtin "object.__class__") = some true) && (decide (PySem.W.mroIn K C (.type "object") = some true) &&
  ((("LineError" :: "ValueError" :: errN : List Str).all fun T => decide (PySem.W.kitOne K (.ref C) (cvU K T) = some (subX nm T))) && (("LineError" :: errN : List Str).all fun T => decide (PySem.W.exmOne K (.ref C) (.ref (He.ga K T)) = some (subX nm T))))))))))))
theorem erB_ok {K : PySem.W.Frag} (h : erB K = true) : ErF K := by
  have one := fun nm hn => List.all_eq_true.mp h nm hn
  simp only [Bool.and_eq_true, decide_eq_true_eq, List.all_eq_true] at one
  refine ⟨fun nm hn => ?_, fun nm hn T hT => ?_, fun nm hn T hT => ?_⟩
  · obtain ⟨h1, h2, h3, h4, h5, h6, h7, h8, h9, _⟩ := one nm hn
    exact ⟨h1, h2, h3, h4, h5, h6, h7, h8, h9⟩
  · obtain ⟨_, _, _, _, _, _, _, _, _, h10, _⟩ := one nm hn
    exact h10 T hT
  · obtain ⟨_, _, _, _, _, _, _, _, _, _, h11⟩ := one nm hn
    exact h11 T hT
section
variable {X : Cx} {a D : Addr} {oe : Obj} {d : Option Addr} {pn : List (Addr × Obj)}
theorem inst_of {pins : List (Addr × Obj)} {σ : L2.St} {H : Hp} {s : Shared} (I : Inv (X.suite a ((a, oe) :: pn)) pins σ H s) (hz : Zc (.ref D) d oe) (hv : ∃ vs, oe.data = .fields vs) (hd : ∀ dd, d = some dd → ∃ fs, H dd = some (.xd fs)) :
    ∃ od, PySem.W.InstAt s.heap a oe D od := by
  obtain ⟨hget, _⟩ := I.pin (a, oe) (List.mem_append.mpr (.inl List.mem_cons_self))
  obtain ⟨vs, hv⟩ := hv
  obtain ⟨oc, od, oda, osl⟩ := oe
  obtain ⟨h1, h2⟩ := hz
  dsimp only at h1 h2 hv
  subst h1 h2 hv
  cases od with
  | none => exact ⟨none, hget, rfl, rfl, trivial⟩
  | some dd =>
    obtain ⟨fs, e⟩ := hd dd rfl
    obtain ⟨mA, hns, _⟩ := I.hok dd _ e
    obtain ⟨o, _, _, ho, _⟩ := hns
    exact ⟨some o, hget, rfl, rfl, ho⟩
/-- isinstance(e, c) -/
def rIs1 (K : PySem.W.Frag) (D a : Addr) (d : Option Addr) : List V → Hp → VK → Prop := fun xs H Q => ∃ (cc : V) (cv : Value) (b : Bool), xs = [.ref a, cc] ∧ (∀ u, RelV cc u → u = cv) ∧ PySem.W.kitOne K (.ref D) cv = some b ∧ (∀ dd, d = some dd → ∃ fs, H dd = some (.xd fs)) ∧ Q (.bl b) H
theorem call_is1 (T : ErC X.K D) (hz : Zc (.ref D) d oe) (hv : ∃ vs, oe.data = .fields vs) : CallR (X.suite a ((a, oe) :: pn)) (.builtin "isinstance") (rIs1 X.K D a d) := by
  intro pins s σ H xs us Q I r h
  obtain ⟨cc, cv, b, rfl, hcv, e, hd, q⟩ := h
  obtain ⟨od, J⟩ := inst_of I hz hv hd
  cases r with
  | cons rx rr => cases rr with
    | cons rt rr =>
      cases rr
      cases rx
      have ec := hcv _ rt
      subst ec
      exact PySem.W.kia_one (PySem.W.kitx_exc T.cl T.ga T.gg T.ex T.ca T.cg T.ct T.ob) I.kIn J e (fun z => nomatch z) fun tk => ⟨.bl b, H, I.kept (t' := tk) fun _ _ z => z, rfl, q⟩
/-- isinstance(e, (c, ..)) -/
def rIsT (K : PySem.W.Frag) (D a : Addr) (d : Option Addr) : List V → Hp → VK → Prop := fun xs H Q => ∃ (tp : Addr) (cs : List V) (cvs : List Value) (b : Bool), xs = [.ref a, .ref tp] ∧ H tp = some (.tup cs) ∧ (∀ us, Vals cs us → us = cvs) ∧ PySem.W.kitAny K (.ref D) cvs = some b ∧ (∀ dd, d = some dd → ∃ fs, H dd = some (.xd fs)) ∧ Q (.bl b) H
theorem call_isT (T : ErC X.K D) (hz : Zc (.ref D) d oe) (hv : ∃ vs, oe.data = .fields vs) : CallR (X.suite a ((a, oe) :: pn)) (.builtin "isinstance") (rIsT X.K D a d) := by
  intro pins s σ H xs us Q I r h
  obtain ⟨tp, cs, cvs, b, rfl, htp, hcv, e, hd, q⟩ := h
  obtain ⟨od, J⟩ := inst_of I hz hv hd
  obtain ⟨_, its, rits, ot, ho, hcls, n, hdat⟩ := I.hok tp _ htp
  cases r with
  | cons rx rr => cases rr with
    | cons rt rr =>
      cases rr
      cases rx
      cases rt
      have ec := hcv _ rits
      subst ec
      obtain ⟨oc, od2, oda, osl⟩ := ot
      dsimp only at hcls hdat
      subst hcls hdat
      exact PySem.W.kia_tup (PySem.W.kitx_exc T.cl T.ga T.gg T.ex T.ca T.cg T.ct T.ob) I.kIn J ho e (fun z => nomatch z) fun tk => ⟨.bl b, H, I.kept (t' := tk) fun _ _ z => z, rfl, q⟩
end
end DL
namespace DL
open PySem L2 PySem.Spec PyProof.Rows
def fldN : List Str := ["limit", "place", "error", "word"]
def erfB (K : PySem.W.Frag) : Bool := errN.all fun nm => fldN.all fun y => decide (PySem.W.findIn K (.ref (He.ga K nm)) y = some none)
theorem erfB_ok {K : PySem.W.Frag} (h : erfB K = true) : ∀ nm ∈ errN, ∀ y ∈ fldN, PySem.W.findIn K (.ref (He.ga K nm)) y = some none := fun nm hn y hy => of_decide_eq_true (List.all_eq_true.mp (List.all_eq_true.mp h nm hn) y hy)
/-- isinstance(e, T) of the error that slot i holds -/
def fIs1 (i : Nat) (T : Str) : SE := fun ρ Q => match lk ρ i with | .ex x => Q (.bool (subX x.nm T)) | _ => False
def fIsT (i : Nat) (Ts : List Str) : SE := fun ρ Q => match lk ρ i with | .ex x => Q (.bool (Ts.any fun T => subX x.nm T)) | _ => False
/-- its field -/
def fFld (i : Nat) (y : Str) : SE := fun ρ Q => match lk ρ i with | .ex x => (match x.fl with | some (z, dv) => z = y ∧ Q dv | none => False) | _ => False
/-- names of classes -/
structure PCd (X : Cx) (es : List Expr) (Ts : List Str) : Prop where
  pa : PA X es (fun _ H Q => Q (Ts.map (cvN X.K)) H)
  mem : ∀ T ∈ Ts, T ∈ ("LineError" :: "ValueError" :: errN : List Str)
theorem kit_names {K : PySem.W.Frag} (F : ErF K) {nm : Str} (hn : nm ∈ errN) : ∀ {Ts : List Str}, (∀ T ∈ Ts, T ∈ ("LineError" :: "ValueError" :: errN : List Str)) → PySem.W.kitAny K (.ref (He.ga K nm)) (Ts.map (cvU K)) = some (Ts.any fun T => subX nm T)
  | [], _ => rfl
  | T :: Ts, h => by
    show (match PySem.W.kitOne K (.ref (He.ga K nm)) (cvU K T) with | some true => some true | some false => PySem.W.kitAny K (.ref (He.ga K nm)) (Ts.map (cvU K)) | none => none) = _
    rw [F.kit nm hn T (h T List.mem_cons_self)]
    cases e : subX nm T with
    | true => simp [e]
    | false =>
      show PySem.W.kitAny K (.ref (He.ga K nm)) (Ts.map (cvU K)) = _
      rw [kit_names F hn (fun S hS => h S (List.mem_cons_of_mem _ hS))]
      simp [e]
theorem vals_names {K : PySem.W.Frag} : ∀ {Ts : List Str} {us : List Value}, Vals (Ts.map (cvN K)) us → us = Ts.map (cvU K)
  | [], _, .nil => rfl
  | T :: Ts, _, .cons h r => by
    rw [cv_one h, vals_names r]
    rfl
section
variable {X : Cx} {a : Addr} {oe : Obj} {d : Option Addr} {pn : List (Addr × Obj)} {c : C} {b0 h0 : Hp} {nm n : Str} {p p1 p2 pos : Pos}
theorem pc_nil {X : Cx} : PCd X [] [] := ⟨pa_weak pa_nil fun _ _ _ h => h, fun _ h => nomatch h⟩
theorem pc_cls {X : Cx} {T : Str} {es : List Expr} {Ts : List Str} (hm : X.mg T = some (.ref (He.ga X.K T))) (r : PCd X es Ts) (hg : Gl X T := by rfl) (hmem : T ∈ ("LineError" :: errN : List Str) := by decide) (hne : T ≠ "ValueError" := by decide) (hd : (T == ("__debug__" : Str)) = false := by decide)
    (hs : starEach (.Name T p :: es) X.env = (false, eval (.Name T p) X.env) :: starEach es X.env := by rfl) : PCd X (.Name T p :: es) (T :: Ts) :=
  ⟨pa_weak (pa_cons (pe_glob (v := cvN X.K T) hg hm (by unfold cvN; rw [if_neg hne]; rfl) hd) r.pa hs) fun σ H Q h => h, fun S hS => by
    rcases List.mem_cons.mp hS with e | e
    · rw [e]
      rcases List.mem_cons.mp hmem with e | e
      · rw [e]; exact List.mem_cons_self
      · exact List.mem_cons_of_mem _ (List.mem_cons_of_mem _ e)
    · exact r.mem S e⟩
theorem pc_ve {X : Cx} {es : List Expr} {Ts : List Str} (hm : X.mg "ValueError" = none) (r : PCd X es Ts) (hg : Gl X "ValueError" := by rfl)
    (hs : starEach (.Name "ValueError" p :: es) X.env = (false, eval (.Name "ValueError" p) X.env) :: starEach es X.env := by rfl) : PCd X (.Name "ValueError" p :: es) ("ValueError" :: Ts) :=
  ⟨pa_weak (pa_cons (pe_bltn (v := cvN X.K "ValueError") (u := .type "ValueError") hg hm (by decide +kernel) (by unfold cvN; rw [if_pos rfl]; rfl) (by decide) (by decide)) r.pa hs) fun σ H Q h => h, fun S hS => by
    rcases List.mem_cons.mp hS with e | e
    · rw [e]; decide
    · exact r.mem S e⟩
theorem ex_dict {B H : Hp} {x : Xn} (h : ExOk (c.at b0 h0 a d nm) B H x) : ∀ dd, d = some dd → ∃ fs, H dd = some (.xd fs) := fun dd e => by
  cases q : x.fl with
  | none =>
    have z : d = none := h.1.2 q
    rw [e] at z; cases z
  | some f =>
    obtain ⟨d2, v, h1, _, h3, _⟩ := h.2 f.1 f.2 q
    have z : d = some d2 := h1
    rw [e] at z
    cases z
    exact ⟨_, h3⟩
theorem v_is1 (i : Nat) {T : Str} (F : ErF X.K) (hnm : nm ∈ errN) (hz : Zc (.ref (He.ga X.K nm)) d oe) (hv : ∃ vs, oe.data = .fields vs) (hm : X.mg "isinstance" = none) (ht : PCd (X.suite a ((a, oe) :: pn)) [.Name T p2] [T]) (hN : X.N[i]? = some n := by rfl) (hvs : Vis X.env.scope n := by first | exact Or.inl rfl | exact Or.inr (Or.inl rfl) | exact Or.inr (Or.inr rfl))
    (hd : (n == ("__debug__" : Str)) = false := by decide) (hcd : (n == ("__classdict__" : Str)) = false := by decide) (hg : Gl X "isinstance" := by rfl)
    (hs : starEach [.Name n p1, .Name T p2] X.env = (false, eval (.Name n p1) X.env) :: starEach [.Name T p2] X.env := by rfl) (hpl : (backTo pos (starEach [.Name T p2] X.env)).any (·.1) = false := by rfl) :
    PV (X.suite a ((a, oe) :: pn)) (c.at b0 h0 a d nm) (.Call (.Name "isinstance" p) [.Name n p1, .Name T p2] [] pos) (fIs1 i T) := by
  refine ⟨fun ρ Q Q' k h => ?_, pe_weak (pe_callB (call_is1 (pn := pn) (F.cls nm hnm) hz hv) hg hm (by decide +kernel) (pa_cons (pe_var (i := i) (X := X.suite a ((a, oe) :: pn)) hN hvs hd hcd) ht.pa hs) (by decide) (by decide) hs hpl) fun σ H Q ⟨B, ρ, ok, h⟩ => ?_⟩
  · unfold fIs1 at h ⊢
    cases e : lk ρ i <;> rw [e] at h <;> first | exact h.elim | exact k _ h
  · unfold fIs1 at h
    cases e : lk ρ i with
    | ex x =>
      rw [e] at h
      obtain ⟨h1, h2⟩ := ok.sl i _ (lk_get e (fun z => nomatch z))
      have en : x.nm = nm := h2.1.1
      have h' : ∀ v B' H', Gr (c.at b0 h0 a d nm) B H B' H' → Rp B' v (.bool (subX x.nm T)) → Q v H' := h
      rw [en] at h'
      exact ⟨.ref a, h1, _, _, _, rfl, fun u hu => cv_one hu, F.kit nm hnm T (ht.mem T List.mem_cons_self), ex_dict h2, h' _ B H (Gr.refl ok.w) (.bl _)⟩
    | _ => rw [e] at h; exact h.elim
theorem v_isT (i : Nat) {Ts : List Str} {es : List Expr} {k1 : Nat} {p3 : Pos} (F : ErF X.K) (hnm : nm ∈ errN) (hz : Zc (.ref (He.ga X.K nm)) d oe) (hv : ∃ vs, oe.data = .fields vs) (hm : X.mg "isinstance" = none) (ht : PCd (X.suite a ((a, oe) :: pn)) es Ts) (hlen : Ts.length ≤ sizeLine := by decide) (hN : X.N[i]? = some n := by rfl) (hvs : Vis X.env.scope n := by first | exact Or.inl rfl | exact Or.inr (Or.inl rfl) | exact Or.inr (Or.inr rfl))
    (hd : (n == ("__debug__" : Str)) = false := by decide) (hcd : (n == ("__classdict__" : Str)) = false := by decide) (hg : Gl X "isinstance" := by rfl)
    (hs : starEach [.Name n p1, .Tuple es k1 p3] X.env = (false, eval (.Name n p1) X.env) :: starEach [.Tuple es k1 p3] X.env := by rfl) (hs2 : starEach [.Tuple es k1 p3] X.env = (false, eval (.Tuple es k1 p3) X.env) :: starEach [] X.env := by rfl)
    (hpl : (backTo pos (starEach [.Tuple es k1 p3] X.env)).any (·.1) = false := by rfl) :
    PV (X.suite a ((a, oe) :: pn)) (c.at b0 h0 a d nm) (.Call (.Name "isinstance" p) [.Name n p1, .Tuple es k1 p3] [] pos) (fIsT i Ts) := by
  refine ⟨fun ρ Q Q' k h => ?_, pe_weak (pe_callB (call_isT (pn := pn) (F.cls nm hnm) hz hv) hg hm (by decide +kernel) (pa_cons (pe_var (i := i) (X := X.suite a ((a, oe) :: pn)) hN hvs hd hcd) (pa_cons (pe_tup ht.pa) pa_nil hs2) hs) (by decide) (by decide) hs hpl) fun σ H Q ⟨B, ρ, ok, h⟩ => ?_⟩
  · unfold fIsT at h ⊢
    cases e : lk ρ i <;> rw [e] at h <;> first | exact h.elim | exact k _ h
  · unfold fIsT at h
    cases e : lk ρ i with
    | ex x =>
      rw [e] at h
      obtain ⟨h1, h2⟩ := ok.sl i _ (lk_get e (fun z => nomatch z))
      have en : x.nm = nm := h2.1.1
      have h' : ∀ v B' H', Gr (c.at b0 h0 a d nm) B H B' H' → Rp B' v (.bool (Ts.any fun T => subX x.nm T)) → Q v H' := h
      rw [en] at h'
      refine ⟨.ref a, h1, by rw [List.length_map]; exact hlen, fun q hq => ?_⟩
      have g := Gr.newO (o := .tup (Ts.map (cvN X.K))) ok.w hq
      exact ⟨q, _, _, _, rfl, upd_same, fun us hu => vals_names hu, kit_names F hnm ht.mem, ex_dict (h2.mono g), h' _ B _ g (.bl _)⟩
    | _ => rw [e] at h; exact h.elim
theorem v_fld (i : Nat) {y : Str} (F : ErF X.K) (hf : ∀ nm ∈ errN, ∀ y ∈ fldN, PySem.W.findIn X.K (.ref (He.ga X.K nm)) y = some none) (hnm : nm ∈ errN) (hz : Zc (.ref (He.ga X.K nm)) d oe) (hv : ∃ vs, oe.data = .fields vs) (hy : y ∈ fldN := by decide) (hN : X.N[i]? = some n := by rfl) (hvs : Vis X.env.scope n := by first | exact Or.inl rfl | exact Or.inr (Or.inl rfl) | exact Or.inr (Or.inr rfl))
    (hd : (n == ("__debug__" : Str)) = false := by decide) (hcd : (n == ("__classdict__" : Str)) = false := by decide) (hb : attributeBase (.Name n p1) y X.env (eval (.Name n p1) X.env) = eval (.Name n p1) X.env := by rfl) :
    PV (X.suite a ((a, oe) :: pn)) (c.at b0 h0 a d nm) (.Attribute (.Name n p1) y pos) (fFld i y) := by
  have T := F.cls nm hnm
  refine ⟨fun ρ Q Q' k h => ?_, pe_weak (pe_xf (pn := pn) ⟨T.ga, T.gg, T.ex, T.hd⟩ (hf nm hnm y hy) hz hv (pe_var (i := i) (X := X.suite a ((a, oe) :: pn)) hN hvs hd hcd) hb) fun σ H Q ⟨B, ρ, ok, h⟩ => ?_⟩
  · unfold fFld at h ⊢
    cases e : lk ρ i <;> rw [e] at h <;> first | exact h.elim | skip
    rename_i x
    obtain ⟨xn, xf⟩ := x
    cases xf with
    | none => exact h.elim
    | some f => exact ⟨h.1, k _ h.2⟩
  · unfold fFld at h
    cases e : lk ρ i with
    | ex x =>
      rw [e] at h
      obtain ⟨h1, h2⟩ := ok.sl i _ (lk_get e (fun z => nomatch z))
      obtain ⟨xn, xf⟩ := x
      cases xf with
      | none => exact h.elim
      | some f =>
        obtain ⟨dd, v, m1, m2, m3, m4⟩ := h2.2 f.1 f.2 rfl
        refine ⟨.ref a, h1, rfl, rfl, dd, _, v, m1, m3, ?_, h.2 v B H (Gr.refl ok.w) m4⟩
        rw [h.1]
        simp [List.lookup]
    | _ => rw [e] at h; exact h.elim
end
end DL
namespace DL
namespace EX
open PySem PySem.W PySem.Calls PyProof.Rows L2 PySem.Spec
/-! ### the head's facts of the errors -/
abbrev InV := Option (Str × Str × Arguments × FuncBody × Scope × Addr × List Str × Value × Addr)
def inObs (K : Frag) (x : Str) : InV := match K.lookup (He.ma K (He.ga K x) "__init__") with
  | some ⟨_, _, .func fd, _⟩ => some (fd.name, fd.qualname, fd.params, fd.body, fd.scope, fd.globals, fd.closure.map (·.1), fd.defaults, fd.builtins)
  | _ => none
structure ErD where
  nm : Str
  qual : Str
  params : Arguments
  body : List Stmt
  scope : Scope
def ErD.val (d : ErD) : InV := some ("__init__", d.qual, d.params, .stmts d.body, d.scope, mainGlobals, ["__class__"], .none, builtinsNs)
def codeB (K : Frag) (file q : Str) (v : Value) : Bool := match v with
  | .ref c => (match K.lookup c with
    | some ⟨_, _, .fields vs, _⟩ => (match (vs[2]? : Option Value) with
      | some (.str fl _) => file == fl
      | _ => false)
    | _ => false)
  | _ => false
def cellB (K : Frag) (C : Addr) (cl : List (Str × Addr)) : Bool := match cl with
  | [(_, cc)] => (match K.lookup cc with
    | some ⟨_, _, .cell (some (.ref D)), _⟩ => decide (D = C)
    | _ => false)
  | _ => false
def ErD.fnB (K : Frag) (file : Str) (d : ErD) : Bool := match K.lookup (He.ma K (He.ga K d.nm) "__init__") with
  | some ⟨_, _, .func fd, _⟩ => codeIn K fd.code d.qual && (codeB K file d.qual fd.code && cellB K (He.ga K d.nm) fd.closure)
  | _ => false
def ErD.ok (K : Frag) (file : Str) (d : ErD) : Bool :=
  let C := He.ga K d.nm
  excInitIn K C veL "ValueError.__new__" && (hasDictIn K C && (((clsIn K C).any fun cd => PySem.HandSPX.refsVE (cd.mro.drop 1)) && (He.eqO (findIn K (.ref C) "__setattr__") (some (some (.builtin "object.__setattr__"))) &&
  (decide (subIn K (.ref C) (.type "BaseException") = some true) && (decide (typeIn K (.ref C) = some (.type "type")) && (keepIn K (.ref C) && (He.eqO (findIn K (.ref C) "__init__") (some (some (.ref (He.ma K C "__init__")))) &&
  (decide (typeIn K (.ref (He.ma K C "__init__")) = some (.type "function")) && (d.fnB K file && (decide (mroIn K C (.ref C) = some true) && (He.eqO (nsIn K cStatics "thirdparty.any") (some none) &&
  (He.eqO (ks_superIn K C C "__init__") (some (some (.builtin "ValueError.__init__"))) && decide (subIn K (.ref C) (.type "ValueError") = some true)))))))))))))
theorem oex_cls {K : Frag} {C : Addr} (h : excInitIn K C veL "ValueError.__new__" = true) (hd : hasDictIn K C = true) (hr : ((clsIn K C).any fun cd => PySem.HandSPX.refsVE (cd.mro.drop 1)) = true) :
    ∃ nm q N bs bm sn sub ab col dd k0 k1 k2 k3 k5, K.lookup C = some (excClassObj nm q C N bs bm true sn sub ab col dd k0 k1 k2 k3 k5 "ValueError.__new__") ∧ PySem.HandSPX.refsVE bm = true := by
  unfold excInitIn at h
  split at h
  · rename_i dd cd sl ho
    have hcl : clsIn K C = some cd := by unfold clsIn; rw [ho]
    unfold hasDictIn at hd
    rw [hcl] at hd hr
    split at h
    · rename_i C' bm k0 k1 k2 k3 n k5 hm hs
      simp only [Bool.and_eq_true, beq_iff_eq, Bool.not_eq_true'] at h
      obtain ⟨⟨⟨e1, e2⟩, e3⟩, _⟩ := h
      have esl : sl = #[k0, k1, k2, k3, some (.builtin n), k5] := by
        have z := congrArg List.toArray hs
        simpa using z
      obtain ⟨a1, a2, a3, a4, a5, a6, a7, a8, a9, a10, a11⟩ := cd
      have hd' : a6 = true := by simpa using hd
      have hr' : PySem.HandSPX.refsVE (a3.drop 1) = true := by simpa using hr
      dsimp only at hm e3
      subst hd' esl e1 e2 hm e3
      exact ⟨_, _, _, _, bm, _, _, _, _, _, _, _, _, _, _, ho, hr'⟩
    · cases h
  · cases h
theorem ErD.iniF {P : Program} {K : Frag} {d : ErD} (e : inObs K d.nm = d.val) (ok : d.ok K P.main.file = true) (free : (P.main.scope.names.lookup ("super" : Str)).isSome = false) (kS : d.scope.names.lookup ("super" : Str) = some .globalImplicit)
    (kC : d.scope.names.lookup ("__class__" : Str) = some .free) (kI : d.scope.kind = .function) (co : d.scope.isCoroutine = false) (gen : d.scope.isGenerator = false) :
    ∃ f cda cc, IniF P K (He.ga K d.nm) f d.qual d.params d.body d.scope cda cc := by
  simp only [ErD.ok, Bool.and_eq_true, decide_eq_true_eq] at ok
  obtain ⟨h1, h2, h3, h4, h5, h6, h7, h8, h9, h10, h11, h12, h13, h14⟩ := ok
  have hc := oex_cls h1 h2 h3
  unfold ErD.fnB at h10
  unfold inObs at e
  cases q : K.lookup (He.ma K (He.ga K d.nm) "__init__") with
  | none => rw [q] at h10; cases h10
  | some o =>
    obtain ⟨oc, od, dt, osl⟩ := o
    rw [q] at h10 e
    cases dt with
    | func fd =>
      obtain ⟨n1, n2, n3, n4, n5, n6, n7, n8, n9, n10, n11, n12, n13, n14, n15⟩ := fd
      have e2 : (some (n1, n2, n3, n4, n5, n6, n7.map (·.1), n8, n15) : InV) = d.val := e
      simp only [ErD.val, Option.some.injEq, Prod.mk.injEq] at e2
      obtain ⟨rfl, rfl, rfl, rfl, rfl, rfl, e7, rfl, rfl⟩ := e2
      have h10' : (codeIn K n13 d.qual && (codeB K P.main.file d.qual n13 && cellB K (He.ga K d.nm) n7)) = true := h10
      simp only [Bool.and_eq_true] at h10'
      obtain ⟨hcode, hcb, hcell⟩ := h10'
      match n7, e7, hcell, q with
      | [(z, cc)], e7, hcell, q =>
        have ez : z = "__class__" := by simpa using e7
        subst ez
        match n13, hcode, hcb, q with
        | .ref cda, hcode, hcb, q =>
          refine ⟨_, cda, cc, ⟨hc, He.eqO_ok h4, h5, h6, h7⟩, ⟨oc, od, osl, n9, n10, n11, n12, n14, q⟩, hcode, ?_, ?_, ?_, h11, He.eqO_ok h12, He.eqO_ok h13, h14, h1, He.eqO_ok h8, h9, free, kS, kC, kI, co, gen⟩
          · unfold codeB at hcb
            dsimp only at hcb
            split at hcb
            · rename_i vs sl ho
              split at hcb
              · rename_i fl tf hv
                exact ⟨_, _, vs, _, fl, tf, ho, hv, hcb⟩
              · cases hcb
            · cases hcb
          · unfold cellB at hcell
            dsimp only at hcell
            split at hcell
            · rename_i D sl ho
              have ed : D = He.ga K d.nm := of_decide_eq_true hcell
              subst ed
              exact ⟨_, _, _, ho⟩
            · cases hcell
          · unfold hasDictIn at h2
            cases z : clsIn K (He.ga K d.nm) with
            | none => rw [z] at h2; cases h2
            | some cd => exact ⟨cd, rfl⟩
        | .none, _, hcb, _ => cases hcb
        | .ellipsis, _, hcb, _ => cases hcb
        | .notImplemented, _, hcb, _ => cases hcb
        | .bool _, _, hcb, _ => cases hcb
        | .int _ _, _, hcb, _ => cases hcb
        | .float _ _, _, hcb, _ => cases hcb
        | .str _ _, _, hcb, _ => cases hcb
        | .bytes _ _, _, hcb, _ => cases hcb
        | .type _, _, hcb, _ => cases hcb
        | .builtin _, _, hcb, _ => cases hcb
      | [], e7, hcell, _ => cases hcell
      | _ :: _ :: _, e7, _, _ => simp at e7
    | _ => cases h10
end EX
end DL
namespace DL
namespace EX
open PySem PySem.W PySem.Calls PyProof.Rows L2 PySem.Spec
section
variable {P : Program} {K : Frag} {d : ErD} {sf y : Str} {p0 p1 p2 p3 p4 py p6 p7 p8 p9 : Pos}
theorem ec1_of (hbody : d.body = [supS [.Name y py] p0 p1 p2 p3 p4, .Assign [.Attribute (.Name sf p6) y p7] (.Name y p8) p9]) (hZ : ∃ f cda cc, IniF P K (He.ga K d.nm) f d.qual d.params d.body d.scope cda cc)
    (first : ∃ ar, (d.params.posonlyargs ++ d.params.args).head? = some ar ∧ ar.arg = sf)
    (bind : ∀ (kV doc pm : Value) (an : Option Addr) (ct : Value) (cda cc : Addr) (a v : Value), bindArgs (ksFn "__init__" d.qual d.params d.body d.scope .none kV doc pm an (.ref cda) ct cc) ⟨[a, v], []⟩ = pure [(sf, a), (y, v)])
    (lsf : d.scope.names.lookup sf = some .local) (ly : d.scope.names.lookup y = some .local) (hcell : ∀ x ∈ d.scope.names, x.2 ≠ .cell) (dy : (y == ("__debug__" : Str)) = false) (ds : (sf == ("__debug__" : Str)) = false) (hno : findIn K (.ref (He.ga K d.nm)) y = some none)
    (vs : ∀ a b : Value, List.lookup sf [(y, b), (sf, a)] = some a) (vy : ∀ a b : Value, List.lookup y [(y, b), (sf, a)] = some b)
    (he : ∀ L f cda cc : Addr, ∃ pl : Sem Bool, eval (.Call (.Attribute (.Call (.Name "super" p0) [] [] p1) "__init__" p2) [.Name y py] [] p3) (ksEnv d.qual d.scope L f (.ref cda) cc) = (do
      let ov ← attributeBase (.Call (.Name "super" p0) [] [] p1) "__init__" (ksEnv d.qual d.scope L f (.ref cda) cc) (eval (.Call (.Name "super" p0) [] [] p1) (ksEnv d.qual d.scope L f (.ref cda) cc))
      standAt p2.atName
      let (fx, fst) ← holding [ov] (getMethod ov "__init__" pl)
      callWith p3 fx fst (backTo p3 (starEach [.Name y py] (ksEnv d.qual d.scope L f (.ref cda) cc))) [])) : Ec1 P K (He.ga K d.nm) y := by
  obtain ⟨f, cda, cc, Z⟩ := hZ
  refine ⟨Z.cls, fun w A mg mb hp h2 e t0 g dr t os R v J hroom k f' hf => ?_, ⟨f, Z.find, Z.isf⟩⟩
  rw [Z.find] at hf
  cases hf
  have Z' := Z
  rw [hbody] at Z'
  refine ini_one Z' J hroom ⟨first, lsf, fun kV doc pm an ct => ?_, vs _ _, hcell, fun x hx => ?_⟩ (fun L => he L f cda cc) ly (vy _ _) dy ds hno k
  · rw [← hbody]
    exact bind kV doc pm an ct cda cc _ _
  · rcases List.mem_cons.mp hx with e1 | hx
    · rw [e1]; exact lsf
    · rw [List.mem_singleton.mp hx]; exact ly
theorem ec0_of (hbody : d.body = [supS [] p0 p1 p2 p3 p4]) (hZ : ∃ f cda cc, IniF P K (He.ga K d.nm) f d.qual d.params d.body d.scope cda cc)
    (first : ∃ ar, (d.params.posonlyargs ++ d.params.args).head? = some ar ∧ ar.arg = sf)
    (bind : ∀ (kV doc pm : Value) (an : Option Addr) (ct : Value) (cda cc : Addr) (a : Value), bindArgs (ksFn "__init__" d.qual d.params d.body d.scope .none kV doc pm an (.ref cda) ct cc) ⟨[a], []⟩ = pure [(sf, a)])
    (lsf : d.scope.names.lookup sf = some .local) (hcell : ∀ x ∈ d.scope.names, x.2 ≠ .cell)
    (vs : ∀ a : Value, List.lookup sf [(sf, a)] = some a)
    (he : ∀ L f cda cc : Addr, ∃ pl : Sem Bool, eval (.Call (.Attribute (.Call (.Name "super" p0) [] [] p1) "__init__" p2) [] [] p3) (ksEnv d.qual d.scope L f (.ref cda) cc) = (do
      let ov ← attributeBase (.Call (.Name "super" p0) [] [] p1) "__init__" (ksEnv d.qual d.scope L f (.ref cda) cc) (eval (.Call (.Name "super" p0) [] [] p1) (ksEnv d.qual d.scope L f (.ref cda) cc))
      standAt p2.atName
      let (fx, fst) ← holding [ov] (getMethod ov "__init__" pl)
      callWith p3 fx fst (backTo p3 (starEach [] (ksEnv d.qual d.scope L f (.ref cda) cc))) [])) : Ec0 P K (He.ga K d.nm) := by
  obtain ⟨f, cda, cc, Z⟩ := hZ
  refine ⟨Z.cls, fun w A mg mb hp h2 e t0 g dr t os R J hroom k f' hf => ?_, ⟨f, Z.find, Z.isf⟩⟩
  rw [Z.find] at hf
  cases hf
  have Z' := Z
  rw [hbody] at Z'
  refine ini_zero Z' J hroom ⟨first, lsf, fun kV doc pm an ct => ?_, vs _, hcell, fun x hx => ?_⟩ (fun L => he L f cda cc) k
  · rw [← hbody]
    exact bind kV doc pm an ct cda cc _
  · rw [List.mem_singleton.mp hx]; exact lsf
end
/-! ### the Hook: the defs' facts, the errors' facts -/
/-- no other limit of digits is set -/
def digB (K : Frag) : Bool := He.eqO (nsIn K cStatics "sys.int_max_str_digits") (some none)
abbrev AlX : Type := He.AlD × (Bool × List InV)
def obsX (file : Str) (fa : List He.Fa) (fn : List He.DefD) (er : List ErD) (K : Frag) : AlX := (He.obsD fa fn K, (er.all (fun d => d.ok K file) && (erB K && (erfB K && digB K)), er.map fun d => inObs K d.nm))
def valX (fn : List He.DefD) (er : List ErD) : AlX := (He.valD fn, (true, er.map ErD.val))
def SaysX (file : Str) (fa : List He.Fa) (fn : List He.DefD) (er : List ErD) (K : Frag) : Prop := obsX file fa fn er K = valX fn er
def frX (n : Nat) (g : Addr → Option Obj) : Frag := He.frG g (cStatics :: He.asD g n)
def obsXG (n : Nat) (file : Str) (fa : List He.Fa) (fn : List He.DefD) (er : List ErD) (g : Addr → Option Obj) : AlX := obsX file fa fn er (frX n g)
def hookX (n : Nat) (file : Str) (fa : List He.Fa) (fn : List He.DefD) (er : List ErD) : PySem.W.Hook where
  α := AlX
  obs := fun s => obsXG n file fa fn er s.heap.get?
  val := fun _ => valX fn er
  says := fun _ h => ∃ K : Frag, K.In h ∧ SaysX file fa fn er K
  of := fun _ _ e => ⟨_, He.frG_in, e⟩
  keeps := fun _ _ _ ⟨K, hK, c⟩ k => ⟨K, PySem.W.Frag.In.keeps hK k, c⟩
theorem obsXG_eq {n : Nat} {file : Str} {fa : List He.Fa} {fn : List He.DefD} {er : List ErD} {g : Addr → Option Obj} {s : Shared} (h : ∀ a, g a = s.heap.get? a) : obsXG n file fa fn er g = (hookX n file fa fn er).obs s := by
  rw [show g = s.heap.get? from funext h]
  rfl
section
variable {file : Str} {fa : List He.Fa} {fn : List He.DefD} {er : List ErD} {K : Frag}
theorem SaysX.d (c : SaysX file fa fn er K) : He.SaysD fa fn K := congrArg (fun z : AlX => z.1) c
theorem SaysX.bools (c : SaysX file fa fn er K) : (er.all (fun d => d.ok K file) && (erB K && (erfB K && digB K))) = true := congrArg (fun z : AlX => z.2.1) c
theorem SaysX.erF (c : SaysX file fa fn er K) : ErF K := by
  have h := c.bools
  simp only [Bool.and_eq_true] at h
  exact erB_ok h.2.1
theorem SaysX.fld (c : SaysX file fa fn er K) : ∀ nm ∈ errN, ∀ y ∈ fldN, findIn K (.ref (He.ga K nm)) y = some none := by
  have h := c.bools
  simp only [Bool.and_eq_true] at h
  exact erfB_ok h.2.2.1
theorem SaysX.dig (c : SaysX file fa fn er K) : nsIn K cStatics "sys.int_max_str_digits" = some none := by
  have h := c.bools
  simp only [Bool.and_eq_true] at h
  exact He.eqO_ok h.2.2.2
theorem SaysX.err (c : SaysX file fa fn er K) (i : Nat) {d : ErD} (h : er[i]? = some d := by rfl) : inObs K d.nm = d.val ∧ d.ok K file = true := by
  have b := c.bools
  simp only [Bool.and_eq_true] at b
  refine ⟨?_, List.all_eq_true.mp b.1 d (List.mem_of_getElem? h)⟩
  have e : er.map (fun d => inObs K d.nm) = er.map ErD.val := congrArg (fun z : AlX => z.2.2) c
  have e2 : (er.map fun d => inObs K d.nm)[i]? = (er.map ErD.val)[i]? := by rw [e]
  rw [List.getElem?_map, List.getElem?_map, h] at e2
  exact Option.some.inj e2
end
/-- a class's __init__ -/
def clsIni : Stmt → Stmt
  | .ClassDef (body := b) .. => b.getD 0 (.Pass ⟨0, 0, 0, 0⟩)
  | s => s
end EX
end DL
namespace DL
open PySem L2 PySem.Spec PyProof.Rows
/-! ### showing data, dicts too -/
section
variable {P : Program} {w : World} {h : Heap}
/-- a value that reads as d and shows as d -/
structure Shw (P : Program) (w : World) (h : Heap) (d : D) (u : Value) : Prop where
  rd : ∃ as, Reads h u d as
  rk : d.showable = true → d.shown.length ≤ sizeLine → ∃ bs, ReadAtMost h d.depth bs ∧ ReprK P w bs h d.depth u d.shown
structure ShwA (P : Program) (w : World) (h : Heap) (ds : List D) (us : List Value) : Prop where
  rd : ∃ as, ReadsAll h us ds as
  rk : PyData.showableAll ds = true → (∀ t ∈ PyData.shownAll ds, t.length ≤ sizeLine) → ∃ bs, ReadAtMost h (PyData.depthAll ds) bs ∧ ReprAllK P w bs h (PyData.depthAll ds) us (PyData.shownAll ds)
theorem no_ad {n : Nat} : ReadAtMost h n [] := fun _ z => nomatch z
theorem shw_is {d : D} {u : Value} (r : ∃ as, Reads h u d as) (k : d.showable = true → d.shown.length ≤ sizeLine → ReprIs P w u d.shown) : Shw P w h d u :=
  ⟨r, fun a b => ⟨[], no_ad, .of_is (k a b) _ _ _⟩⟩
theorem shwA_nil : ShwA P w h [] [] := ⟨⟨_, .nil⟩, fun _ _ => ⟨[], no_ad, by simp only [PyData.shownAll]; exact .nil⟩⟩
theorem shwA_cons {d : D} {ds : List D} {u : Value} {us : List Value} (a : Shw P w h d u) (b : ShwA P w h ds us) : ShwA P w h (d :: ds) (u :: us) := by
  refine ⟨?_, fun hs hl => ?_⟩
  · obtain ⟨as, ra⟩ := a.rd
    obtain ⟨bs, rb⟩ := b.rd
    exact ⟨_, .cons ra rb⟩
  · simp only [PyData.showableAll, Bool.and_eq_true] at hs
    simp only [PyData.shownAll] at hl
    obtain ⟨c1, q1, p1⟩ := a.rk hs.1 (hl _ List.mem_cons_self)
    obtain ⟨c2, q2, p2⟩ := b.rk hs.2 fun t ht => hl t (List.mem_cons_of_mem _ ht)
    have m1 : d.depth ≤ PyData.depthAll (d :: ds) := by simp only [PyData.depthAll]; omega
    have m2 : PyData.depthAll ds ≤ PyData.depthAll (d :: ds) := by simp only [PyData.depthAll]; omega
    refine ⟨c1 ++ c2, (q1.mono m1).append (q2.mono m2), ?_⟩
    simp only [PyData.shownAll]
    exact .cons ((p1.more fun x hx => List.mem_append_left _ hx).level_le m1) (p2.more_le (fun x hx => List.mem_append_right _ hx) m2)
theorem lt_list {ds : List D} : PyData.depthAll ds < (PyData.list ds).depth := by simp only [PyData.depth]; omega
theorem lt_tup {ds : List D} : PyData.depthAll ds < (PyData.tuple ds).depth := by simp only [PyData.depth]; omega
theorem lt_dict {kvs : List (D × D)} : PyData.depthKv kvs < (PyData.dict kvs).depth := by simp only [PyData.depth]; omega
/-- the items of a list that shows -/
theorem list_items {a : Addr} {o : Obj} {vs : Array Value} {n : Nat} {ds : List D} (h1 : h.get? a = some o) (h2 : o.cls = .type "list") (h3 : o.data = .seq vs n) (s : ShwA P w h ds vs.toList) (hs : (PyData.list ds).showable = true) (hl : (PyData.list ds).shown.length ≤ sizeLine) :
    ∃ bs, ReadAtMost h (PyData.depthAll ds) bs ∧ a ∉ bs ∧ ReprAllK P w bs h (PyData.depthAll ds) vs.toList (PyData.shownAll ds) := by
  simp only [PyData.shown] at hl
  obtain ⟨bs, q, p⟩ := s.rk (by simpa only [PyData.showable] using hs) fun t ht => Nat.le_trans (listText_mem_le ht) hl
  obtain ⟨as, ra⟩ := s.rd
  exact ⟨bs, q, not_mem_of_deeper (.list h1 h2 h3 ra) lt_list q, p⟩
theorem tup_items {a : Addr} {o : Obj} {vs : Array Value} {n : Nat} {ds : List D} (h1 : h.get? a = some o) (h2 : o.cls = .type "tuple") (h3 : o.data = .seq vs n) (s : ShwA P w h ds vs.toList) (hs : (PyData.tuple ds).showable = true) (hl : (PyData.tuple ds).shown.length ≤ sizeLine) :
    ∃ bs, ReadAtMost h (PyData.depthAll ds) bs ∧ a ∉ bs ∧ ReprAllK P w bs h (PyData.depthAll ds) vs.toList (PyData.shownAll ds) := by
  simp only [PyData.shown] at hl
  obtain ⟨bs, q, p⟩ := s.rk (by simpa only [PyData.showable] using hs) fun t ht => Nat.le_trans (tupleText_mem_le ht) hl
  obtain ⟨as, ra⟩ := s.rd
  exact ⟨bs, q, not_mem_of_deeper (.tuple h1 h2 h3 ra) lt_tup q, p⟩
theorem dict_items {a : Addr} {o : Obj} {es : Array DictEntry} {n : Nat} {kvs : List (D × D)} (h1 : h.get? a = some o) (h2 : o.cls = .type "dict") (h3 : o.data = .dict es n) (s1 : ShwA P w h (kvs.map (·.1)) (es.toList.map (·.key))) (s2 : ShwA P w h (kvs.map (·.2)) (es.toList.map (·.val)))
    (hs : (PyData.dict kvs).showable = true) (hl : (PyData.dict kvs).shown.length ≤ sizeLine) :
    ∃ bs, ReadAtMost h (PyData.depthKv kvs) bs ∧ a ∉ bs ∧ ReprEntriesK P w bs h (PyData.depthKv kvs) es.toList (PyData.shownKv kvs) := by
  simp only [PyData.shown] at hl
  obtain ⟨e1, e2⟩ := PyData.showableKv_split kvs (by simpa only [PyData.showable] using hs)
  obtain ⟨b1, q1, p1⟩ := s1.rk e1 fun t ht => by
    obtain ⟨x, hx, lx⟩ := PyData.shownKv_key_le kvs t ht
    have := dictText_mem_le hx
    omega
  obtain ⟨b2, q2, p2⟩ := s2.rk e2 fun t ht => by
    obtain ⟨x, hx, lx⟩ := PyData.shownKv_val_le kvs t ht
    have := dictText_mem_le hx
    omega
  obtain ⟨a1, r1⟩ := s1.rd
  obtain ⟨a2, r2⟩ := s2.rd
  have k1 := PyData.depthAll_keys_le kvs
  have k2 := PyData.depthAll_vals_le kvs
  have q := (q1.mono k1).append (q2.mono k2)
  refine ⟨b1 ++ b2, q, not_mem_of_deeper (.dict h1 h2 h3 r1 r2) lt_dict q, ?_⟩
  rw [PyData.shownKv_eq]
  exact ReprEntriesK.of_two _ _ _ (p1.more_le (fun x hx => List.mem_append_left _ hx) k1) (p2.more_le (fun x hx => List.mem_append_right _ hx) k2)
theorem all_len {ds : List D} {us : List Value} {as : List Addr} (r : ReadsAll h us ds as) : us.length = ds.length := by
  induction ds generalizing us as with
  | nil => cases r; rfl
  | cons d ds ih => cases r with
    | cons r1 r2 => rw [List.length_cons, List.length_cons, ih r2]
theorem shownAll_len : ∀ ds : List D, (PyData.shownAll ds).length = ds.length
  | [] => by simp only [PyData.shownAll, List.length_nil]
  | d :: ds => by simp only [PyData.shownAll, List.length_cons, shownAll_len ds]
theorem shw_list {a : Addr} {o : Obj} {vs : Array Value} {n : Nat} {ds : List D} (h1 : h.get? a = some o) (h2 : o.cls = .type "list") (h3 : o.data = .seq vs n) (s : ShwA P w h ds vs.toList) : Shw P w h (.list ds) (.ref a) := by
  obtain ⟨as, ra⟩ := s.rd
  refine ⟨⟨_, .list h1 h2 h3 ra⟩, fun hs hl => ?_⟩
  obtain ⟨bs, q, na, p⟩ := list_items h1 h2 h3 s hs hl
  refine ⟨a :: bs, ReadAtMost.cons (.list h1 h2 h3 ra) (Nat.le_of_lt lt_list) q, ?_⟩
  simp only [PyData.shown, PyData.depth]
  obtain ⟨l⟩ := vs
  have el := all_len ra
  cases l with
  | nil =>
    cases ds with
    | cons d ds => cases el
    | nil =>
      simp only [PyData.shownAll]
      rw [listText_nil]
      exact ReprK.listEmpty h1 h2 h3
  | cons x l =>
    refine ReprK.list h1 h2 h3 na ?_ fun i y e => p.item i y (by simpa using e)
    rw [shownAll_len, ← el]
    simp
theorem shw_tup {a : Addr} {o : Obj} {vs : Array Value} {n : Nat} {ds : List D} (h1 : h.get? a = some o) (h2 : o.cls = .type "tuple") (h3 : o.data = .seq vs n) (s : ShwA P w h ds vs.toList) : Shw P w h (.tuple ds) (.ref a) := by
  obtain ⟨as, ra⟩ := s.rd
  refine ⟨⟨_, .tuple h1 h2 h3 ra⟩, fun hs hl => ?_⟩
  obtain ⟨bs, q, na, p⟩ := tup_items h1 h2 h3 s hs hl
  refine ⟨a :: bs, ReadAtMost.cons (.tuple h1 h2 h3 ra) (Nat.le_of_lt lt_tup) q, ?_⟩
  simp only [PyData.shown, PyData.depth]
  exact ReprK.tuple h1 h2 h3 na p
theorem shw_dict {a : Addr} {o : Obj} {es : Array DictEntry} {n : Nat} {kvs : List (D × D)} (h1 : h.get? a = some o) (h2 : o.cls = .type "dict") (h3 : o.data = .dict es n) (hsys : (a == sysModules) = false) (s1 : ShwA P w h (kvs.map (·.1)) (es.toList.map (·.key))) (s2 : ShwA P w h (kvs.map (·.2)) (es.toList.map (·.val))) : Shw P w h (.dict kvs) (.ref a) := by
  obtain ⟨a1, r1⟩ := s1.rd
  obtain ⟨a2, r2⟩ := s2.rd
  refine ⟨⟨_, .dict h1 h2 h3 r1 r2⟩, fun hs hl => ?_⟩
  obtain ⟨bs, q, na, p⟩ := dict_items h1 h2 h3 s1 s2 hs hl
  refine ⟨a :: bs, ReadAtMost.cons (.dict h1 h2 h3 r1 r2) (Nat.le_of_lt lt_dict) q, ?_⟩
  simp only [PyData.shown, PyData.depth]
  exact ReprK.dict h1 h2 h3 hsys na p
end
section
variable {X : Cx} {pins : List (Addr × Obj)} {σ : St} {H : Hp} {s : Shared}
theorem shw_int (i : Int) (t : Tok) : Shw X.prog X.w s.heap (.int i) (.int i t) := shw_is ⟨_, .int i t⟩ fun a _ => by
  simp only [PyData.shown]
  exact ReprIs.int t (by simpa [PyData.showable] using a)
theorem shw_str (x : Str) (t : Tok) : Shw X.prog X.w s.heap (.str x) (.str x t) := shw_is ⟨_, .str x t⟩ fun _ b => by
  simp only [PyData.shown] at b ⊢
  exact ReprIs.str x t b
theorem shw_key {k : Key} {u : Value} (h : keyIs k u = true) : Shw X.prog X.w s.heap (kD k) u := by
  rcases keyIs_shape h with ⟨i, t, rfl, rfl⟩ | ⟨x, t, rfl, rfl⟩
  · exact shw_int i t
  · exact shw_str x t
theorem shw_keys : ∀ {es : List DictEntry} {vs : List (Key × Value)} {kvs : List (Key × V)}, Pairs (mixKind X.prog X.w) es vs → KV kvs vs → ShwA X.prog X.w s.heap (kvs.map fun p => kD p.1) (es.map (·.key)) ∧ Vals (kvs.map (·.2)) (es.map (·.val))
  | _, _, _, .nil, .nil => ⟨shwA_nil, .nil⟩
  | _, _, _, .cons h1 h2 h3, .cons k1 k2 => by
    obtain ⟨q1, q2⟩ := shw_keys h3 k2
    refine ⟨shwA_cons ?_ q1, .cons ?_ q2⟩
    · have e := k1.1
      show Shw X.prog X.w s.heap (kD _) _
      rw [e]; exact shw_key h1
    · have := k1.2
      rw [← h2] at this
      exact this
theorem rp_shwA {n : Nat} (ih : ∀ (d : D) (v : V) (u : Value), d.depth ≤ n → Rp H v d → RelV v u → Shw X.prog X.w s.heap d u) : ∀ {ds : List D} {vs : List V} {us : List Value}, PyData.depthAll ds ≤ n → RpA H vs ds → Vals vs us → ShwA X.prog X.w s.heap ds us
  | _, _, _, _, .nil, .nil => shwA_nil
  | _, _, _, hn, .cons a1 a2, .cons b1 b2 => by
    simp only [PyData.depthAll] at hn
    exact shwA_cons (ih _ _ _ (by omega) a1 b1) (rp_shwA ih (by omega) a2 b2)
theorem rp_dct {B : Hp} {v : V} {xs : List (D × D)} (r : Rp B v (.dict xs)) : ∃ (a : Addr) (kvs : List (Key × V)) (ds : List D), v = .ref a ∧ B a = some (.dK kvs) ∧ RpA B (kvs.map (·.2)) ds ∧ xs.map (·.1) = kvs.map (fun p => kD p.1) ∧ xs.map (·.2) = ds := by
  cases r with
  | dct h1 h2 =>
    rename_i a kvs ds
    have l := rpa_len h2
    rw [List.length_map] at l
    exact ⟨a, kvs, ds, rfl, h1, h2, List.map_fst_zip (by rw [List.length_map]; omega), List.map_snd_zip (by rw [List.length_map]; omega)⟩
theorem rp_shw (I : Inv X pins σ H s) : ∀ (n : Nat) (d : D) (v : V) (u : Value), d.depth ≤ n → Rp H v d → RelV v u → Shw X.prog X.w s.heap d u := by
  intro n
  induction n with
  | zero =>
    intro d v u hn r ru
    cases d with
    | none => cases r; cases ru; exact shw_is ⟨_, .none⟩ fun _ _ => by simp only [PyData.shown]; exact ReprIs.none
    | bool b => cases r; cases ru; exact shw_is ⟨_, .bool b⟩ fun _ _ => by simp only [PyData.shown]; exact ReprIs.bool b
    | int i => cases r; obtain ⟨t, rfl⟩ := ru; exact shw_int i t
    | str x => cases r; obtain ⟨t, rfl⟩ := ru; exact shw_str x t
    | list ds => simp only [PyData.depth] at hn; omega
    | tuple ds => simp only [PyData.depth] at hn; omega
    | dict xs => simp only [PyData.depth] at hn; omega
  | succ n ih =>
    intro d v u hn r ru
    cases d with
    | none => exact ih _ _ _ (by simp [PyData.depth]) r ru
    | bool b => exact ih _ _ _ (by simp [PyData.depth]) r ru
    | int i => exact ih _ _ _ (by simp [PyData.depth]) r ru
    | str x => exact ih _ _ _ (by simp [PyData.depth]) r ru
    | list ds =>
      simp only [PyData.depth] at hn
      obtain ⟨a, vs, rfl, h1, h2⟩ := rp_lst r
      cases ru
      obtain ⟨its, rv, ⟨o, k, ho, hc, _, hdt⟩, _⟩ := I.list (SqL.of h1)
      exact shw_list ho hc hdt (rp_shwA ih (by omega) h2 rv)
    | tuple ds =>
      simp only [PyData.depth] at hn
      obtain ⟨a, vs, rfl, h1, h2⟩ := rp_tup r
      cases ru
      obtain ⟨its, rv, ⟨o, ho, hc, k, hdt⟩, _⟩ := I.tuple (SqT.of h1)
      exact shw_tup ho hc hdt (rp_shwA ih (by omega) h2 rv)
    | dict xs =>
      simp only [PyData.depth] at hn
      obtain ⟨a, kvs, ds, rfl, h1, h2, e1, e2⟩ := rp_dct r
      cases ru
      obtain ⟨_, hsys, vs0, rel, o, es, ep, ho, hex, hdt, _, hp, _⟩ := dk_of I.hok h1
      obtain ⟨q1, q2⟩ := shw_keys (s := s) hp rel
      have := PyData.depthAll_vals_le xs
      rw [e2] at this
      refine shw_dict ho hex.1 hdt hsys (by rw [e1]; exact q1) (by rw [e2]; exact rp_shwA ih (by omega) h2 q2)
/-- repr of any data -/
def bReprA : GB := fun ds Q => match ds with | [d] => PyData.showable d = true ∧ (PyData.shown d).length ≤ sizeLine ∧ PyData.depth d ≤ 60 ∧ Q (.str (PyData.shown d)) | _ => False
theorem m_ReprA : MonoB bReprA := fun ds Q Q' k h => by
  unfold bReprA at h ⊢
  split at h <;> first | exact h.elim | exact ⟨h.1, h.2.1, h.2.2.1, k _ h.2.2.2⟩
theorem c_reprA {c : C} (hgd : X.A.guards = some []) (hu : X.A.units + 64 < cLine) : CallD X c (.builtin "repr") bReprA := by
  refine ⟨m_ReprA, fun pins s σ H xs us Q I rv ⟨B, ds, w, ra, q⟩ => ?_⟩
  cases ds with
  | nil => exact q.elim
  | cons d r0 =>
  cases r0 with
  | cons _ _ => exact q.elim
  | nil =>
  obtain ⟨q1, q3, q4, q⟩ : PyData.showable d = true ∧ (PyData.shown d).length ≤ sizeLine ∧ PyData.depth d ≤ 60 ∧ ∀ v B' H', Gr c B H B' H' → Rp B' v (.str (PyData.shown d)) → Q v H' := q
  obtain ⟨v, e, r⟩ := ra.one
  subst e
  obtain ⟨u, rfl, ru⟩ := vals1 rv
  have fin : ∀ {h' : Heap} {tk : Tok} {t : Nat}, (∀ b o, s.heap.get? b = some o → h'.get? b = some o) → EP X pins σ Q (.str (PyData.shown d) tk) { s with heap := h', toks := t } := fun {h' tk t} hk => ⟨.str (PyData.shown d), H, I.kept hk, ⟨tk, rfl⟩, q _ B H (Gr.refl w) (.str _)⟩
  have here : ∀ {tk : Tok} {t : Nat}, EP X pins σ Q (.str (PyData.shown d) tk) { s with toks := t } := fun {tk t} => ⟨.str (PyData.shown d), H, I.tok _, ⟨tk, rfl⟩, q _ B H (Gr.refl w) (.str _)⟩
  have rH := r.rp w
  cases d with
  | dict xs =>
    simp only [PyData.depth] at q4
    obtain ⟨a, kvs, ds, rfl, h1, h2, e1, e2⟩ := rp_dct rH
    cases ru
    obtain ⟨_, hsys, vs0, rel, o, es, ep, ho, hex, hdt, _, hp, _⟩ := dk_of I.hok h1
    obtain ⟨p1, p2⟩ := shw_keys (s := s) hp rel
    have := PyData.depthAll_vals_le xs
    rw [e2] at this
    obtain ⟨bs, _, na, pE⟩ := dict_items (P := X.prog) (w := X.w) ho hex.1 hdt (by rw [e1]; exact p1) (by rw [e2]; exact rp_shwA (rp_shw I 60) (by omega) h2 p2) q1 q3
    refine call_repr_slot (by omega) ⟨o, ho, hex.1⟩ F.slot_dict_repr (call_dict_reprK ho hex.1 hdt hsys na pE hgd (fun b _ => Clear.nil b) (by show X.A.units + 1 + _ < cLine; omega) (fun _ _ z => z) (fun h' u tk hk => ⟨_, _, rfl, by simpa only [PyData.shown] using fin hk⟩) (by simpa only [PyData.shown] using q3))
  | list ds =>
    simp only [PyData.depth] at q4
    obtain ⟨a, vs, rfl, h1, h2⟩ := rp_lst rH
    cases ru
    obtain ⟨its, rvs, ⟨o, k, ho, hc, _, hdt⟩, _⟩ := I.list (SqL.of h1)
    have sA := rp_shwA (X := X) (rp_shw I 60) (by omega) h2 rvs
    obtain ⟨bs, _, na, pE⟩ := list_items (P := X.prog) (w := X.w) ho hc hdt sA q1 q3
    obtain ⟨as, ra⟩ := sA.rd
    have el := all_len ra
    cases its with
    | nil =>
      cases ds with
      | cons d ds => cases el
      | nil =>
        have en : (PyData.list []).shown = ("[]" : Str) := by simp only [PyData.shown, PyData.shownAll]; exact listText_nil
        rw [en] at here
        exact call_repr_slot (by omega) ⟨o, ho, hc⟩ F.slot_list_repr.toG (call_list_repr_empty ⟨o, ho, hc⟩ ho hdt ⟨_, _, rfl, here⟩)
    | cons x l =>
      refine call_repr_slot (by omega) ⟨o, ho, hc⟩ F.slot_list_repr.toG (call_list_reprK ho hc hdt na (by rw [shownAll_len, ← el]; simp) (fun i y e => pE.item i y (by simpa using e)) hgd (fun b _ => Clear.nil b) (by show X.A.units + 1 + _ < cLine; omega) (fun _ _ z => z) (fun h' u tk hk => ⟨_, _, rfl, by simpa only [PyData.shown] using fin hk⟩) (by simpa only [PyData.shown] using q3))
  | tuple ds =>
    simp only [PyData.depth] at q4
    obtain ⟨a, vs, rfl, h1, h2⟩ := rp_tup rH
    cases ru
    obtain ⟨its, rvs, ⟨o, ho, hc, k, hdt⟩, _⟩ := I.tuple (SqT.of h1)
    have sA := rp_shwA (X := X) (rp_shw I 60) (by omega) h2 rvs
    obtain ⟨bs, _, na, pE⟩ := tup_items (P := X.prog) (w := X.w) ho hc hdt sA q1 q3
    refine call_repr_slot (by omega) ⟨o, ho, hc⟩ F.slot_tuple_repr (call_tuple_reprK ho hc hdt na pE hgd (fun b _ => Clear.nil b) (by show X.A.units + 1 + _ < cLine; omega) (fun _ _ z => z) (fun h' u tk hk => ⟨_, _, rfl, by simpa only [PyData.shown] using fin hk⟩) (by simpa only [PyData.shown] using q3))
  | int i =>
    have e := r.int
    subst e
    obtain ⟨t, rfl⟩ := ru
    simp only [PyData.shown] at here
    exact PySem.P.repr_of_int (by simpa [PyData.showable] using q1) here
  | none =>
    have e := r.non
    subst e
    cases ru
    simp only [PyData.shown] at here
    exact PySem.P.repr_of_none here
  | bool b =>
    have e := r.bl
    subst e
    cases ru
    simp only [PyData.shown] at here
    exact PySem.P.repr_of_bool here
  | str x =>
    have e := r.str
    subst e
    obtain ⟨t, rfl⟩ := ru
    simp only [PyData.shown] at here q3
    exact PySem.P.repr_of_str here q3
end
end DL
namespace DL
open PySem L2 PySem.Spec PyProof.Rows
/-! ### dict displays: none, one entry -/
section
variable {X : Cx} {c : C}
theorem v_dict0 {pos : Pos} : PV X c (.Dict [] [] pos) (fC (.dict [])) :=
  ⟨fun _ _ _ k h => k _ h, pe_weak pe_dnewK fun σ H Q ⟨B, ρ, ok, h⟩ p hp => h (.ref p) _ _ (Gr.new (o := .dK []) ok.w hp) (.dct (kvs := []) (ds := []) upd_same .nil)⟩
theorem Gr.redo {B H B2 H2 : Hp} {p : Addr} {o : HO} (w : Wd c B H) (g : Gr c B H B2 H2) (h0 : H p = none) (h1 : B2 p = none) : Gr c B H (upd B2 p o) (upd H2 p o) := by
  have nb : ¬ c.isBag p := fun z => w.there z h0
  refine ⟨g.b.trans (Evl.Ex.new h1), fun a u n e => ?_, fun a ha => ?_, fun a u e => ?_, g.w.bag.keep fun a ha => ⟨upd_ne fun z => nb (z ▸ ha), upd_ne fun z => nb (z ▸ ha)⟩⟩
  · rw [upd_ne (ne_of_none e h0)]; exact g.h a u n e
  · rw [upd_ne (fun z => ha (by rw [z]; exact h0))]; exact g.n a ha
  · by_cases z : a = p
    · subst z
      rw [upd_same] at e ⊢
      exact e
    · rw [upd_ne z] at e ⊢
      exact g.w.sub a u e
def fDict1 (k : Key) (fa : SE) : SE := fun ρ Q => fa ρ fun d => Q (.dict [(kD k, d)])
theorem v_dict1 {ke e : Expr} {k : Key} {fa : SE} {pos : Pos} (hk : PE X ke (fun _ H Q => Q (kV k) H)) (he : PV X c e fa) : PV X c (.Dict [some ke] [e] pos) (fDict1 k fa) := by
  refine ⟨fun ρ Q Q' j h => he.mono _ _ _ (fun d hd => j _ hd) h, pe_weak (pe_disp (pps_cons hk he.pe pps_nil) rfl rfl (by simp) (by simp)) fun σ H Q ⟨B, ρ, ok, h⟩ p hp => ?_⟩
  have g1 := Gr.newO (o := .dK []) ok.w hp
  have nb : ¬ c.isBag p := fun z => ok.w.there z hp
  refine ⟨B, ρ, ok.mono g1, he.mono _ _ _ (fun d hd v B2 H2 g2 r2 => ?_) h⟩
  have e2 : H2 p = some (.dK []) := g2.h p _ nb upd_same
  have b2 : B2 p = none := by
    rw [g2.n p (by rw [upd_same]; exact fun z => nomatch z)]
    exact Evl.fresh_back ok.w.sub hp
  have G := Gr.redo (o := .dK [(k, v)]) ok.w (g1.trans ok.w g2) hp b2
  have m1 : mergeK [] [(k, v)] = [(k, v)] := rfl
  refine ⟨e2, [(k, v)], rfl, by simp, ?_⟩
  rw [m1]
  exact hd _ _ _ G (.dct (kvs := [(k, v)]) (ds := [d]) upd_same (.cons (rp_mono (Evl.Ex.new b2) r2) .nil))
theorem pk_int {i : Int} {j : Nat} {pos : Pos} : PE X (.Constant (.int i) j pos) (fun _ H Q => Q (kV (.inl i)) H) := pe_int
theorem pk_str {x : Str} {j : Nat} {pos : Pos} : PE X (.Constant (.str x) j pos) (fun _ H Q => Q (kV (.inr x)) H) := pe_str
end
/-! ### enumerate(a tuple) -/
open AutoSeq1 (wpAny_loadPart') in
theorem meets_enum_tup (t : Addr) (its : Array Value) (m : Nat) (od : Option Addr) (os : Array (Option Value)) :
    Meets (Builtin.«enumerate.__new__» ⟨[.type "enumerate", .ref t], []⟩) (fun _ R s => s.heap.get? t = some { cls := .type "tuple", dict := od, data := .seq its m, slots := os } ∧
      R (.ok (.ret (.ref (s.heap.push { cls := .type "tuple_iterator", data := .fields #[.ref t, .int 0 0] }).objs.size)))
        { s with heap := (s.heap.push { cls := .type "tuple_iterator", data := .fields #[.ref t, .int 0 0] }).push { cls := .type "enumerate", data := .fields #[.none, .bool false, .ref s.heap.objs.size, rawInt 0, .none, .none] } }) :=
  .of_wp fun prog w A R s h => by
    obtain ⟨hp, g, d, tk, osx⟩ := s
    obtain ⟨ht, h⟩ := h
    have sE := sub_enumerate
    have hT : Heap.IsTuple (Shared.heap ⟨hp, g, d, tk, osx⟩) t its := ⟨_, ht, rfl, m, rfl⟩
    wp_walk using wpAny_loadPart' ht
    refine wpAny_stack_any fun st => wpAny_pure ?_
    split
    · rename_i cx _ _ _ _ _
      cases (cx == Value.type "enumerate")
      · wp_walk using wpAny_loadPart' ht, wpAny_pyIter_tuple hT
        exact ⟨_, rfl, h⟩
      · wp_walk using wpAny_loadPart' ht, wpAny_pyIter_tuple hT
        exact ⟨_, rfl, h⟩
    · wp_walk using wpAny_loadPart' ht, wpAny_pyIter_tuple hT
      exact ⟨_, rfl, h⟩
section
variable {prog : Program} {w : World} {A : Around} {E : Value → Shared → Prop} {s : Shared}
theorem call_enum_tup {t : Addr} {its : Array Value} {Q : Value → Shared → Prop} (hT : s.heap.IsTuple t its)
    (h : ∀ h', IsEnum h' (s.heap.objs.size + 1) s.heap.objs.size 0 .none → h'.IsTupleIter s.heap.objs.size t 0 → (∀ b o, s.heap.get? b = some o → h'.get? b = some o) → Q (.ref (s.heap.objs.size + 1)) { s with heap := h' }) :
    wpAny (model prog w) A (call (.type "enumerate") [.ref t]) Q E s := by
  obtain ⟨⟨oc, od, dt, osl⟩, ht, e1, m, e2⟩ := hT
  simp only at e1 e2
  subst e1 e2
  refine callType_new F.called_enumerate (by decide) (F.typeCall_enumerate_1 _) (F.newCall_enumerate_1 _) (fun ob => F.args_object_init_2 ob _) F.entry_enumerate_new (meets_enum_tup t its m od osl) ⟨ht, ?_⟩
  have sz : (s.heap.push { cls := .type "tuple_iterator", data := .fields #[.ref t, .int 0 0] }).objs.size = s.heap.objs.size + 1 := Heap.size_push ..
  show _ ∧ _
  rw [sz]
  have he : IsEnum ((s.heap.push { cls := .type "tuple_iterator", data := .fields #[.ref t, .int 0 0] }).push { cls := .type "enumerate", data := .fields #[.none, .bool false, .ref s.heap.objs.size, rawInt 0, .none, .none] }) (s.heap.objs.size + 1) s.heap.objs.size 0 .none := by
    have q := Heap.get?_push_size (s.heap.push { cls := .type "tuple_iterator", data := .fields #[.ref t, .int 0 0] }) (o := { cls := .type "enumerate", data := .fields #[.none, .bool false, .ref s.heap.objs.size, rawInt 0, .none, .none] }) rfl
    rw [sz] at q
    exact q
  exact ⟨⟨_, he, rfl⟩, h _ he ⟨_, Heap.get?_push_of_some _ (Heap.get?_push_size _ rfl), rfl, rfl⟩ fun b o z => Heap.get?_push_of_some _ (Heap.get?_push_of_some _ z)⟩
end
/-- the tuple at a, its items in new pairs -/
def IteT (K : PySem.W.Frag) (a : Addr) : It :=
  ⟨fun i H => ∃ (xs : List V) (x : V), SqT K H a xs ∧ xs[i]? = some x, fun i H v H' => ∃ T x, v = .ref T ∧ H T = none ∧ H' = upd H T (.tup [.int (i : Nat), x]) ∧ ∀ xs, SqT K H a xs → xs[i]? = some x, fun i H => ∃ xs : List V, SqT K H a xs ∧ xs.length ≤ i⟩
theorem turn_enumT {P : Program} {w : World} {K : PySem.W.Frag} {elts : List Expr} {kk : Nat} {tpos : Pos} (a e it : Addr) (hai : a ≠ it) (hea : e ≠ a) :
    Turn P w K (.Tuple elts kk tpos) (IteT K a) [e, it] e (fun i h => (∃ old, IsEnum h e it ((i : Nat) : Int) old) ∧ h.IsTupleIter it a i ∧ e ≠ it) where
  mem := by simp
  obj := fun i h st b hb => by
    obtain ⟨⟨old, q1⟩, ⟨o, q2, _, q3⟩, _⟩ := st
    rcases (by simpa using hb : b = e ∨ b = it) with z | z
    · rw [z]; exact ⟨_, q1, fun v y => nomatch y⟩
    · rw [z]; exact ⟨o, q2, fun v y => by rw [q3] at y; cases y⟩
  keep := fun i h h' st k => ⟨⟨st.1.choose, k e (by simp) _ st.1.choose_spec⟩, st.2.1.at fun o q => k it (by simp) o q, st.2.2⟩
  item := by
    intro X hP hw hK hc i pins s σ H E I hf st hg
    subst hP hw hK
    obtain ⟨⟨old, q1⟩, q2, q3⟩ := st
    obtain ⟨xs, x, hq, hx⟩ := hg
    obtain ⟨its, rv, p, hz⟩ := I.tuple hq
    obtain ⟨u, hu, ru⟩ := rv.get hx
    have l1 : e < s.heap.objs.size := Heap.lt_size q1
    have l2 : it < s.heap.objs.size := by
      obtain ⟨_, y, _⟩ := q2
      exact Heap.lt_size y
    have hi : i < its.toArray.size := by
      rw [List.size_toArray, ← rv.length]
      exact (List.getElem?_eq_some_iff.mp hx).1
    have D := Draws.tuple (prog := X.prog) (w := X.w) (A := X.A.in1) (I.ok.hd hc) it a hai its.toArray
    refine wpAny_pyNext_enum_itemD D q1 ⟨q2, p⟩ hi q3 (by simp [q3, hea]) fun y h' tk hy ho st' hT hsz hk => ?_
    have ey : y = u := by
      have : its[i]? = some y := by simpa using hy
      rw [hu] at this
      exact (Option.some.inj this).symm
    subst ey
    refine ⟨_, rfl, wpAny_letOwnedTupleGo_enum (s := { s with heap := h', toks := tk + 1 }) ho fun h'' he' sb => ?_⟩
    have hT2 : h''.get? s.heap.objs.size = some { cls := .type "tuple", data := .seq #[.int i tk, y] } := (sb.2 _ (Nat.ne_of_gt l1)).trans hT
    have new : ObjOk X.prog X.w (upd H s.heap.objs.size (.tup [.int (i : Nat), x])) h'' s.heap.objs.size (.tup [.int (i : Nat), x]) :=
      ⟨by show 2 ≤ sizeLine; decide, [.int i tk, y], .cons ⟨_, rfl⟩ (.cons ru .nil), ⟨_, hT2, rfl, _, rfl⟩⟩
    have I1 : Inv X pins σ (upd H s.heap.objs.size (.tup [.int (i : Nat), x])) { s with heap := h'', toks := tk + 1 } :=
      I.turnedNew (ch := [e, it]) (fun b ob hb q => (sb.2 b (fun z => hb (by simp [z]))).trans (hk b ob (fun z => hb (by simp [z])) (fun z => hb (by simp [z])) q)) hf (Nat.le_refl _) new
    have e1 : ((i + 1 : Nat) : Int) = (i : Int) + 1 := by omega
    refine ⟨.ref s.heap.objs.size, _, I1, rfl, ⟨_, x, rfl, I.hok.fresh (Nat.le_refl _), rfl, fun ys hy => by rw [I.tuple_inj hy hq]; exact hx⟩, ⟨⟨y, by rw [e1]; exact he'⟩, st'.1.at fun o q => (sb.2 it (Ne.symm q3)).trans q, q3⟩, fun b hb => ?_⟩
    have l3 : b < s.heap.objs.size := by
      rcases (by simpa using hb : b = e ∨ b = it) with z | z <;> rw [z] <;> assumption
    rw [upd_ne (Nat.ne_of_lt l3)]
    exact (hf b hb).1
  done := by
    intro X hP hw hK hc i pins s σ H E I hf st hg
    subst hP hw hK
    obtain ⟨⟨old, q1⟩, q2, q3⟩ := st
    obtain ⟨xs, hq, hx⟩ := hg
    obtain ⟨its, rv, p, hz⟩ := I.tuple hq
    obtain ⟨f0, f1, _, f3, f4, f5⟩ := hf it (by simp)
    have hn : its.toArray[i]? = none := by
      have := rv.length
      simp only [List.getElem?_toArray, List.getElem?_eq_none_iff]
      omega
    have D : Draws X.prog X.w X.A.in1 it [it, a] i (fun _ _ => True) (fun j h => j = i ∧ h.IsTupleIter it a i ∧ h.IsTuple a its.toArray) :=
      { live := fun j h st => st.2.1.elim fun o z => ⟨o, z.1⟩
        frame := fun j h h' st k => ⟨st.1, st.2.1.at fun o z => k it (by simp) o z, st.2.2.at fun o z => k a (by simp) o z⟩
        item := fun j s Q E hj st _ => absurd st.1 (Nat.ne_of_lt hj)
        done := fun s Q E st hE => wpAny_nextOf_tuple_end (I.ok.hd hc) st.2.1 st.2.2 hn hE }
    exact wpAny_pyNext_enum_endD D q1 ⟨rfl, q2, p⟩ fun h' eb => ⟨rfl, I.turned (t' := s.toks) (fun b o hb z => eb b o hb z) f0 f1 f3 f4 f5⟩
  self := fun A i s Q E st h => let ⟨⟨_, he⟩, _⟩ := st; wpAny_pyIter_enum he h
def iEnumT (K : PySem.W.Frag) (ta : TA) : TI := fun σ H R => ta σ H fun vs H1 => ∃ a xs, vs = [.ref a] ∧ SqT K H1 a xs ∧ R (IteT K a) H1
theorem pi_enumT {X : Cx} {e : Expr} {ta : TA} {p pos tpos : Pos} {elts : List Expr} {kk : Nat} (hg : Gl X "enumerate") (hm : X.mg "enumerate" = none) (ha : PA X [e] ta) (hs : starEach [e] X.env = [(false, eval e X.env)] := by rfl) :
    L2.PI X (.Tuple elts kk tpos) (.Call (.Name "enumerate" p) [e] [] pos) (iEnumT X.K ta) := by
  refine ⟨fun pins s σ H R I h => Call_ (ld_blt I hg hm boot_enumerate (PyProof.Rows.callWith_type1 (thn (ha.run pos pins s σ H _ I h) fun us s1 ⟨vs, H1, I1, r1, a, xs, ex, hq, q⟩ => ?_) hs rfl))⟩
  subst ex
  rw [Vals.ref1 r1]
  obtain ⟨its, rv, pt, hz⟩ := I1.tuple hq
  refine call_enum_tup pt fun h' he hit hk => wpAny_pyIter_enum he ?_
  have la : a < s1.heap.objs.size := by
    obtain ⟨o, z, _⟩ := pt
    exact Heap.lt_size z
  refine ⟨s1.heap.objs.size + 1, [s1.heap.objs.size + 1, s1.heap.objs.size], _, _, H1, rfl, I1.kept (t' := s1.toks) hk, turn_enumT a (s1.heap.objs.size + 1) s1.heap.objs.size (Nat.ne_of_lt la) (Nat.ne_of_gt (Nat.lt_succ_of_lt la)), ⟨⟨.none, he⟩, hit, Nat.succ_ne_self _⟩, fun b hb => ?_, q⟩
  have hle : s1.heap.objs.size ≤ b := by
    rcases (by simpa using hb : b = s1.heap.objs.size + 1 ∨ b = s1.heap.objs.size) with z | z
    · rw [z]; exact Nat.le_succ _
    · rw [z]; exact Nat.le_refl _
  exact I1.fpOk hle (I1.hok.fresh hle)
section
variable {X : Cx} {c : C} {elts : List Expr} {kk : Nat} {tpos : Pos}
def fEnumT (fa : SE) : SI := fun ρ Q => fa ρ fun d => match d with | .tuple ds => Q (enumD 0 ds) | _ => False
theorem i_enumT {e : Expr} {fa : SE} {p pos : Pos} (hm : X.mg "enumerate" = none) (ha : PV X c e fa) (hg : Gl X "enumerate" := by rfl) (hs : starEach [e] X.env = [(false, eval e X.env)] := by rfl) : PItd X c (.Tuple elts kk tpos) (.Call (.Name "enumerate" p) [e] [] pos) (fEnumT fa) := by
  refine ⟨fun ρ Q Q' k h => ha.mono _ _ _ (fun d hd => ?_) h, pi_weak (pi_enumT hg hm (pa_cons ha.pe pa_nil (by rw [hs]; rfl)) hs) fun σ H R ⟨B, ρ, ok, h⟩ => ⟨B, ρ, ok, ha.mono _ _ _ (fun d hd v B' H' g r => ?_) h⟩⟩
  · cases d <;> first | exact hd.elim | exact k _ hd
  · cases d <;> first | exact hd.elim | skip
    rename_i ds
    obtain ⟨a, xs, rfl, h1, h2⟩ := rp_tup r
    refine ⟨a, xs, rfl, SqT.of (g.w.sub _ _ h1), hd _ B' H' g fun i B1 H1 e1 w => ?_⟩
    have h3 : H1 a = some (.tup xs) := w.sub _ _ (e1 _ _ h1)
    refine ⟨fun hi => ⟨xs, SqT.of h3, by rw [rpa_len h2]; rw [enumD_len] at hi; exact hi⟩, fun d hd' => ?_⟩
    obtain ⟨x, h4, h5⟩ := enumD_get hd'
    obtain ⟨y, h6, h7⟩ := rpa_get h2 h4
    refine ⟨⟨xs, y, SqT.of h3, h6⟩, fun z H2 ⟨T, u, e2, hT, e3, hy⟩ => ?_⟩
    subst e2 e3 h5
    have hu := hy xs (SqT.of h3)
    rw [h6] at hu
    cases hu
    have gn := Gr.new (o := .tup [.int (i : Nat), y]) w hT
    refine ⟨_, gn, .tup upd_same (.cons ?_ (.cons (rp_mono gn.b (rp_mono e1 h7)) .nil))⟩
    have e0 : ((0 + i : Nat) : Int) = (i : Int) := by omega
    rw [e0]
    exact .int _
end
end DL
namespace DL
open PySem L2 PySem.Spec PyProof.Rows
section
variable {X : Cx} {c : C}
def mx2 (i j : Int) : Int := if j > i then j else i
theorem nu_mx2 (i j : Int) : nuMax2 (.int i) (.int j) = some (.int (mx2 i j)) := by
  unfold mx2
  show (some (decide (i < j))).map _ = _
  by_cases h : i < j
  · rw [if_pos h, decide_eq_true h]; rfl
  · rw [if_neg h, decide_eq_false h]; rfl
def bMax3 : GB | [.int i, .int j, .int k], Q => Q (.int (mx2 (mx2 i j) k)) | _, _ => False
theorem m_Max3 : MonoB bMax3 := fun ds Q Q' k h => by
  unfold bMax3 at h ⊢
  split at h <;> first | exact k _ h | exact h.elim
theorem c_max3 (hc : X.calm = true) : CallD X c (.builtin "max") bMax3 := ⟨m_Max3, callr_weak (call_max3Nu hc) fun xs H Q ⟨B, ds, w, ra, q⟩ => by
  unfold bMax3 at q
  split at q <;> first | exact q.elim | skip
  cases xs with
  | nil => exact ra.elim
  | cons v xs =>
    obtain ⟨r1, ra⟩ := ra
    obtain ⟨u, x, e, r2, r3⟩ := BwA.two ra
    subst e
    rw [r1.int, r2.int, r3.int]
    refine ⟨_, _, _, _, rfl, ?_, q _ B H (Gr.refl w) (.int _)⟩
    unfold nuMax3
    rw [nu_mx2]
    exact nu_mx2 _ _⟩
end
end DL
namespace DL.Go
open DL PySem L2 PySem.Spec PyProof.Rows
/-! ### readings step by step -/
section
variable {ρ : Env} {Q : D → Prop} {R : List D → Prop} {E : En}
theorem lc_go {fa : SE} {fl : SL} (h : fa ρ fun d => fl ρ fun ds => R (d :: ds)) : fLC fa fl ρ R := h
theorem ln_go (h : R []) : fLN ρ R := h
theorem c_go {d : D} (h : Q d) : fC d ρ Q := h
theorem v_sh {i : Nat} {d : D} (e : lk ρ i = .sh d) (h : Q d) : fV i ρ Q := by unfold fV; rw [e]; exact h
theorem n_sh {i : Nat} {d : D} (e : lk ρ i = .sh d) (h : Q d) : fN i ρ Q := by unfold fN; rw [e]; exact h
theorem n_ow {i : Nat} {ds : List D} (e : lk ρ i = .ow ds) (h : Q (.list ds)) : fN i ρ Q := by unfold fN; rw [e]; exact h
theorem tup_go {f : SL} (h : f ρ fun ds => Q (.tuple ds)) : fTup f ρ Q := h
theorem nv_go {f : SL} (h : f ρ fun ds => Q (.list ds)) : fNV f ρ Q := h
theorem dict1_go {k : Key} {fa : SE} (h : fa ρ fun d => Q (.dict [(kD k, d)])) : fDict1 k fa ρ Q := h
theorem bin_go {g : G2} {fa fb : SE} (h : fa ρ fun d => fb ρ fun e => g d e Q) : fBin g fa fb ρ Q := h
theorem slT_go {fa : SE} {fl fh : SO} (h : fa ρ fun d => fl ρ fun lo => fh ρ fun hi => match d with | .tuple ds => Q (.tuple (cutD ds lo hi)) | _ => False) : fSlT fa fl fh ρ Q := h
theorem slL_go {fa : SE} {fl fh : SO} (h : fa ρ fun d => fl ρ fun lo => fh ρ fun hi => match d with | .list ds => R (cutD ds lo hi) | _ => False) : fSlL fa fl fh ρ R := h
theorem on_go {Q : Option Int → Prop} (h : Q none) : fON ρ Q := h
theorem os_go {fa : SE} {Q : Option Int → Prop} (h : fa ρ fun d => match d with | .int i => Q (some i) | _ => False) : fOS fa ρ Q := h
theorem sub_go {i j : Int} (h : Q (.int (i - j))) : gSub (.int i) (.int j) Q := h
theorem addI_go {i j : Int} (h : Q (.int (i + j))) : gAdd (.int i) (.int j) Q := h
theorem addT_go {xs ys : List D} (h : xs.length + ys.length ≤ sizeLine) (k : Q (.tuple (xs ++ ys))) : gAdd (.tuple xs) (.tuple ys) Q := ⟨h, k⟩
theorem addL_go {xs ys : List D} (h : xs.length + ys.length ≤ sizeLine) (k : Q (.list (xs ++ ys))) : gAdd (.list xs) (.list ys) Q := ⟨h, k⟩
theorem repT_go {ds : List D} {k : Int} (h1 : ds ≠ []) (h2 : 0 ≤ k) (h3 : k ≤ 1000) (h4 : ds.length ≤ 1000) (h : Q (.tuple (List.replicate k.toNat ds).flatten)) : gRepT (.tuple ds) (.int k) Q := ⟨h1, h2, h3, h4, h⟩
theorem mulI_go {i j : Int} (h : CMulW i j) (k : Q (.int (i * j))) : gMul (.int i) (.int j) Q := ⟨h, k⟩
theorem divI_go {i j : Int} (h : j.natAbs.log2 < 9000) (p : 0 < j) (k : Q (.int (i / j))) : gDiv (.int i) (.int j) Q := ⟨h, by rw [if_pos p]; exact k⟩
theorem modI_go {i j : Int} (p : 0 < j) (k : Q (.int (i % j))) : gMod (.int i) (.int j) Q := by unfold gMod; dsimp only; rw [if_pos p]; exact k
theorem ixT_go {ds : List D} {i : Int} {d : D} (e : atI ds i = some d) (h : Q d) : gIx (.tuple ds) (.int i) Q := by unfold gIx; dsimp only; rw [e]; exact h
theorem ixL_go {ds : List D} {i : Int} {d : D} (e : atI ds i = some d) (h : Q d) : gIx (.list ds) (.int i) Q := by unfold gIx; dsimp only; rw [e]; exact h
theorem neg_go {fa : SE} (h : fa ρ fun d => match d with | .int i => Q (.int (-i)) | _ => False) : fNeg fa ρ Q := h
theorem seqT_go {fa : SE} (h : fa ρ fun d => match seqOf d with | some ds => R ds | none => False) : fSeq fa ρ R := h
theorem call_go {S : Spec} {fa : SA} (h : fa ρ fun ss => S ss Q) : fCall S fa ρ Q := h
theorem callK_go {S : Spec} {is : List Nat} {fa : SA} (h : fa ρ fun ss => S (perm is ss) Q) : fCallK S is fa ρ Q := h
theorem cb_go {g : GB} {fa : SL} (h : fa ρ fun ds => g ds Q) : fCB g fa ρ Q := h
theorem if_go {t : ST} {fa fb : SE} (h : t ρ fun b => if b = true then fa ρ Q else fb ρ Q) : fIf t fa fb ρ Q := h
theorem an_go {J : List Sl → Prop} (h : J []) : fAN ρ J := h
theorem ac_go {fa : SE} {fr : SA} {J : List Sl → Prop} (h : fa ρ fun d => fr ρ fun ss => J (.sh d :: ss)) : fAC fa fr ρ J := h
theorem ab_go {i : Nat} {fr : SA} {J : List Sl → Prop} (e : lk ρ i = .bg) (h : fr ρ fun ss => J (.bg :: ss)) : fAB i fr ρ J := by unfold fAB; rw [e]; exact h
theorem mv_go {fa : SE} {fr : SM} {J : List Sl → Prop} (h : fa ρ fun d => fr ρ fun ss => J (.sh d :: ss)) : fMV fa fr ρ J := h
theorem par_go {js : List Nat} {f : SM} (h : f ρ fun ss => js.length = ss.length ∧ E.nx (setAll ρ js ss)) : fPar js f E ρ := h
theorem sq_go {A B : SS} (h : A { E with nx := B E } ρ) : fSeqS A B E ρ := h
theorem set_go {i : Nat} {fa : SE} (h : fa ρ fun d => E.nx (ρ.set i (.sh d))) : fSet i fa E ρ := h
theorem setN_go {i : Nat} {fl : SL} (h : fl ρ fun ds => E.nx (ρ.set i (.ow ds))) : fSetN i fl E ρ := h
theorem ret_go {fa : SE} (h : fa ρ E.rt) : fRet fa E ρ := h
theorem asg_go {fa : SE} {g : GT} (h : fa ρ fun d => g d ρ E.nx) : fAsg fa g E ρ := h
theorem ifs_go {t : ST} {f g : SS} (h : t ρ fun b => if b = true then f E ρ else g E ρ) : fIfS t f g E ρ := h
theorem next_go (h : E.nx ρ) : fNext E ρ := h
theorem nm_go {i : Nat} {d : D} {J : Env → Prop} (h : J (ρ.set i (.sh d))) : gNm i d ρ J := h
theorem app_go {i : Nat} {fa : SE} {ds : List D} (e : lk ρ i = .ow ds) (h : fa ρ fun d => ds.length < most ∧ E.nx (ρ.set i (.ow (ds ++ [d])))) : fApp i fa E ρ := by unfold fApp; rw [e]; exact h
theorem ext_go {i : Nat} {fa : SE} {ds : List D} (e : lk ρ i = .ow ds) (h : fa ρ fun d => (match d with | .list es => ds.length + es.length ≤ most ∧ E.nx (ρ.set i (.ow (ds ++ es))) | _ => False)) : fExt i fa E ρ := by unfold fExt; rw [e]; exact h
theorem fors_go {fi : SI} {g : GT} {body : SS} (h : fi ρ fun ds => fFor g body ds E ρ) : fForS fi g body E ρ := h
theorem cmp_go {g : GC} {fa fb : SE} {J : Bool → Prop} (h : fa ρ fun d => fb ρ fun e => g d e J) : fCmp g fa fb ρ J := h
theorem tv_go {fa : SE} {J : Bool → Prop} (h : fa ρ fun d => match d with | .bool b => J b | _ => False) : fTV fa ρ J := h
theorem not_go {t : ST} {J : Bool → Prop} (h : t ρ fun b => J (!b)) : fNot t ρ J := h
theorem and_go {s t : ST} {J : Bool → Prop} (h : s ρ fun b => if b = true then t ρ J else J false) : fAnd s t ρ J := h
theorem or_go {s t : ST} {J : Bool → Prop} (h : s ρ fun b => if b = true then J true else t ρ J) : fOr s t ρ J := h
theorem lenT_go {ds : List D} (h : Q (.int (ds.length : Int))) : bLen [.tuple ds] Q := h
theorem lenL_go {ds : List D} (h : Q (.int (ds.length : Int))) : bLen [.list ds] Q := h
theorem absI_go {i : Int} (h : Q (.int (if i < 0 then -i else i))) : bAbs [.int i] Q := h
theorem intI_go {i : Int} (h : Q (.int i)) : bInt [.int i] Q := h
theorem max2_go {i j : Int} (h : Q (.int (if j > i then j else i))) : bMax2 [.int i, .int j] Q := h
theorem min2_go {i j : Int} (h : Q (.int (if j < i then j else i))) : bMin2 [.int i, .int j] Q := h
theorem tupL_go {ds : List D} (h : Q (.tuple ds)) : bTuple [.list ds] Q := h
theorem tupT_go {ds : List D} (h : Q (.tuple ds)) : bTuple [.tuple ds] Q := h
theorem gv_go {g : GC} {d e : D} (h : g d e fun b => Q (.bool b)) : gv g d e Q := h
theorem ltI_go {i j : Int} {J : Bool → Prop} (h : J (decide (i < j))) : gLt (.int i) (.int j) J := h
theorem leI_go {i j : Int} {J : Bool → Prop} (h : J (decide (i ≤ j))) : gLe (.int i) (.int j) J := h
theorem gtI_go {i j : Int} {J : Bool → Prop} (h : J (decide (j < i))) : gGt (.int i) (.int j) J := h
theorem geI_go {i j : Int} {J : Bool → Prop} (h : J (decide (j ≤ i))) : gGe (.int i) (.int j) J := h
theorem eqI_go {i j : Int} {J : Bool → Prop} (h : J (decide (i = j))) : gEq (.int i) (.int j) J := h
theorem neI_go {i j : Int} {J : Bool → Prop} (h : J (!decide (i = j))) : gNe (.int i) (.int j) J := h
theorem eqS_go {i j : Str} {J : Bool → Prop} (h : J (decide (i = j))) : gEq (.str i) (.str j) J := h
theorem rng1_go {fa : SE} (h : fa ρ fun d => match d with | .int j => -(2 ^ 62) ≤ j ∧ j < 2 ^ 62 ∧ R (rng 0 j.toNat) | _ => False) : fRng1 fa ρ R := h
theorem sqT_go {n : Nat} {gs : GTs} {ds : List D} {J : Env → Prop} (h : ds.length = n) (k : gs ds ρ J) : gSq n gs (.tuple ds) ρ J := ⟨h, k⟩
theorem sqL_go {n : Nat} {gs : GTs} {ds : List D} {J : Env → Prop} (h : ds.length = n) (k : gs ds ρ J) : gSq n gs (.list ds) ρ J := ⟨h, k⟩
theorem gsC_go {g : GT} {gs : GTs} {d : D} {ds : List D} {J : Env → Prop} (h : g d ρ fun ρ' => gs ds ρ' J) : gsCons g gs (d :: ds) ρ J := h
theorem gsN_go {J : Env → Prop} (h : J ρ) : gsNil [] ρ J := ⟨rfl, h⟩
theorem frz_go {i : Nat} {f : SS} {ds : List D} (e : lk ρ i = .ow ds) (h : f E (ρ.set i (.sh (.list ds)))) : fFrz i f E ρ := by unfold fFrz; rw [e]; exact h
theorem frz_sh {i : Nat} {f : SS} {d : D} (e : lk ρ i = .sh d) (h : f E ρ) : fFrz i f E ρ := by unfold fFrz; rw [e]; exact h
theorem mn_go {fl : SL} {fr : SM} {J : List Sl → Prop} (h : fl ρ fun ds => fr ρ fun ss => J (.ow ds :: ss)) : fMN fl fr ρ J := h
theorem andV_go {fa fb : SE} (h : fa ρ fun d => match d with | .bool b => if b = true then fb ρ Q else Q (.bool false) | _ => False) : fAndV fa fb ρ Q := h
theorem cat_go {fa fb : SE} (h : fa ρ fun d => fb ρ fun e => match d, e with | .list xs, .list ys => xs.length + ys.length ≤ sizeLine ∧ R (xs ++ ys) | _, _ => False) : fCat fa fb ρ R := h
theorem callO_go {S : Spec} {fa : SA} (h : fa ρ fun ss => S ss fun d => match d with | .list ds => R ds | _ => False) : fCallO S fa ρ R := h
theorem retO_go {i : Nat} {ds : List D} (e : lk ρ i = .ow ds) (h : E.ro ds) : fRetO i E ρ := by unfold fRetO; rw [e]; exact h
theorem retN_go {f : SL} (h : f ρ E.ro) : fRetN f E ρ := h
theorem ifN_go {t : ST} {fa fb : SL} (h : t ρ fun b => if b = true then fa ρ R else fb ρ R) : fIfN t fa fb ρ R := h
theorem yes_go {J : Bool → Prop} (h : J true) : fYes ρ J := h
theorem isI_go {T : String} {fa : SE} (h : fa ρ fun d => Q (.bool (DL.isB (tyN d) T))) : fIsI T fa ρ Q := h
theorem isB_go {d : D} {b : Bool} {J : Bool → Prop} (h : J (isBool b d)) : gIsB d (.bool b) J := h
theorem isN_go {d : D} {J : Bool → Prop} (h : J (isNone d)) : gIsN d .none J := h
theorem notN_go {d : D} {J : Bool → Prop} (h : J (!isNone d)) : gNotN d .none J := h
theorem lrev_go {fa : SE} (h : fa ρ fun d => match d with | .list ds => R ds.reverse | _ => False) : fLRev fa ρ R := h
theorem bk_go (h : E.bk ρ) : fBreak E ρ := h
theorem ct_go (h : E.ct ρ) : fCont E ρ := h
theorem rng2_go {fa fb : SE} (h : fa ρ fun d => fb ρ fun e => match d, e with | .int i, .int j => (-(2 ^ 62) ≤ i ∧ i < 2 ^ 62 ∧ -(2 ^ 62) ≤ j ∧ j < 2 ^ 62) ∧ R (rng i (j - i).toNat) | _, _ => False) : fRng2 fa fb ρ R := h
theorem orV_go {fa fb : SE} (h : fa ρ fun d => match d with | .bool b => if b = true then Q (.bool true) else fb ρ Q | _ => False) : fOrV fa fb ρ Q := h
theorem notV_go {fa : SE} (h : fa ρ fun d => match d with | .bool b => Q (.bool (!b)) | _ => False) : fNotV fa ρ Q := h
theorem setIx_go {i : Nat} {fa fk : SE} {ds : List D} (e : lk ρ i = .ow ds) (h : fa ρ fun d => fk ρ fun j => match j with | .int j => (match ixN ds.length j with | some m => E.nx (ρ.set i (.ow (ds.set m d))) | none => False) | _ => False) : fSetIx i fa fk E ρ := by unfold fSetIx; rw [e]; exact h
theorem ifd {p : Prop} [Decidable p] {A B : Prop} (h : p → A) (k : ¬ p → B) : if decide p = true then A else B := by
  by_cases z : p
  · rw [if_pos (decide_eq_true z)]; exact h z
  · rw [if_neg (by simpa using z)]; exact k z
theorem ifdn {p : Prop} [Decidable p] {A B : Prop} (h : ¬ p → A) (k : p → B) : if (!decide p) = true then A else B := by
  by_cases z : p
  · rw [if_neg (by simpa using z)]; exact k z
  · rw [if_pos (by simpa using z)]; exact h z
theorem ifT {p : Prop} [Decidable p] {A B : Prop} (h : p) (k : A) : if p then A else B := by rw [if_pos h]; exact k
theorem ifF {p : Prop} [Decidable p] {A B : Prop} (h : ¬ p) (k : B) : if p then A else B := by rw [if_neg h]; exact k
end
end DL.Go
namespace DL
open PySem L2 PySem.Spec PyProof.Rows
def err1 : List (Str × Str) := [("TooMany", "limit"), ("BadText", "place"), ("BadChain", "error"), ("BadLog", "place"), ("Refused", "word")]
def err0 : List Str := ["Unfit", "NothingToUndo"]
/-- no other limit of digits is set -/
def DigK (K : PySem.W.Frag) : Prop := PySem.W.nsIn K cStatics "sys.int_max_str_digits" = some none
/-- what is known of the errors -/
structure ErH (P : Program) (K : PySem.W.Frag) (mg : Str → Option Value) : Prop where
  er : ErF K
  fl : ∀ nm ∈ errN, ∀ y ∈ fldN, PySem.W.findIn K (.ref (He.ga K nm)) y = some none
  sup : mg "super" = none
  z : ∀ T ∈ ("LineError" :: errN : List Str), mg T = some (.ref (He.ga K T))
  mk1 : ∀ p ∈ err1, EX.Ec1 P K (He.ga K p.1) p.2
  mk0 : ∀ nm ∈ err0, EX.Ec0 P K (He.ga K nm)
  dig : DigK K
/-- n arguments; what they must be; what comes back; what is raised -/
def spX (n : Nat) (pre : List Sl → Prop) (R : List Sl → D → Prop) (E : List Sl → Xn → Prop) : SpecE := fun ss Q Ex => ss.length = n ∧ pre ss ∧ (∀ d, R ss d → Q d) ∧ ∀ x, E ss x → Ex x
theorem spX_mono {n : Nat} {pre : List Sl → Prop} {R : List Sl → D → Prop} {E : List Sl → Xn → Prop} : ∀ ss (Q Q' : D → Prop) (F F' : Xn → Prop), (∀ d, Q d → Q' d) → (∀ x, F x → F' x) → spX n pre R E ss Q F → spX n pre R E ss Q' F' :=
  fun ss Q Q' F F' k l h => ⟨h.1, h.2.1, fun d r => k _ (h.2.2.1 d r), fun x e => l _ (h.2.2.2 x e)⟩
theorem spX_len {n : Nat} {pre : List Sl → Prop} {R : List Sl → D → Prop} {E : List Sl → Xn → Prop} : ∀ ss (Q : D → Prop) (F : Xn → Prop), spX n pre R E ss Q F → ss.length = n := fun ss Q F h => h.1
theorem takes_no {X : Cx} {c : C} {K : PySem.W.Frag} : Takes X (toW c K fun _ _ => False) := fun u s' ⟨_, _, _, _, _, _, _, _, _, _, _, _, _, _, _, _, _, _, _, _, _, z⟩ => z.elim
abbrev XR (P : Program) (w : World) (K : PySem.W.Frag) (mg : Str → Option Value) (base : Heap) (N : List Str) (q : Str) (st : Stmt) (f : Addr) (cdv : Value) (A : Around) (outer : List PySem.Env) (s : Shared) (H : Hp) (E : XK) : Cx :=
  cxOf (L2.CX P w) P w K mg base N q (defScope st) f cdv A outer s H E
namespace Go
variable {ρ : Env}
theorem callE_go {W : WE} {S : SpecE} {fa : SA} {J : D → Prop} (h : fa ρ fun ss => S ss J fun x => W x ρ) : fCallE W S fa ρ J := h
theorem callEK_go {W : WE} {S : SpecE} {is : List Nat} {fa : SA} {J : D → Prop} (h : fa ρ fun ss => S (perm is ss) J fun x => W x ρ) : fCallEK W S is fa ρ J := h
theorem raise0_go {W : WE} {nm : Str} {E : En} (h : W ⟨nm, none⟩ ρ) : fRaise0 W nm E ρ := h
theorem raise1_go {W : WE} {nm y : Str} {fe : SE} {E : En} (h : fe ρ fun d => W ⟨nm, some (y, d)⟩ ρ) : fRaise1 W nm y fe E ρ := h
theorem is1_go {i : Nat} {T : Str} {x : Xn} {J : D → Prop} (e : lk ρ i = .ex x) (h : J (.bool (subX x.nm T))) : fIs1 i T ρ J := by unfold fIs1; rw [e]; exact h
theorem isT_go {i : Nat} {Ts : List Str} {x : Xn} {J : D → Prop} (e : lk ρ i = .ex x) (h : J (.bool (Ts.any fun T => subX x.nm T))) : fIsT i Ts ρ J := by unfold fIsT; rw [e]; exact h
theorem fld_go {i : Nat} {y : Str} {nm : Str} {dv : D} {J : D → Prop} (e : lk ρ i = .ex ⟨nm, some (y, dv)⟩) (h : J dv) : fFld i y ρ J := by unfold fFld; rw [e]; exact ⟨rfl, h⟩
/-- a try: W is what its clause makes of an error -/
theorem try_go {i : Nat} {T : Str} {fb : WE → SS} {fs : SS} {Wo : WE} {E : En} (no : noOw ρ = true) (h : fb (fun x ρ1 => fHand i T fs Wo E x ρ1) E ρ) : fTry i T fb fs Wo E ρ := ⟨no, _, _, En.le.refl E, fun _ _ h => h, h⟩
theorem hand_yes {i : Nat} {T : Str} {fs : SS} {Wo : WE} {E : En} {x : Xn} (e : subX x.nm T = true) (no : noEx ρ = true) (h : fs (suiteE i E) (ρ.set i (.ex x))) : fHand i T fs Wo E x ρ := by unfold fHand; rw [if_pos e]; exact ⟨no, h⟩
end Go
end DL
namespace DL
open PySem L2 PySem.Spec PyProof.Rows
/-! ### wide integers (below 2 ^ 12900) shown -/
mutual
def showW : PyData → Bool
  | .none | .bool _ | .str _ => true
  | .int i => decide (i.natAbs.log2 < 12900)
  | .list xs | .tuple xs => showWAll xs
  | .dict kvs => showWKv kvs
def showWAll : List PyData → Bool
  | [] => true
  | x :: xs => showW x && showWAll xs
def showWKv : List (PyData × PyData) → Bool
  | [] => true
  | (k, v) :: r => showW k && showW v && showWKv r
end
theorem showWKv_split : ∀ kvs : List (PyData × PyData), showWKv kvs = true → showWAll (kvs.map (·.1)) = true ∧ showWAll (kvs.map (·.2)) = true
  | [], _ => by simp only [List.map_nil, showWAll, and_self]
  | (k, v) :: r, h => by
    have h' : (showW k = true ∧ showW v = true) ∧ showWKv r = true := by simpa [showWKv] using h
    obtain ⟨h1, h2⟩ := showWKv_split r h'.2
    simp only [List.map_cons, showWAll, h'.1.1, h'.1.2, h1, h2, Bool.and_self, and_self]
theorem fits_wide {a : Int} (h : a.natAbs.log2 < 12900) : (Str.ofString (toString a)).length ≤ sizeLine := by
  have e := int_text_length_le (k := 12900) (by decide) h
  rw [PySem.ofString_length, sizeLine_eq]; omega
section
variable {M : Model} {A : Around} {E : Value → Shared → Prop} {s : Shared} {K : PySem.W.Frag}
theorem over_wide {a : Int} {Q : Option Nat → Shared → Prop} (dg : DigK K) (hK : K.In s.heap) (h : a.natAbs.log2 < 12900) (q : Q none s) : wpAny M A (Builtin.overDigitLimit? a) Q E s := by
  unfold Builtin.overDigitLimit?
  by_cases hs : a.natAbs.log2 < 1920
  · rw [if_pos hs]
    exact wpAny_pure q
  · rw [if_neg hs]
    unfold Builtin.intMaxStrDigits
    refine wpAny_bind (wpAny_bind (PySem.W.looks_nsIn hK dg A _ _ s (fun _ _ z => z) ?_))
    refine wpAny_pure ?_
    dsimp only
    rw [if_neg (by omega)]
    rw [if_pos (by simp; omega)]
    exact wpAny_pure q
end
section
variable {P : Program} {w : World} {A : Around} {E : Value → Shared → Prop} {s : Shared} {K : PySem.W.Frag}
theorem gives_wide {a : Int} {t : Tok} (dg : DigK K) (h : a.natAbs.log2 < 12900) : GivesAt (fun s => K.In s.heap) (Builtin.«int.__repr__» ⟨[.int a t], []⟩) (.str (toString a)) := by
  intro prog w A R s hK hp
  unfold Builtin.«int.__repr__»
  show wpAny _ _ (do let r ← Builtin.overDigitLimit? a; _) _ _ s
  exact wpAny_bind (over_wide dg hK h (wpAny_bind (wpAny_mkStr (wpAny_pure hp.2) (fits_wide h))))
theorem call_wide {a : Int} {t : Tok} {Q : Value → Shared → Prop} (dg : DigK K) (hK : K.In s.heap) (h : a.natAbs.log2 < 12900) (q : Q (.str (toString a) s.toks) { s with toks := s.toks + 1 }) : wpAny (model P w) A (call (.builtin "int.__repr__") [.int a t]) Q E s :=
  call_givesAt F.slot_int_repr (typeIs_int s a t) F.entry_int_repr (F.args_int_repr_1 _) (gives_wide dg h) hK ⟨fits_wide h, q⟩
theorem reprK_wide {h0 : Heap} {a : Int} {t : Tok} {as : List Addr} {d : Nat} (dg : DigK K) (hK : K.In h0) (h : a.natAbs.log2 < 12900) : ReprK P w as h0 d (.int a t) (toString a) := by
  intro base hb A g E s Q hg hcl hu hk hQ
  rw [pyReprUnder_leaf (v := .int a t) (by omega) (fun _ e => nomatch e)]
  unfold pyRepr
  refine wpAny_bind (wpAny_pyReprObj_slot (by omega) (typeIs_int s a t) F.slot_int_repr.toG (call_wide dg (hK.keeps hk) h ⟨_, _, rfl, ?_⟩))
  exact wpAny_pure (hQ _ _ fun _ _ z => z)
end
/-! ### showing data, dicts too -/
section
variable {P : Program} {w : World} {h : Heap}
/-- a value that reads as d and shows as d -/
structure ShW (P : Program) (w : World) (h : Heap) (d : D) (u : Value) : Prop where
  rd : ∃ as, Reads h u d as
  rk : showW d = true → d.shown.length ≤ sizeLine → ∃ bs, ReadAtMost h d.depth bs ∧ ReprK P w bs h d.depth u d.shown
structure ShWA (P : Program) (w : World) (h : Heap) (ds : List D) (us : List Value) : Prop where
  rd : ∃ as, ReadsAll h us ds as
  rk : showWAll ds = true → (∀ t ∈ PyData.shownAll ds, t.length ≤ sizeLine) → ∃ bs, ReadAtMost h (PyData.depthAll ds) bs ∧ ReprAllK P w bs h (PyData.depthAll ds) us (PyData.shownAll ds)
theorem shW_is {d : D} {u : Value} (r : ∃ as, Reads h u d as) (k : showW d = true → d.shown.length ≤ sizeLine → ReprIs P w u d.shown) : ShW P w h d u :=
  ⟨r, fun a b => ⟨[], no_ad, .of_is (k a b) _ _ _⟩⟩
theorem shWA_nil : ShWA P w h [] [] := ⟨⟨_, .nil⟩, fun _ _ => ⟨[], no_ad, by simp only [PyData.shownAll]; exact .nil⟩⟩
theorem shWA_cons {d : D} {ds : List D} {u : Value} {us : List Value} (a : ShW P w h d u) (b : ShWA P w h ds us) : ShWA P w h (d :: ds) (u :: us) := by
  refine ⟨?_, fun hs hl => ?_⟩
  · obtain ⟨as, ra⟩ := a.rd
    obtain ⟨bs, rb⟩ := b.rd
    exact ⟨_, .cons ra rb⟩
  · simp only [showWAll, Bool.and_eq_true] at hs
    simp only [PyData.shownAll] at hl
    obtain ⟨c1, q1, p1⟩ := a.rk hs.1 (hl _ List.mem_cons_self)
    obtain ⟨c2, q2, p2⟩ := b.rk hs.2 fun t ht => hl t (List.mem_cons_of_mem _ ht)
    have m1 : d.depth ≤ PyData.depthAll (d :: ds) := by simp only [PyData.depthAll]; omega
    have m2 : PyData.depthAll ds ≤ PyData.depthAll (d :: ds) := by simp only [PyData.depthAll]; omega
    refine ⟨c1 ++ c2, (q1.mono m1).append (q2.mono m2), ?_⟩
    simp only [PyData.shownAll]
    exact .cons ((p1.more fun x hx => List.mem_append_left _ hx).level_le m1) (p2.more_le (fun x hx => List.mem_append_right _ hx) m2)
/-- the items of a list that shows -/
theorem list_itemsW {a : Addr} {o : Obj} {vs : Array Value} {n : Nat} {ds : List D} (h1 : h.get? a = some o) (h2 : o.cls = .type "list") (h3 : o.data = .seq vs n) (s : ShWA P w h ds vs.toList) (hs : showW (PyData.list ds) = true) (hl : (PyData.list ds).shown.length ≤ sizeLine) :
    ∃ bs, ReadAtMost h (PyData.depthAll ds) bs ∧ a ∉ bs ∧ ReprAllK P w bs h (PyData.depthAll ds) vs.toList (PyData.shownAll ds) := by
  simp only [PyData.shown] at hl
  obtain ⟨bs, q, p⟩ := s.rk (by simpa only [showW] using hs) fun t ht => Nat.le_trans (listText_mem_le ht) hl
  obtain ⟨as, ra⟩ := s.rd
  exact ⟨bs, q, not_mem_of_deeper (.list h1 h2 h3 ra) lt_list q, p⟩
theorem tup_itemsW {a : Addr} {o : Obj} {vs : Array Value} {n : Nat} {ds : List D} (h1 : h.get? a = some o) (h2 : o.cls = .type "tuple") (h3 : o.data = .seq vs n) (s : ShWA P w h ds vs.toList) (hs : showW (PyData.tuple ds) = true) (hl : (PyData.tuple ds).shown.length ≤ sizeLine) :
    ∃ bs, ReadAtMost h (PyData.depthAll ds) bs ∧ a ∉ bs ∧ ReprAllK P w bs h (PyData.depthAll ds) vs.toList (PyData.shownAll ds) := by
  simp only [PyData.shown] at hl
  obtain ⟨bs, q, p⟩ := s.rk (by simpa only [showW] using hs) fun t ht => Nat.le_trans (tupleText_mem_le ht) hl
  obtain ⟨as, ra⟩ := s.rd
  exact ⟨bs, q, not_mem_of_deeper (.tuple h1 h2 h3 ra) lt_tup q, p⟩
theorem dict_itemsW {a : Addr} {o : Obj} {es : Array DictEntry} {n : Nat} {kvs : List (D × D)} (h1 : h.get? a = some o) (h2 : o.cls = .type "dict") (h3 : o.data = .dict es n) (s1 : ShWA P w h (kvs.map (·.1)) (es.toList.map (·.key))) (s2 : ShWA P w h (kvs.map (·.2)) (es.toList.map (·.val)))
    (hs : showW (PyData.dict kvs) = true) (hl : (PyData.dict kvs).shown.length ≤ sizeLine) :
    ∃ bs, ReadAtMost h (PyData.depthKv kvs) bs ∧ a ∉ bs ∧ ReprEntriesK P w bs h (PyData.depthKv kvs) es.toList (PyData.shownKv kvs) := by
  simp only [PyData.shown] at hl
  obtain ⟨e1, e2⟩ := showWKv_split kvs (by simpa only [showW] using hs)
  obtain ⟨b1, q1, p1⟩ := s1.rk e1 fun t ht => by
    obtain ⟨x, hx, lx⟩ := PyData.shownKv_key_le kvs t ht
    have := dictText_mem_le hx
    omega
  obtain ⟨b2, q2, p2⟩ := s2.rk e2 fun t ht => by
    obtain ⟨x, hx, lx⟩ := PyData.shownKv_val_le kvs t ht
    have := dictText_mem_le hx
    omega
  obtain ⟨a1, r1⟩ := s1.rd
  obtain ⟨a2, r2⟩ := s2.rd
  have k1 := PyData.depthAll_keys_le kvs
  have k2 := PyData.depthAll_vals_le kvs
  have q := (q1.mono k1).append (q2.mono k2)
  refine ⟨b1 ++ b2, q, not_mem_of_deeper (.dict h1 h2 h3 r1 r2) lt_dict q, ?_⟩
  rw [PyData.shownKv_eq]
  exact ReprEntriesK.of_two _ _ _ (p1.more_le (fun x hx => List.mem_append_left _ hx) k1) (p2.more_le (fun x hx => List.mem_append_right _ hx) k2)
theorem shW_list {a : Addr} {o : Obj} {vs : Array Value} {n : Nat} {ds : List D} (h1 : h.get? a = some o) (h2 : o.cls = .type "list") (h3 : o.data = .seq vs n) (s : ShWA P w h ds vs.toList) : ShW P w h (.list ds) (.ref a) := by
  obtain ⟨as, ra⟩ := s.rd
  refine ⟨⟨_, .list h1 h2 h3 ra⟩, fun hs hl => ?_⟩
  obtain ⟨bs, q, na, p⟩ := list_itemsW h1 h2 h3 s hs hl
  refine ⟨a :: bs, ReadAtMost.cons (.list h1 h2 h3 ra) (Nat.le_of_lt lt_list) q, ?_⟩
  simp only [PyData.shown, PyData.depth]
  obtain ⟨l⟩ := vs
  have el := all_len ra
  cases l with
  | nil =>
    cases ds with
    | cons d ds => cases el
    | nil =>
      simp only [PyData.shownAll]
      rw [listText_nil]
      exact ReprK.listEmpty h1 h2 h3
  | cons x l =>
    refine ReprK.list h1 h2 h3 na ?_ fun i y e => p.item i y (by simpa using e)
    rw [shownAll_len, ← el]
    simp
theorem shW_tup {a : Addr} {o : Obj} {vs : Array Value} {n : Nat} {ds : List D} (h1 : h.get? a = some o) (h2 : o.cls = .type "tuple") (h3 : o.data = .seq vs n) (s : ShWA P w h ds vs.toList) : ShW P w h (.tuple ds) (.ref a) := by
  obtain ⟨as, ra⟩ := s.rd
  refine ⟨⟨_, .tuple h1 h2 h3 ra⟩, fun hs hl => ?_⟩
  obtain ⟨bs, q, na, p⟩ := tup_itemsW h1 h2 h3 s hs hl
  refine ⟨a :: bs, ReadAtMost.cons (.tuple h1 h2 h3 ra) (Nat.le_of_lt lt_tup) q, ?_⟩
  simp only [PyData.shown, PyData.depth]
  exact ReprK.tuple h1 h2 h3 na p
theorem shW_dict {a : Addr} {o : Obj} {es : Array DictEntry} {n : Nat} {kvs : List (D × D)} (h1 : h.get? a = some o) (h2 : o.cls = .type "dict") (h3 : o.data = .dict es n) (hsys : (a == sysModules) = false) (s1 : ShWA P w h (kvs.map (·.1)) (es.toList.map (·.key))) (s2 : ShWA P w h (kvs.map (·.2)) (es.toList.map (·.val))) : ShW P w h (.dict kvs) (.ref a) := by
  obtain ⟨a1, r1⟩ := s1.rd
  obtain ⟨a2, r2⟩ := s2.rd
  refine ⟨⟨_, .dict h1 h2 h3 r1 r2⟩, fun hs hl => ?_⟩
  obtain ⟨bs, q, na, p⟩ := dict_itemsW h1 h2 h3 s1 s2 hs hl
  refine ⟨a :: bs, ReadAtMost.cons (.dict h1 h2 h3 r1 r2) (Nat.le_of_lt lt_dict) q, ?_⟩
  simp only [PyData.shown, PyData.depth]
  exact ReprK.dict h1 h2 h3 hsys na p
end
section
variable {X : Cx} {pins : List (Addr × Obj)} {σ : St} {H : Hp} {s : Shared}
theorem shW_int (dg : DigK X.K) (hK : X.K.In s.heap) (i : Int) (t : Tok) : ShW X.prog X.w s.heap (.int i) (.int i t) := ⟨⟨_, .int i t⟩, fun a _ => ⟨[], no_ad, by
  simp only [PyData.shown]
  exact reprK_wide dg hK (by simpa [showW] using a)⟩⟩
theorem shW_str (x : Str) (t : Tok) : ShW X.prog X.w s.heap (.str x) (.str x t) := shW_is ⟨_, .str x t⟩ fun _ b => by
  simp only [PyData.shown] at b ⊢
  exact ReprIs.str x t b
theorem shW_key (dg : DigK X.K) (hK : X.K.In s.heap) {k : Key} {u : Value} (h : keyIs k u = true) : ShW X.prog X.w s.heap (kD k) u := by
  rcases keyIs_shape h with ⟨i, t, rfl, rfl⟩ | ⟨x, t, rfl, rfl⟩
  · exact shW_int dg hK i t
  · exact shW_str x t
theorem shW_keys (dg : DigK X.K) (hK : X.K.In s.heap) : ∀ {es : List DictEntry} {vs : List (Key × Value)} {kvs : List (Key × V)}, Pairs (mixKind X.prog X.w) es vs → KV kvs vs → ShWA X.prog X.w s.heap (kvs.map fun p => kD p.1) (es.map (·.key)) ∧ Vals (kvs.map (·.2)) (es.map (·.val))
  | _, _, _, .nil, .nil => ⟨shWA_nil, .nil⟩
  | _, _, _, .cons h1 h2 h3, .cons k1 k2 => by
    obtain ⟨q1, q2⟩ := shW_keys dg hK h3 k2
    refine ⟨shWA_cons ?_ q1, .cons ?_ q2⟩
    · have e := k1.1
      show ShW X.prog X.w s.heap (kD _) _
      rw [e]; exact shW_key dg hK h1
    · have := k1.2
      rw [← h2] at this
      exact this
theorem rp_shWA {n : Nat} (ih : ∀ (d : D) (v : V) (u : Value), d.depth ≤ n → Rp H v d → RelV v u → ShW X.prog X.w s.heap d u) : ∀ {ds : List D} {vs : List V} {us : List Value}, PyData.depthAll ds ≤ n → RpA H vs ds → Vals vs us → ShWA X.prog X.w s.heap ds us
  | _, _, _, _, .nil, .nil => shWA_nil
  | _, _, _, hn, .cons a1 a2, .cons b1 b2 => by
    simp only [PyData.depthAll] at hn
    exact shWA_cons (ih _ _ _ (by omega) a1 b1) (rp_shWA ih (by omega) a2 b2)
theorem rp_shW (dg : DigK X.K) (I : Inv X pins σ H s) : ∀ (n : Nat) (d : D) (v : V) (u : Value), d.depth ≤ n → Rp H v d → RelV v u → ShW X.prog X.w s.heap d u := by
  intro n
  induction n with
  | zero =>
    intro d v u hn r ru
    cases d with
    | none => cases r; cases ru; exact shW_is ⟨_, .none⟩ fun _ _ => by simp only [PyData.shown]; exact ReprIs.none
    | bool b => cases r; cases ru; exact shW_is ⟨_, .bool b⟩ fun _ _ => by simp only [PyData.shown]; exact ReprIs.bool b
    | int i => cases r; obtain ⟨t, rfl⟩ := ru; exact shW_int dg I.kIn i t
    | str x => cases r; obtain ⟨t, rfl⟩ := ru; exact shW_str x t
    | list ds => simp only [PyData.depth] at hn; omega
    | tuple ds => simp only [PyData.depth] at hn; omega
    | dict xs => simp only [PyData.depth] at hn; omega
  | succ n ih =>
    intro d v u hn r ru
    cases d with
    | none => exact ih _ _ _ (by simp [PyData.depth]) r ru
    | bool b => exact ih _ _ _ (by simp [PyData.depth]) r ru
    | int i => exact ih _ _ _ (by simp [PyData.depth]) r ru
    | str x => exact ih _ _ _ (by simp [PyData.depth]) r ru
    | list ds =>
      simp only [PyData.depth] at hn
      obtain ⟨a, vs, rfl, h1, h2⟩ := rp_lst r
      cases ru
      obtain ⟨its, rv, ⟨o, k, ho, hc, _, hdt⟩, _⟩ := I.list (SqL.of h1)
      exact shW_list ho hc hdt (rp_shWA ih (by omega) h2 rv)
    | tuple ds =>
      simp only [PyData.depth] at hn
      obtain ⟨a, vs, rfl, h1, h2⟩ := rp_tup r
      cases ru
      obtain ⟨its, rv, ⟨o, ho, hc, k, hdt⟩, _⟩ := I.tuple (SqT.of h1)
      exact shW_tup ho hc hdt (rp_shWA ih (by omega) h2 rv)
    | dict xs =>
      simp only [PyData.depth] at hn
      obtain ⟨a, kvs, ds, rfl, h1, h2, e1, e2⟩ := rp_dct r
      cases ru
      obtain ⟨_, hsys, vs0, rel, o, es, ep, ho, hex, hdt, _, hp, _⟩ := dk_of I.hok h1
      obtain ⟨q1, q2⟩ := shW_keys (s := s) dg I.kIn hp rel
      have := PyData.depthAll_vals_le xs
      rw [e2] at this
      refine shW_dict ho hex.1 hdt hsys (by rw [e1]; exact q1) (by rw [e2]; exact rp_shWA ih (by omega) h2 q2)
/-- repr of any data -/
def bReprW : GB := fun ds Q => match ds with | [d] => showW d = true ∧ (PyData.shown d).length ≤ sizeLine ∧ PyData.depth d ≤ 60 ∧ Q (.str (PyData.shown d)) | _ => False
theorem m_ReprW : MonoB bReprW := fun ds Q Q' k h => by
  unfold bReprW at h ⊢
  split at h <;> first | exact h.elim | exact ⟨h.1, h.2.1, h.2.2.1, k _ h.2.2.2⟩
theorem c_reprW {c : C} (dg : DigK X.K) (hgd : X.A.guards = some []) (hu : X.A.units + 64 < cLine) : CallD X c (.builtin "repr") bReprW := by
  refine ⟨m_ReprW, fun pins s σ H xs us Q I rv ⟨B, ds, w, ra, q⟩ => ?_⟩
  cases ds with
  | nil => exact q.elim
  | cons d r0 =>
  cases r0 with
  | cons _ _ => exact q.elim
  | nil =>
  obtain ⟨q1, q3, q4, q⟩ : showW d = true ∧ (PyData.shown d).length ≤ sizeLine ∧ PyData.depth d ≤ 60 ∧ ∀ v B' H', Gr c B H B' H' → Rp B' v (.str (PyData.shown d)) → Q v H' := q
  obtain ⟨v, e, r⟩ := ra.one
  subst e
  obtain ⟨u, rfl, ru⟩ := vals1 rv
  have fin : ∀ {h' : Heap} {tk : Tok} {t : Nat}, (∀ b o, s.heap.get? b = some o → h'.get? b = some o) → EP X pins σ Q (.str (PyData.shown d) tk) { s with heap := h', toks := t } := fun {h' tk t} hk => ⟨.str (PyData.shown d), H, I.kept hk, ⟨tk, rfl⟩, q _ B H (Gr.refl w) (.str _)⟩
  have here : ∀ {tk : Tok} {t : Nat}, EP X pins σ Q (.str (PyData.shown d) tk) { s with toks := t } := fun {tk t} => ⟨.str (PyData.shown d), H, I.tok _, ⟨tk, rfl⟩, q _ B H (Gr.refl w) (.str _)⟩
  have rH := r.rp w
  cases d with
  | dict xs =>
    simp only [PyData.depth] at q4
    obtain ⟨a, kvs, ds, rfl, h1, h2, e1, e2⟩ := rp_dct rH
    cases ru
    obtain ⟨_, hsys, vs0, rel, o, es, ep, ho, hex, hdt, _, hp, _⟩ := dk_of I.hok h1
    obtain ⟨p1, p2⟩ := shW_keys (s := s) dg I.kIn hp rel
    have := PyData.depthAll_vals_le xs
    rw [e2] at this
    obtain ⟨bs, _, na, pE⟩ := dict_itemsW (P := X.prog) (w := X.w) ho hex.1 hdt (by rw [e1]; exact p1) (by rw [e2]; exact rp_shWA (rp_shW dg I 60) (by omega) h2 p2) q1 q3
    refine call_repr_slot (by omega) ⟨o, ho, hex.1⟩ F.slot_dict_repr (call_dict_reprK ho hex.1 hdt hsys na pE hgd (fun b _ => Clear.nil b) (by show X.A.units + 1 + _ < cLine; omega) (fun _ _ z => z) (fun h' u tk hk => ⟨_, _, rfl, by simpa only [PyData.shown] using fin hk⟩) (by simpa only [PyData.shown] using q3))
  | list ds =>
    simp only [PyData.depth] at q4
    obtain ⟨a, vs, rfl, h1, h2⟩ := rp_lst rH
    cases ru
    obtain ⟨its, rvs, ⟨o, k, ho, hc, _, hdt⟩, _⟩ := I.list (SqL.of h1)
    have sA := rp_shWA (X := X) (rp_shW dg I 60) (by omega) h2 rvs
    obtain ⟨bs, _, na, pE⟩ := list_itemsW (P := X.prog) (w := X.w) ho hc hdt sA q1 q3
    obtain ⟨as, ra⟩ := sA.rd
    have el := all_len ra
    cases its with
    | nil =>
      cases ds with
      | cons d ds => cases el
      | nil =>
        have en : (PyData.list []).shown = ("[]" : Str) := by simp only [PyData.shown, PyData.shownAll]; exact listText_nil
        rw [en] at here
        exact call_repr_slot (by omega) ⟨o, ho, hc⟩ F.slot_list_repr.toG (call_list_repr_empty ⟨o, ho, hc⟩ ho hdt ⟨_, _, rfl, here⟩)
    | cons x l =>
      refine call_repr_slot (by omega) ⟨o, ho, hc⟩ F.slot_list_repr.toG (call_list_reprK ho hc hdt na (by rw [shownAll_len, ← el]; simp) (fun i y e => pE.item i y (by simpa using e)) hgd (fun b _ => Clear.nil b) (by show X.A.units + 1 + _ < cLine; omega) (fun _ _ z => z) (fun h' u tk hk => ⟨_, _, rfl, by simpa only [PyData.shown] using fin hk⟩) (by simpa only [PyData.shown] using q3))
  | tuple ds =>
    simp only [PyData.depth] at q4
    obtain ⟨a, vs, rfl, h1, h2⟩ := rp_tup rH
    cases ru
    obtain ⟨its, rvs, ⟨o, ho, hc, k, hdt⟩, _⟩ := I.tuple (SqT.of h1)
    have sA := rp_shWA (X := X) (rp_shW dg I 60) (by omega) h2 rvs
    obtain ⟨bs, _, na, pE⟩ := tup_itemsW (P := X.prog) (w := X.w) ho hc hdt sA q1 q3
    refine call_repr_slot (by omega) ⟨o, ho, hc⟩ F.slot_tuple_repr (call_tuple_reprK ho hc hdt na pE hgd (fun b _ => Clear.nil b) (by show X.A.units + 1 + _ < cLine; omega) (fun _ _ z => z) (fun h' u tk hk => ⟨_, _, rfl, by simpa only [PyData.shown] using fin hk⟩) (by simpa only [PyData.shown] using q3))
  | int i =>
    have e := r.int
    subst e
    obtain ⟨t, rfl⟩ := ru
    simp only [PyData.shown] at here
    exact call_repr_slot (by omega) (typeIs_int s i t) F.slot_int_repr.toG (call_wide dg I.kIn (by simpa [showW] using q1) ⟨_, _, rfl, here⟩)
  | none =>
    have e := r.non
    subst e
    cases ru
    simp only [PyData.shown] at here
    exact PySem.P.repr_of_none here
  | bool b =>
    have e := r.bl
    subst e
    cases ru
    simp only [PyData.shown] at here
    exact PySem.P.repr_of_bool here
  | str x =>
    have e := r.str
    subst e
    obtain ⟨t, rfl⟩ := ru
    simp only [PyData.shown] at here q3
    exact PySem.P.repr_of_str here q3
end
end DL
namespace DL
open PySem L2 PySem.Spec PyProof.Rows
/-! ### defs that take an error, called in an except suite -/
abbrev SpecX := Xn → (D → Prop) → Prop
abbrev XS (P : Program) (w : World) (K : PySem.W.Frag) (mg : Str → Option Value) (base : Heap) (N : List Str) (qual : Str) (st : Stmt) (f : Addr) (cdv : Value) (A : Around) (outer : List PySem.Env) (s : Shared) (H : Hp) (a : Addr) (pn : List (Addr × Obj)) : Cx :=
  (cxOf CX0 P w K mg base N qual (defScope st) f cdv A outer s H E0).suite a pn
structure FnX (P : Program) (w : World) (K : PySem.W.Frag) (mg : Str → Option Value) (base : Heap) (k : Nat) (f : Addr) (fd : FuncData) (p : Str) (S : SpecX) : Prop where
  mono : ∀ x (Q Q' : D → Prop), (∀ d, Q d → Q' d) → S x Q → S x Q'
  run : ∀ (A : Around) (outer : List PySem.Env) (s : Shared) (args : Args) (Q : VK) (c : C) (oe : Obj) (x : Xn), IsLst c → L2H.RoomH k A → A.handled = some (.ref c.xa) → L2H.PinOk outer c.H0 s (c.xa, oe) → Env0 P w K mg base A outer s c.H0 →
    BindsTo s fd args [(p, .ref c.xa)] → c.xn ∈ errN → Zc (.ref (He.ga K c.xn)) c.xd oe → (∃ vs, oe.data = .fields vs) → Wd c c.B0 c.H0 → ExOk c c.B0 c.H0 x →
    S x (fun dd => ∀ v B' H', Gr c c.B0 c.H0 B' H' → Rp B' v dd → Q v H') → codeAny (model P w) A (.call (.ref f) args) (CR CX0 outer P w c.H0 s Q E0) s
theorem around_mark {A : Around} {env : PySem.Env} {a : Addr} (h : A.handled = some (.ref a)) : (A.deeper env).mark (some (.ref a)) = A.deeper env := by
  cases A
  cases h
  rfl
section
variable {P : Program} {w : World} {K : PySem.W.Frag} {mg : Str → Option Value} {base : Heap}
theorem FnX.up {j k : Nat} {f : Addr} {fd : FuncData} {p : Str} {S : SpecX} (F : FnX P w K mg base j f fd p S) (h : j ≤ k) : FnX P w K mg base k f fd p S :=
  ⟨F.mono, fun A outer s args Q c oe x hG hr => F.run A outer s args Q c oe x hG (hr.mono h)⟩
theorem init_ex {c : C} {N : List Str} {n : Str} {x : Xn} (wd : Wd c c.B0 c.H0) (hx : ExOk c c.B0 c.H0 x) : EOk c c.B0 c.H0 (L2.start (n :: N) [.ref c.xa]) (initE (n :: N) [.ex x]) := by
  have k : EOk c c.B0 c.H0 (L2.start (n :: N) []) (initE (n :: N) []) := EOk.init wd trivial
  have k2 : EOk c c.B0 c.H0 ((L2.start (n :: N) []).set 0 (some (.ref c.xa))) ((initE (n :: N) []).set 0 (.ex x)) := k.put (fun hi => ⟨List.getElem?_set_self hi, hx⟩) fun ds p e _ => nomatch e
  exact k2
theorem fnx_of {x qual : Str} {st : Stmt} {f : Addr} {fd : FuncData} {N : List Str} {n : Str} {k : Nat} {S : SpecX} (F : Fun K x qual st f fd) (sc : FnScope (n :: N) [n] (defScope st)) (mono : ∀ x (Q Q' : D → Prop), (∀ d, Q d → Q' d) → S x Q → S x Q') (g : SS)
    (body : ∀ (cdv : Value) (A : Around) (outer : List PySem.Env) (s : Shared) (c : C) (oe : Obj) (pn : List (Addr × Obj)), IsLst c → c.xn ∈ errN → Zc (.ref (He.ga K c.xn)) c.xd oe → (∃ vs, oe.data = .fields vs) →
      PSsd (XS P w K mg base (n :: N) qual st f cdv A outer s c.H0 c.xa ((c.xa, oe) :: pn)) (c.at c.B0 c.H0 c.xa c.xd c.xn) (defBody st) g)
    (run : ∀ x Q, S x Q → g (endsOf Q) (initE (n :: N) [.ex x])) : FnX P w K mg base (k + 1) f fd n S := by
  obtain ⟨oc, od, kV, doc, pm, an, cdv, ct, osl, rfl, lk', hcd⟩ := F.ex
  refine ⟨mono, ?_⟩
  intro A outer s args Q c oe x hG hr hh hpin e0 hb hnm hz hv wd hx hS
  have stands : ∀ b o, base.get? b = some o → s.heap.get? b = some o := fun b o z => (e0.bs b o z).1
  have KX : K.In s.heap := e0.mod.kin.keeps stands
  refine codeAny_call_function hr.depth (KX _ _ lk') rfl sc.co sc.gen rfl (PySem.W.codeRec_of KX hcd) (hb _ _ _ _ (wpAny_newFunctionEnv_cells sc.kind ?_ ?_))
  · rintro ⟨m, v⟩ hy
    have hm : m ∈ [n] := by
      have e : (m, v) = (n, Value.ref c.xa) := by simpa using hy
      cases e
      exact List.mem_cons_self
    rcases sc.par m hm with q | q
    · exact Or.inl q
    · exact Or.inr ⟨q, PySem.W.cellsFrom_some _ _ _ (Or.inl q)⟩
  · intro env he s1 xx
    subst he
    refine ⟨(e0.mod.nolimit.keeps stands).keeps xx.toInCall.keep, codeAny_func ?_⟩
    have hg1 := body cdv A outer s c oe [(c.xa, oe)] hG hnm hz hv
    have I := L2H.inv_startH (CX := CX0) (E := E0) (qual := qual) (us := [Value.ref c.xa]) (vs := [V.ref c.xa]) sc hpin e0 rfl (.cons rfl .nil) xx
    obtain ⟨vs, hvs⟩ := hv
    have P1 := I.pin (c.xa, oe) (List.mem_append_left _ (show (c.xa, oe) ∈ [(c.xa, oe)] from List.mem_cons_self))
    have I2 : Inv (XS P w K mg base (n :: N) qual st f cdv A outer s c.H0 c.xa ((c.xa, oe) :: [(c.xa, oe)])) [] (L2.start (n :: N) [V.ref c.xa]) c.H0 s1 := I.suite P1.1 hvs P1.2.1 P1.2.2.1 P1.2.2.2.1
    have ok := init_ex (n := n) (N := N) wd hx
    have goal := hg1.ps.run [] s1 (L2.start (n :: N) [V.ref c.xa]) c.H0 { nx := fun _ H' => Q .non H', rt := Q } I2 ⟨c.B0, initE (n :: N) [.ex x], ok, hg1.mono (endsOf fun d => ∀ v B' H', Gr c c.B0 c.H0 B' H' → Rp B' v d → Q v H') _ _ ⟨fun ρ h σ' B' H' ok' _ => h .non B' H' ok'.g .non, fun _ h => h, fun _ h => h.elim, fun _ h => h.elim, fun _ h => h.elim⟩ (run x _ hS)⟩
    have eA : (XS P w K mg base (n :: N) qual st f cdv A outer s c.H0 c.xa ((c.xa, oe) :: [(c.xa, oe)])).A = A.deeper (envOfC qual (defScope st) s.heap.objs.size f cdv) := around_mark hh
    rw [eA] at goal
    refine wpAny_mono goal (fun fl s' hs => ?_) fun _ _ z => z.elim
    cases fl with
    | ret u =>
      obtain ⟨v, σ', H', J, rv, q⟩ := hs
      exact ⟨v, H', J.os, J.bare, J.base, J.hok, rv, q⟩
    | next =>
      obtain ⟨σ', H', J, q⟩ := hs
      exact ⟨.non, H', J.os, J.bare, J.base, J.hok, rfl, q⟩
    | brk => exact hs.elim fun _ z => z.elim fun _ y => y.2.elim
    | cont => exact hs.elim fun _ z => z.elim fun _ y => y.2.elim
end
def KnX (P : Program) (w : World) (K : PySem.W.Frag) (mg : Str → Option Value) (base : Heap) (k : Nat) (x p : Str) (S : SpecX) : Prop :=
  ∃ f fd, FnX P w K mg base k f fd p S ∧ mg x = some (.ref f) ∧ PySem.W.keepIn K (.ref f) = true ∧ Binds K fd [p] []
section
variable {P : Program} {w : World} {K : PySem.W.Frag} {mg : Str → Option Value} {base : Heap} {j k : Nat} {x p : Str} {S : SpecX} {f : Addr} {fd : FuncData}
theorem KnX.up (h : KnX P w K mg base j x p S) (l : j ≤ k) : KnX P w K mg base k x p S := let ⟨f, fd, h1, h2⟩ := h; ⟨f, fd, h1.up l, h2⟩
theorem KnX.mk (h : FnX P w K mg base k f fd p S) (h1 : mg x = some (.ref f)) (h2 : PySem.W.keepIn K (.ref f) = true) (h3 : Binds K fd [p] []) : KnX P w K mg base k x p S := ⟨f, fd, h, h1, h2, h3⟩
end
/-- f(e), e the error that slot i holds -/
def fCallX (i : Nat) (S : SpecX) : SE := fun ρ Q => match lk ρ i with | .ex x => S x Q | _ => False
section
variable {X : Cx} {a : Addr} {oe : Obj} {d : Option Addr} {pn : List (Addr × Obj)} {c : C} {b0 h0 : Hp} {nm n q : Str} {p p1 pos : Pos} {k : Nat} {S : SpecX}
theorem v_callXr (i : Nat) {x : Str} (F : KnX X.prog X.w X.K X.mg X.base k x q S) (hG : IsLst c) (hr : Room k X.A) (hnm : nm ∈ errN) (hz : Zc (.ref (He.ga X.K nm)) d oe) (hv : ∃ vs, oe.data = .fields vs) (hN : X.N[i]? = some n := by rfl) (hvs : Vis X.env.scope n := by first | exact Or.inl rfl | exact Or.inr (Or.inl rfl) | exact Or.inr (Or.inr rfl))
    (hd : (n == ("__debug__" : Str)) = false := by decide) (hcd : (n == ("__classdict__" : Str)) = false := by decide) (hg : Gl X x := by rfl) (hdb : (x == ("__debug__" : Str)) = false := by decide)
    (hs : starEach [.Name n p1] X.env = (false, eval (.Name n p1) X.env) :: starEach [] X.env := by rfl) (hpl : (backTo pos (starEach [] X.env)).any (·.1) = false := by rfl) :
    PV (X.suite a ((a, oe) :: pn)) (c.at b0 h0 a d nm) (.Call (.Name x p) [.Name n p1] [] pos) (fCallX i S) := by
  obtain ⟨f, fd, F1, hm, hk, hb⟩ := F
  have ha : PA (X.suite a ((a, oe) :: pn)) [.Name n p1] _ := pa_cons (pe_var (i := i) (X := X.suite a ((a, oe) :: pn)) hN hvs hd hcd) pa_nil hs
  refine ⟨fun ρ Q Q' k h => ?_, ⟨fun pins s σ H Q I ⟨B, ρ, ok, h⟩ => ?_⟩⟩
  · unfold fCallX at h ⊢
    cases e : lk ρ i <;> rw [e] at h <;> first | exact h.elim | exact F1.mono _ _ _ k h
  · unfold fCallX at h
    cases e : lk ρ i with
    | ex x1 =>
      rw [e] at h
      obtain ⟨h1, h2⟩ := ok.sl i _ (lk_get e (fun z => nomatch z))
      refine wpAny_Call_Name_kw (ld_glob I hg hm (PySem.W.callWith_K (h₀ := X.base) I.ok.mod.kin hk (wpAny_mono (ha.run pos pins s σ H (fun vs H1 => vs = [.ref a] ∧ H1 = H) I ⟨.ref a, h1, rfl, rfl⟩) (fun us s1 hvv => ?_) fun _ _ z => z) hs hpl) hdb)
      obtain ⟨vs, H1, I1, rv, rfl, rfl⟩ := hvv
      obtain ⟨u, rfl, ru⟩ := vals1 rv
      cases ru
      have P1 := I1.pin (a, oe) (List.mem_append_left _ List.mem_cons_self)
      have hpin : L2H.PinOk X.stack H1 s1 (a, oe) := ⟨P1.1, P1.2.1, fun hm => (List.mem_cons.mp (I1.stkSub a hm)).elim P1.2.2.1 P1.2.2.2.1, P1.2.2.2.2⟩
      refine ⟨I1.kIn, wpAny_call (codeAny_mono (F1.run (X.suite a ((a, oe) :: pn)).A X.stack s1 ⟨[.ref a], []⟩ Q (c.at B H1 a d nm) oe x1 hG (L2H.roomH_of (k := k) ⟨hr.hd, hr.dp, hr.un⟩ |> fun z => ⟨z.dp, z.un⟩) rfl hpin I1.env0 ?_ hnm hz hv ?_ ?_ ?_) fun z s' hq => ?_)⟩
      · have := hb s1 [.ref a] I1.kIn rfl
        exact this
      · exact ok.w.of.at
      · exact ⟨h2.1, h2.2⟩
      · exact F1.mono _ _ _ (fun dd hd2 v B' H' g r => hd2 v B' H' g.of.at r) h
      · cases z with
        | error e => exact False.elim hq
        | ok fl => cases fl <;> first | exact I1.after hq | exact False.elim hq
    | _ => rw [e] at h; exact h.elim
end
namespace Go
variable {ρ : Env}
theorem callX_go {i : Nat} {S : SpecX} {x : Xn} {J : D → Prop} (e : lk ρ i = .ex x) (h : S x J) : fCallX i S ρ J := by unfold fCallX; rw [e]; exact h
end Go
end DL
namespace DL
open PySem L2 PySem.Spec PyProof.Rows
section
variable {X : Cx} {c : C}
/-- {k: a, k2: b} -/
def fDict2 (k k2 : Key) (fa fb : SE) : SE := fun ρ Q => fa ρ fun d => fb ρ fun e => Q (.dict [(kD k, d), (kD k2, e)])
theorem v_dict2 {ke ke2 e e2 : Expr} {k k2 : Key} {fa fb : SE} {pos : Pos} (hk : PE X ke (fun _ H Q => Q (kV k) H)) (hk2 : PE X ke2 (fun _ H Q => Q (kV k2) H)) (he : PV X c e fa) (he2 : PV X c e2 fb)
    (hm : ∀ v v2 : V, mergeK [] [(k, v), (k2, v2)] = [(k, v), (k2, v2)] := by intros; rfl) : PV X c (.Dict [some ke, some ke2] [e, e2] pos) (fDict2 k k2 fa fb) := by
  refine ⟨fun ρ Q Q' j h => he.mono _ _ _ (fun d hd => he2.mono _ _ _ (fun d2 hd2 => j _ hd2) hd) h, pe_weak (pe_disp (pps_cons hk he.pe (pps_cons hk2 he2.pe pps_nil)) rfl rfl (by simp) (by simp)) fun σ H Q ⟨B, ρ, ok, h⟩ p hp => ?_⟩
  have g1 := Gr.newO (o := .dK []) ok.w hp
  have nb : ¬ c.isBag p := fun z => ok.w.there z hp
  have ok1 := ok.mono g1
  refine ⟨B, ρ, ok1, he.mono _ _ _ (fun d hd v B2 H2 g2 r2 => ⟨B2, ρ, ok1.mono g2, he2.mono _ _ _ (fun d2 hd2 v2 B3 H3 g3 r3 => ?_) hd⟩) h⟩
  have g := (g1.trans ok.w g2).trans ok.w g3
  have here : H3 p = some (.dK []) := g3.h p _ nb (g2.h p _ nb upd_same)
  have b3 : B3 p = none := by
    rw [(g2.trans ok1.w g3).n p (by rw [upd_same]; exact fun z => nomatch z)]
    exact Evl.fresh_back ok.w.sub hp
  have G := Gr.redo (o := .dK [(k, v), (k2, v2)]) ok.w g hp b3
  refine ⟨here, [(k, v), (k2, v2)], rfl, by simp, ?_⟩
  rw [hm]
  have x := Evl.Ex.new (o := .dK [(k, v), (k2, v2)]) b3
  exact hd2 _ _ _ G (.dct (kvs := [(k, v), (k2, v2)]) (ds := [d, d2]) upd_same (.cons (rp_mono x (rp_mono g3.b r2)) (.cons (rp_mono x r3) .nil)))
/-- isinstance(e, (S, T)) -/
def fIsI2 (n m : String) (fa : SE) : SE := fun ρ Q => fa ρ fun d => Q (.bool (isB (tyN d) n || isB (tyN d) m))
theorem v_isi2 {e : Expr} {fa : SE} {S T : Str} {n m : String} {p p1 p2 p3 pos : Pos} {k : Nat} (hk : ∀ d : D, kitB (tyN d) n = some (isB (tyN d) n)) (hk2 : ∀ d : D, kitB (tyN d) m = some (isB (tyN d) m)) (hm : X.mg "isinstance" = none) (hmS : X.mg S = none) (hmT : X.mg T = none) (ha : PB X c e fa)
    (hvS : bootBuiltins S = some (.type n) := by decide +kernel) (hvT : bootBuiltins T = some (.type m) := by decide +kernel)
    (hg : Gl X "isinstance" := by rfl) (hgS : Gl X S := by rfl) (hgT : Gl X T := by rfl) (hnS : S ≠ "__name__" := by decide) (hnT : T ≠ "__name__" := by decide) (hdS : (S == ("__debug__" : Str)) = false := by decide) (hdT : (T == ("__debug__" : Str)) = false := by decide)
    (hs : starEach [e, .Tuple [.Name S p1, .Name T p2] k p3] X.env = (false, eval e X.env) :: starEach [.Tuple [.Name S p1, .Name T p2] k p3] X.env := by rfl)
    (hs2 : starEach [.Tuple [.Name S p1, .Name T p2] k p3] X.env = (false, eval (.Tuple [.Name S p1, .Name T p2] k p3) X.env) :: starEach [] X.env := by rfl)
    (hs3 : starEach [.Name S p1, .Name T p2] X.env = (false, eval (.Name S p1) X.env) :: starEach [.Name T p2] X.env := by rfl) (hs4 : starEach [.Name T p2] X.env = (false, eval (.Name T p2) X.env) :: starEach [] X.env := by rfl)
    (hpl : (backTo pos (starEach [.Tuple [.Name S p1, .Name T p2] k p3] X.env)).any (·.1) = false := by rfl) :
    PV X c (.Call (.Name "isinstance" p) [e, .Tuple [.Name S p1, .Name T p2] k p3] [] pos) (fIsI2 n m fa) := by
  have pn := pa_cons (pe_bltn (v := .ty n) (pos := p1) hgS hmS hvS rfl hnS hdS) (pa_cons (pe_bltn (v := .ty m) (pos := p2) hgT hmT hvT rfl hnT hdT) pa_nil hs4) hs3
  refine ⟨fun ρ Q Q' k h => ha.mono _ _ _ (fun d hd => k _ hd) h, pe_weak (pe_callB call_isiT hg hm (by decide +kernel) (pa_cons ha.pe (pa_cons (pe_tup pn) pa_nil hs2) hs) (by decide) (by decide) hs hpl) fun σ H Q ⟨B, ρ, ok, h⟩ => ?_⟩
  refine ⟨B, ρ, ok, ha.mono _ _ _ (fun d hd v B1 H1 g1 r1 => ⟨by show 2 ≤ sizeLine; rw [sizeLine_eq]; omega, fun q hq => ?_⟩) h⟩
  have g2 := Gr.newO (o := .tup [.ty n, .ty m]) g1.w hq
  refine ⟨v, q, [.ty n, .ty m], .type (tyN d), [.type n, .type m], _, rfl, upd_same, .cons (.ty n) (.cons (.ty m) .nil), bw_ty g2.w (r1.mono g2), kitAny_cons (kit_ty (hk d)) (fun hb => kitAny_cons (r := isB (tyN d) n || isB (tyN d) m) (kit_ty (hk2 d)) (fun hb2 => ?_) fun hb2 => ?_) (fun hb => ?_), hd _ B1 _ (g1.trans ok.w g2) (.bl _)⟩
  · rw [hb, hb2]; rfl
  · rw [hb2]; simp
  · rw [hb]; rfl
end
/-! ### l.extend(a tuple) -/
section
open AutoSeq1 (wpAny_loadPart' idx_int)
theorem meets_ext_tup (l : Addr) (its : Array Value) (n : Nat) (b : Addr) (zs : Array Value) (m : Nat) (od : Option Addr) (os2 : Array (Option Value)) (long : ¬ (!its.isEmpty && Builtin.List.listTooLong (its.size + zs.size)) = true) (h1 : its.size ≤ sizeLine) (h2 : its.size + zs.size ≤ sizeLine + 1) :
    Meets (Builtin.«list.extend» ⟨[.ref l, .ref b], []⟩) (fun _ R s => s.heap.get? l = some { cls := .type "list", dict := none, data := .seq its n, slots := #[] } ∧ s.heap.get? b = some { cls := .type "tuple", dict := od, data := .seq zs m, slots := os2 } ∧
      R (.ok (.ret Value.none)) { s with heap := s.heap.update l (Obj.mapSeq fun x => x ++ zs), toks := s.toks }) :=
  .of_wp fun prog w A R s h => by
    obtain ⟨hp, g, d, tk, os⟩ := s
    obtain ⟨hl, hb, h⟩ := h
    have f1 := idx_int
    have f2 := AutoSeq1.sub_tuple_tuple
    have f3 := AutoSeq1.sub_list_list
    have f4 := AutoSeq1.sub_tuple_list
    have f5 := AutoSeq1.sub_list_tuple
    have hz' : (its ++ zs).size ≤ sizeLine + 1 := by rw [Array.size_append]; exact h2
    wp_walk using (wpAny_updateSeq hl rfl (hz := h1) (_hz' := hz')), wpAny_loadPart' hl, wpAny_loadPart' hb
    exact ⟨_, rfl, h⟩
end
section
variable {X : Cx} {c : C}
def rExtT : V → List V → Hp → VK → Prop := fun x vs H Q => ∃ l b xs zs, x = .ref l ∧ vs = [.ref b] ∧ H l = some (.lst xs) ∧ H b = some (.tup zs) ∧ xs.length + zs.length ≤ sizeLine ∧ Q .non (upd H l (.lst (xs ++ zs)))
theorem mt_extT : MtM X "list.extend" rExtT := by
  intro pins s σ H x vs v us Q I rx rv h
  obtain ⟨l, b, xs, zs, rfl, rfl, hH, hB, hz, q⟩ := h
  cases rx
  obtain ⟨u, rfl, ru⟩ := rv.one
  cases ru
  obtain ⟨z, its, n, r, hl, e⟩ := I.lstM hH
  obtain ⟨_, its2, r2, o2, e2, hc2, m2, hd2⟩ := I.hok b _ hB
  obtain ⟨oc, od, oda, osl⟩ := o2
  dsimp only at hc2 hd2
  subst hc2 hd2
  have hl2 := r2.length
  have hsz : its.toArray.size + its2.toArray.size ≤ sizeLine := by rw [List.size_toArray, List.size_toArray, ← hl, ← hl2]; exact hz
  have hlong : ¬ (!its.toArray.isEmpty && Builtin.List.listTooLong (its.toArray.size + its2.toArray.size)) = true := by
    rw [notLongL hsz, Bool.and_false]
    exact Bool.false_ne_true
  refine call_meets PySem.F.slot_list_extend ⟨_, e, rfl⟩ PySem.F.entry_list_extend (PySem.F.args_list_extend_2 _ _) (meets_ext_tup l its.toArray n b its2.toArray m2 od osl hlong (by omega) (by omega)) ⟨e, e2, ?_⟩
  refine ⟨.non, _, I.lset (its' := its ++ its2) hH e (by simp) (r.append r2) ?_, rfl, q⟩
  rw [List.length_append]
  exact hz
def fExtT (i : Nat) (fa : SE) : SS := fun D ρ => match lk ρ i with | .ow ds => fa ρ fun d => (match d with | .tuple es => ds.length + es.length ≤ most ∧ D.nx (ρ.set i (.ow (ds ++ es))) | _ => False) | _ => False
theorem s_extT (i : Nat) {x : Str} {e : Expr} {fa : SE} {p1 p2 pos pos' : Pos} (ha : PB X c e fa) (hN : X.N[i]? = some x := by rfl) (hv : Vis X.env.scope x := by first | exact Or.inl rfl | exact Or.inr (Or.inl rfl) | exact Or.inr (Or.inr rfl))
    (hd : (x == ("__debug__" : Str)) = false := by decide) (hcd : (x == ("__classdict__" : Str)) = false := by decide)
    (hbase : attributeBase (.Name x p1) "extend" X.env (eval (.Name x p1) X.env) = eval (.Name x p1) X.env := by rfl)
    (hfew : ((backTo pos (starEach [e] X.env)).all (fun x => !x.1) && (backToKw pos (keywordEach [] X.env)).all (fun x => x.1.isSome) && decide ([e].length + ([] : List Keyword).length + (if ([] : List Keyword).isEmpty then 0 else 1) < 30)) = true := by rfl)
    (hline : (p2.endLine == pos.line) = true := by rfl) (hst : starEach [e] X.env = (false, eval e X.env) :: starEach [] X.env := by rfl) (hplain : (backTo pos (starEach [] X.env)).any (·.1) = false := by rfl)
    (hs : swapsWith (.Call (.Attribute (.Name x p1) "extend" p2) [e] [] pos) none pos'.line X.env = pure false := by rfl) :
    PSd X c (.Expr (.Call (.Attribute (.Name x p1) "extend" p2) [e] [] pos) pos') (fExtT i fa) := by
  have hpe : PE X (.Call (.Attribute (.Name x p1) "extend" p2) [e] [] pos) (tBM X.K "list" rExtT (tVar i) (tCons (toB c fa) tNil)) := pe_bm PySem.F.plainAttrs_list PySem.F.slot_list_extend PySem.F.type_list_extend mt_extT (pe_var hN hv hd hcd) (pa_cons ha.pe pa_nil hst) hbase hfew hline hst hplain
  refine ⟨fun D D' ρ l q => ?_, ps_weak (ps_expr hpe hs) fun D σ H ⟨B, ρ, ok, q⟩ => ?_⟩
  · unfold fExtT at q ⊢
    split at q <;> first | exact q.elim | skip
    refine ha.mono _ _ _ (fun d hd => ?_) q
    cases d <;> first | exact hd.elim | exact ⟨hd.1, l.nx _ hd.2⟩
  · unfold fExtT at q
    split at q <;> first | exact q.elim | skip
    rename_i ds e1
    obtain ⟨p, vs, k1, k2, k3⟩ := ok.own e1
    refine ⟨_, k1, .inl ⟨rfl, vs, SqL.of k2⟩, B, ρ, ok, ha.mono _ _ _ (fun d hd v B1 H1 g1 r1 => ?_) q⟩
    cases d <;> first | exact hd.elim | skip
    obtain ⟨p', vs1, m1, m2, m3⟩ := (ok.mono g1).own e1
    rw [k1] at m1
    cases m1
    obtain ⟨b, zs, rfl, h1, h2⟩ := r1.tup g1.w
    refine ⟨p, b, vs1, zs, rfl, rfl, m2, h1, ?_, ?_⟩
    · rw [rpa_len m3, rpa_len h2]; exact most_le hd.1
    · exact hd.2 σ B1 _ ((ok.mono g1).chg e1 k1 (rpa_app m3 h2)) g1.b
end
namespace Go
variable {ρ : Env}
theorem isI2_go {n m : String} {fa : SE} {J : D → Prop} (h : fa ρ fun d => J (.bool (isB (tyN d) n || isB (tyN d) m))) : fIsI2 n m fa ρ J := h
theorem dict2_go {k k2 : Key} {fa fb : SE} {J : D → Prop} (h : fa ρ fun d => fb ρ fun e => J (.dict [(kD k, d), (kD k2, e)])) : fDict2 k k2 fa fb ρ J := h
theorem extT_go {i : Nat} {fa : SE} {ds : List D} {E : En} (e : lk ρ i = .ow ds) (h : fa ρ fun d => (match d with | .tuple es => ds.length + es.length ≤ most ∧ E.nx (ρ.set i (.ow (ds ++ es))) | _ => False)) : fExtT i fa E ρ := by unfold fExtT; rw [e]; exact h
end Go
end DL
namespace DL
open PySem L2 PySem.Spec PyProof.Rows
/-! ### str of an integer, of a tuple -/
def bStr : GB := fun ds Q => match ds with
  | [.int i] => PyData.showable (.int i) = true ∧ Q (.str (PyData.shown (.int i)))
  | [.tuple es] => PyData.showable (.tuple es) = true ∧ PyData.hasDict (.tuple es) = false ∧ (PyData.shown (.tuple es)).length ≤ sizeLine ∧ PyData.depth (.tuple es) ≤ 60 ∧ Q (.str (PyData.shown (.tuple es)))
  | _ => False
theorem m_Str : MonoB bStr := fun ds Q Q' k h => by
  unfold bStr at h ⊢
  split at h <;> first | exact h.elim | exact ⟨h.1, k _ h.2⟩ | exact ⟨h.1, h.2.1, h.2.2.1, h.2.2.2.1, k _ h.2.2.2.2⟩
theorem c_str {X : Cx} {c : C} (hgd : X.A.guards = some []) (hu : X.A.units + 64 < cLine) : CallD X c (.type "str") bStr := by
  refine ⟨m_Str, fun pins s σ H xs us Q I rv ⟨B, ds, w, ra, q⟩ => ?_⟩
  cases ds with
  | nil => exact q.elim
  | cons d r0 =>
  cases r0 with
  | cons _ _ => cases d <;> exact q.elim
  | nil =>
  obtain ⟨v, e, r⟩ := ra.one
  subst e
  obtain ⟨u, rfl, ru⟩ := vals1 rv
  cases d with
  | int i =>
    have e := r.int
    subst e
    obtain ⟨t, rfl⟩ := ru
    obtain ⟨q1, q2⟩ : PyData.showable (.int i) = true ∧ ∀ v B' H', Gr c B H B' H' → Rp B' v (.str (PyData.shown (.int i))) → Q v H' := q
    have here : ∀ {tk : Tok} {t : Nat}, EP X pins σ Q (.str (PyData.shown (.int i)) tk) { s with toks := t } := fun {tk t} => ⟨.str (PyData.shown (.int i)), H, I.tok _, ⟨tk, rfl⟩, q2 _ B H (Gr.refl w) (.str _)⟩
    simp only [PyData.shown] at here
    exact PySem.P.str_of_int (by simpa [PyData.showable] using q1) here
  | tuple es =>
    obtain ⟨q1, q2, q3, q4, q⟩ : PyData.showable (.tuple es) = true ∧ PyData.hasDict (.tuple es) = false ∧ (PyData.shown (.tuple es)).length ≤ sizeLine ∧ PyData.depth (.tuple es) ≤ 60 ∧ ∀ v B' H', Gr c B H B' H' → Rp B' v (.str (PyData.shown (.tuple es))) → Q v H' := q
    have fin : ∀ {h' : Heap} {tk : Tok} {t : Nat}, (∀ b o, s.heap.get? b = some o → h'.get? b = some o) → EP X pins σ Q (.str (PyData.shown (.tuple es)) tk) { s with heap := h', toks := t } := fun {h' tk t} hk => ⟨.str (PyData.shown (.tuple es)), H, I.kept hk, ⟨tk, rfl⟩, q _ B H (Gr.refl w) (.str _)⟩
    obtain ⟨as, rd⟩ := rp_reads I _ v u q2 (r.rp w) ru
    obtain ⟨a, ys, rfl, _, _⟩ := r.tup w
    cases ru
    exact str_of_reads rd q1 (PyData.noDict_hsm q2) hgd (by omega) (fun _ _ z => z) (fun h' tk t hk => fin hk) q3
  | none => exact q.elim
  | bool _ => exact q.elim
  | str _ => exact q.elim
  | list _ => exact q.elim
  | dict _ => exact q.elim
/-! ### in a tuple -/
section
variable {X : Cx} {c : C}
theorem op_inTD (hu : X.A.units + 65 < cLine) : OpR X (compareOp .In) (fun x y H Q => ∃ d ds, Dp X.K H x d ∧ Dp X.K H y (.tuple ds) ∧ SeqAt.shaped d = true ∧ SeqAt.shaped (.tuple ds) = true ∧ Q (.bl (ds.any fun z => PyData.eqv z d)) H) := by
  intro pins s σ H x y v u Q I rx ry h
  obtain ⟨d, ds, hd, he, sd, se, q⟩ := h
  obtain ⟨as, r1⟩ := Dp.reads I d x v hd rx
  obtain ⟨bs, r2⟩ := Dp.reads I (.tuple ds) y u he ry
  exact SeqAt.in_tuple_reads r2 r1 (SeqAt.canLay_of_shaped se) (SeqAt.canLay_of_shaped sd) (room_in_shaped sd hu) ⟨.bl _, H, I, rfl, q⟩
theorem op_notInTD (hu : X.A.units + 65 < cLine) : OpR X (compareOp .NotIn) (fun x y H Q => ∃ d ds, Dp X.K H x d ∧ Dp X.K H y (.tuple ds) ∧ SeqAt.shaped d = true ∧ SeqAt.shaped (.tuple ds) = true ∧ Q (.bl (!ds.any fun z => PyData.eqv z d)) H) := by
  intro pins s σ H x y v u Q I rx ry h
  obtain ⟨d, ds, hd, he, sd, se, q⟩ := h
  obtain ⟨as, r1⟩ := Dp.reads I d x v hd rx
  obtain ⟨bs, r2⟩ := Dp.reads I (.tuple ds) y u he ry
  exact SeqAt.notIn_tuple_reads r2 r1 (SeqAt.canLay_of_shaped se) (SeqAt.canLay_of_shaped sd) (room_in_shaped sd hu) ⟨.bl _, H, I, rfl, q⟩
def gInT : GC | d, .tuple ds, Q => SeqAt.shaped d = true ∧ SeqAt.shaped (.tuple ds) = true ∧ Q (ds.any fun z => PyData.eqv z d) | _, _, _ => False
def gNotInT : GC | d, .tuple ds, Q => SeqAt.shaped d = true ∧ SeqAt.shaped (.tuple ds) = true ∧ Q (!ds.any fun z => PyData.eqv z d) | _, _, _ => False
theorem m_InT : MonoC gInT := fun d e Q Q' k h => by
  cases e <;> first | exact h.elim | exact ⟨h.1, h.2.1, k _ h.2.2⟩
theorem m_NotInT : MonoC gNotInT := fun d e Q Q' k h => by
  cases e <;> first | exact h.elim | exact ⟨h.1, h.2.1, k _ h.2.2⟩
theorem o_inT (hu : X.A.units + 65 < cLine) : CmpD X c .In gInT := by
  refine ⟨m_InT, opr_weak (op_inTD hu) fun x y H Q ⟨B, d, e, w, r1, r2, q⟩ => ?_⟩
  cases e <;> first | exact q.elim | skip
  exact ⟨d, _, rp_dp (r1.rp w) (SeqAt.canLay_of_shaped q.1), rp_dp (r2.rp w) (SeqAt.canLay_of_shaped q.2.1), q.1, q.2.1, q.2.2⟩
theorem o_notInT (hu : X.A.units + 65 < cLine) : CmpD X c .NotIn gNotInT := by
  refine ⟨m_NotInT, opr_weak (op_notInTD hu) fun x y H Q ⟨B, d, e, w, r1, r2, q⟩ => ?_⟩
  cases e <;> first | exact q.elim | skip
  exact ⟨d, _, rp_dp (r1.rp w) (SeqAt.canLay_of_shaped q.1), rp_dp (r2.rp w) (SeqAt.canLay_of_shaped q.2.1), q.1, q.2.1, q.2.2⟩
end
namespace Go
variable {J : D → Prop}
theorem strI_go {i : Int} (h : J (.str (PyData.shown (.int i)))) (e : PyData.showable (.int i) = true) : bStr [.int i] J := ⟨e, h⟩
end Go
end DL
/-! powers of a wide base -/
namespace DL
open PySem L2 PySem.Spec PyProof.Rows
section
variable {X : Cx} {c : C}
def CPowW (i j : Int) : Prop := 0 ≤ j ∧ j ≤ 1000 ∧ i.natAbs < 2 ^ 1000
theorem powW_ok {i j : Int} (h : CPowW i j) : (Builtin.Int.intBits i : Int) * j ≤ 2 ^ 27 := by
  have hb : Builtin.Int.intBits i ≤ 1000 := intBits_le h.2.2
  have h1 : (Builtin.Int.intBits i : Int) * j ≤ 1000 * j := Int.mul_le_mul_of_nonneg_right (by omega) h.1
  have := h.2.1
  omega
theorem op_powW : OpR X (binaryOp .Pow) (rI CPowW fun i j => .int (i ^ j.toNat)) := opI fun _ _ _ _ _ _ _ hc q => pow_int hc.1 (powW_ok hc) q
def gPowW : G2 | .int i, .int j, Q => CPowW i j ∧ Q (.int (i ^ j.toNat)) | _, _, _ => False
theorem m_PowW : MonoG gPowW := fun d e Q Q' k h => by cases d <;> cases e <;> first | exact ⟨h.1, k _ h.2⟩ | exact h.elim
theorem o_powW : OpD X c (binaryOp .Pow) gPowW := opd_int op_powW (fun d e Q h => by cases d <;> cases e <;> first | exact ⟨_, _, rfl, rfl, h.1, h.2⟩ | exact h.elim) m_PowW
end
namespace Go
theorem powW_go {i j : Int} {Q : D → Prop} (h : CPowW i j) (k : Q (.int (i ^ j.toNat))) : gPowW (.int i) (.int j) Q := ⟨h, k⟩
end Go
end DL
namespace DL
namespace T
open PySem L2 PySem.Spec PyProof.Rows
/-! ### specs by one datum -/
def spE {α : Type} (args : α → List Sl) (ok : α → Prop) (F : α → D) : Spec := fun ss Q => ∃ a : α, ss = args a ∧ ok a ∧ Q (F a)
theorem spE_mono {α : Type} {args : α → List Sl} {ok : α → Prop} {F : α → D} : ∀ ss (Q Q' : D → Prop), (∀ d, Q d → Q' d) → spE args ok F ss Q → spE args ok F ss Q' := fun ss Q Q' k ⟨a, e, h, q⟩ => ⟨a, e, h, k _ q⟩
theorem spE_len {α : Type} {args : α → List Sl} {ok : α → Prop} {F : α → D} {n : Nat} (h : ∀ a, (args a).length = n) : ∀ ss (Q : D → Prop), spE args ok F ss Q → ss.length = n := fun ss Q ⟨a, e, _⟩ => by rw [e]; exact h a
def spA {α β : Type} (args : α → List Sl) (ok : α → Prop) (R : α → β → Prop) (F : β → D) : Spec := fun ss Q => ∃ a : α, ss = args a ∧ ok a ∧ ∀ b, R a b → Q (F b)
theorem spA_mono {α β : Type} {args : α → List Sl} {ok : α → Prop} {R : α → β → Prop} {F : β → D} : ∀ ss (Q Q' : D → Prop), (∀ d, Q d → Q' d) → spA args ok R F ss Q → spA args ok R F ss Q' := fun ss Q Q' k ⟨a, e, h, q⟩ => ⟨a, e, h, fun b hb => k _ (q b hb)⟩
theorem spA_len {α β : Type} {args : α → List Sl} {ok : α → Prop} {R : α → β → Prop} {F : β → D} {n : Nat} (h : ∀ a, (args a).length = n) : ∀ ss (Q : D → Prop), spA args ok R F ss Q → ss.length = n := fun ss Q ⟨a, e, _⟩ => by rw [e]; exact h a
/-! ### surds -/
structure S4 where
  a : Int
  b : Int
  c : Int
  d : Int
def S4.D (s : S4) : DL.D := .tuple [.int s.a, .int s.b, .int s.c, .int s.d]
/-- the greatest that divides the three -/
def g3 (a b c : Int) : Int := (Int.gcd (Int.gcd a b) c : Nat)
def nrm (a b c d : Int) : S4 := ⟨a / g3 a b c, b / g3 a b c, c / g3 a b c, if b ≠ 0 then d else 0⟩
def sgn (a b d : Int) : Int := if 0 ≤ a ∧ 0 ≤ b then (if 0 < a + b then 1 else 0) else if a ≤ 0 ∧ b ≤ 0 then -1 else if decide (b * b * d < a * a) = decide (0 < a) then 1 else -1
def mx (i j : Int) : Int := if j > i then j else i
def sumS (s t : S4) : S4 := nrm (s.a * t.c + t.a * s.c) (s.b * t.c + t.b * s.c) (s.c * t.c) (mx s.d t.d)
def mulS (s t : S4) : S4 := nrm (s.a * t.a + s.b * t.b * mx s.d t.d) (s.a * t.b + s.b * t.a) (s.c * t.c) (mx s.d t.d)
def negS (s : S4) : S4 := ⟨-s.a, -s.b, s.c, s.d⟩
def wholeS (s : S4) (r : Int) : Int := if 0 ≤ s.b then (s.a + r) / s.c else (s.a - r - 1) / s.c
/-- sizes -/
structure Bd (m : Nat) (s : S4) : Prop where
  a : Sm m s.a
  b : Sm m s.b
  c : Sm m s.c
  c0 : 0 < s.c
  d0 : 0 ≤ s.d
  d : Sm 20 s.d
theorem Bd.le {m n : Nat} {s : S4} (h : Bd m s) (l : m ≤ n) : Bd n s := ⟨h.a.le l, h.b.le l, h.c.le l, h.c0, h.d0, h.d⟩
theorem Bd.neg {m : Nat} {s : S4} (h : Bd m s) : Bd m (negS s) := ⟨h.a.neg, h.b.neg, h.c, h.c0, h.d0, h.d⟩
theorem g3_pos {a b c : Int} (hc : 0 < c) : 0 < g3 a b c := by
  unfold g3
  have : Int.gcd (Int.gcd a b) c ≠ 0 := fun z => by
    have := (Int.gcd_eq_zero_iff.mp z).2
    omega
  omega
theorem g3_dvd (a b c : Int) : g3 a b c ∣ c := Int.gcd_dvd_right ..
theorem nrm_c {a b c : Int} (hc : 0 < c) : 0 < c / g3 a b c := by
  have h := g3_pos (a := a) (b := b) hc
  obtain ⟨k, e⟩ := g3_dvd a b c
  rw [show c / g3 a b c = k by rw [e]; first | (rw [← e]; exact Int.ediv_eq_of_eq_mul_right (by omega) e) | exact Int.mul_ediv_cancel_left k (by omega)]
  apply Classical.byContradiction
  intro z
  have := Int.mul_nonneg (a := g3 a b c) (b := -k) (by omega) (by omega)
  rw [Int.mul_neg] at this
  omega
theorem nrm_bd {m : Nat} {a b c d : Int} (ha : Sm m a) (hb : Sm m b) (hc : Sm m c) (c0 : 0 < c) (d0 : 0 ≤ d) (hd : Sm 20 d) : Bd m (nrm a b c d) := by
  have g := g3_pos (a := a) (b := b) c0
  refine ⟨ha.div g, hb.div g, hc.div g, nrm_c c0, ?_, ?_⟩
  · show 0 ≤ (if b ≠ 0 then d else 0)
    split <;> omega
  · show Sm 20 (if b ≠ 0 then d else 0)
    split
    · exact hd
    · exact (by decide : (0 : Int).natAbs < 2 ^ 20)
theorem mx_ok {i j : Int} (h0 : 0 ≤ i) (h1 : Sm 20 i) (k0 : 0 ≤ j) (k1 : Sm 20 j) : 0 ≤ mx i j ∧ Sm 20 (mx i j) := by
  unfold mx
  split <;> constructor <;> assumption
theorem Bd.sum {m : Nat} {s t : S4} (h : Bd m s) (k : Bd m t) : Bd (2 * m + 1) (sumS s t) := by
  obtain ⟨d0, d1⟩ := mx_ok h.d0 h.d k.d0 k.d
  exact nrm_bd (((h.a.mul k.c).add (k.a.mul h.c)).le (by omega)) (((h.b.mul k.c).add (k.b.mul h.c)).le (by omega)) ((h.c.mul k.c).le (by omega)) (Int.mul_pos h.c0 k.c0) d0 d1
theorem Bd.mul {m : Nat} {s t : S4} (h : Bd m s) (k : Bd m t) : Bd (2 * m + 21) (mulS s t) := by
  obtain ⟨d0, d1⟩ := mx_ok h.d0 h.d k.d0 k.d
  refine nrm_bd ((((h.a.mul k.a).le (l := 2 * m + 20) (by omega)).add (((h.b.mul k.b).mul d1).le (by omega))).le (by omega)) (((h.a.mul k.b).add ((h.b.mul k.a).le (by omega))).le (by omega)) ((h.c.mul k.c).le (by omega)) (Int.mul_pos h.c0 k.c0) d0 d1
/-- the root that both sides come to -/
def Rn (n r : Int) : Prop := if n < 2 then r = n else Rt n r
theorem rn_unique {n r s : Int} (h : Rn n r) (k : Rn n s) : r = s := by
  unfold Rn at h k
  split at h
  · rw [if_pos (by assumption)] at k; omega
  · rw [if_neg (by assumption)] at k; exact rt_unique h k
theorem rn_ex (n : Int) : ∃ r, Rn n r := by
  unfold Rn
  split
  · exact ⟨n, rfl⟩
  · exact rt_of (by omega)
noncomputable def rF (n : Int) : Int := Classical.choose (rn_ex n)
theorem rF_ok (n : Int) : Rn n (rF n) := Classical.choose_spec (rn_ex n)
/-- no square divides it -/
def SF (d : Int) : Prop := 2 ≤ d ∧ d ≤ 1000001 ∧ ∀ t : Int, 2 ≤ t → ¬ t * t ∣ d
theorem SF.sm {d : Int} (h : SF d) : Sm 20 d := by
  obtain ⟨h0, h1, _⟩ := h
  unfold Sm
  omega
theorem Bd.neg4 {m : Nat} {s : S4} (h : Bd m s) : Bd m (negS s) := h.neg
/-- the surd with a divisor of either sign -/
def nrmZ (a b c d : Int) : S4 := if c < 0 then nrm (-a) (-b) (-c) d else nrm a b c d
/-- the whole part of b times the root of d -/
noncomputable def gF (d b : Int) : Int := if 0 ≤ b then rF (b * b * d) else -rF (b * b * d) - 1
def pl4 (s h : S4) (n : Int) : S4 := ⟨n * s.a * h.c + h.a * s.c, n * s.b * h.c + h.b * s.c, s.c * h.c, mx s.d h.d⟩
noncomputable def wS (s : S4) : Int := wholeS s (rF (s.b * s.b * s.d))
noncomputable def wA (s h : S4) (n : Int) : Int := wS (pl4 s h n)
noncomputable def lA (s h : S4) (n : Int) : Int := -wS (negS (pl4 s h n))
/-- a slope between 0 and 1, over the root of D -/
structure Slp (D : Int) (s : S4) : Prop where
  lo : 0 ≤ s.a + gF D s.b
  hi : s.a + gF D s.b < s.c
  pos : s.b = 0 → 0 < s.a
/-- a slope and a height of one field -/
structure Pr (s h : S4) : Prop where
  sb : Bd 120 s
  hb : Bd 200 h
  fld : (mx s.d h.d = 0 ∧ s.b = 0 ∧ h.b = 0) ∨ SF (mx s.d h.d)
  slp : Slp (mx s.d h.d) s
/-- a slope alone -/
structure Sl1 (s : S4) : Prop where
  sb : Bd 120 s
  fld : (s.d = 0 ∧ s.b = 0) ∨ (s.b ≠ 0 ∧ SF s.d)
  slp : Slp s.d s
theorem shl1 {b : Nat} (h : b ≤ 100000) : CShl 1 ((b : Nat) : Int) := by
  refine ⟨by omega, ?_⟩
  have : Builtin.Int.intBits 1 = 1 := by decide
  rw [this]
  omega
theorem half_bits (n : Int) (h : 2 ≤ n) (hs : Sm 1940 n) {s : Int} (k : Rt n s) : ∃ b : Nat, ((Builtin.Int.intBits n : Nat) + 1 : Int) / 2 = (b : Nat) ∧ b ≤ 970 ∧ s < 2 ^ b := by
  have e : ((n.toNat : Nat) : Int) = n := Int.toNat_of_nonneg (by omega)
  have hb : Builtin.Int.intBits n ≤ 1940 := by
    rw [← e]
    refine bits_le (by decide) ?_
    have : n.natAbs = n.toNat := by omega
    unfold Sm at hs
    rwa [this] at hs
  refine ⟨(Builtin.Int.intBits n + 1) / 2, by omega, by omega, ?_⟩
  rw [← e] at k
  refine rt_first k _ ?_
  rw [e]
  omega
theorem rn_of {n s : Int} (h : ¬ n < 2) (k : Rt n s) : Rn n s := by
  unfold Rn
  rw [if_neg h]
  exact k
theorem rt_sm {n s : Int} (h : Rt n s) (k : Sm 1940 n) : Sm 1940 s := by
  obtain ⟨h0, h1, h2⟩ := h
  have : s ≤ n ∨ s ≤ 1 := by
    by_cases z : s ≤ 1
    · exact .inr z
    · refine .inl ?_
      have := Int.mul_le_mul_of_nonneg_left (a := 1) (b := s) (c := s) (by omega) h0
      omega
  unfold Sm at *
  have : 1 < 2 ^ 1940 := Nat.one_lt_two_pow (by decide)
  omega
theorem D4 (s : S4) : s.D = .tuple [.int s.a, .int s.b, .int s.c, .int s.d] := rfl
theorem seq_go {A B : SS} {E : En} {ρ : Env} (h : A { E with nx := B E } ρ) : fSeqS A B E ρ := h
theorem mw {i j : Int} {k l : Nat} (h : Sm k i) (h' : Sm l j) (hs : k + l + 2 ≤ 1000000 := by omega) : CMulW i j := Sm.mulw h h' hs
theorem abs_gcd (i : Int) : (if i < 0 then -i else i) = (i.natAbs : Int) := by
  split <;> omega
theorem g3_abs (a b c : Int) (hc : 0 < c) : ((Int.gcd ((Int.gcd (if a < 0 then -a else a) (if b < 0 then -b else b) : Nat) : Int) c : Nat) : Int) = g3 a b c := by
  unfold g3
  rw [abs_gcd, abs_gcd]
  simp [Int.gcd]
theorem g3_neg (a b c : Int) : g3 (-a) (-b) (-c) = g3 a b c := by
  unfold g3
  simp [Int.gcd]
theorem g3_log {a b c : Int} (hc : 0 < c) (h : Sm 4000 c) : (g3 a b c).natAbs.log2 < 9000 := by
  have : g3 a b c ≤ c := Int.le_of_dvd hc (g3_dvd a b c)
  have g := g3_pos (a := a) (b := b) hc
  refine Sm.log (k := 4000) ?_
  unfold Sm at *
  omega
theorem fin4 {a b c d : Int} {Q : D → Prop} (hq : Q (nrm a b c d).D) : if ¬b = 0 then Q (.tuple [.int (a / g3 a b c), .int (b / g3 a b c), .int (c / g3 a b c), .int d]) else Q (.tuple [.int (a / g3 a b c), .int (b / g3 a b c), .int (c / g3 a b c), .int 0]) := by
  unfold nrm S4.D at hq
  try simp only at hq
  split
  · rename_i hb
    rw [if_pos hb] at hq
    exact hq
  · rename_i hb
    rw [if_neg hb] at hq
    exact hq
theorem fdiv_neg' (a : Int) {g : Int} (hg : 0 < g) : a.fdiv (-g) = (-a) / g := by
  rw [← Int.fdiv_eq_ediv_of_nonneg (-a) (by omega), ← Int.neg_fdiv_neg a (-g), Int.neg_neg]
theorem nrmZ_pos {a b c d : Int} (h : 0 < c) : nrmZ a b c d = nrm a b c d := by
  unfold nrmZ
  rw [if_neg (by omega)]
theorem sgn_go {a b d : Int} {Q : D → Prop} (hq : Q (.int (sgn a b d))) (m1 : CMulW a a) (m2 : CMulW b b) (m3 : CMulW (b * b) d) : if 0 ≤ a then
    if 0 ≤ b then if 0 < a + b then Q (PyData.int 1) else Q (PyData.int 0)
    else
      if a ≤ 0 then
        if b ≤ 0 then Q (PyData.int (-1))
        else CMulW a a ∧ CMulW b b ∧ CMulW (b * b) d ∧ if decide (b * b * d < a * a) = decide (0 < a) then Q (PyData.int 1) else Q (PyData.int (-1))
      else
        if false = true then Q (PyData.int (-1))
        else CMulW a a ∧ CMulW b b ∧ CMulW (b * b) d ∧ if decide (b * b * d < a * a) = decide (0 < a) then Q (PyData.int 1) else Q (PyData.int (-1))
  else
    if false = true then if 0 < a + b then Q (PyData.int 1) else Q (PyData.int 0)
    else
      if a ≤ 0 then
        if b ≤ 0 then Q (PyData.int (-1))
        else CMulW a a ∧ CMulW b b ∧ CMulW (b * b) d ∧ if decide (b * b * d < a * a) = decide (0 < a) then Q (PyData.int 1) else Q (PyData.int (-1))
      else
        if false = true then Q (PyData.int (-1))
        else CMulW a a ∧ CMulW b b ∧ CMulW (b * b) d ∧ if decide (b * b * d < a * a) = decide (0 < a) then Q (PyData.int 1) else Q (PyData.int (-1)) := by
  have ff : (false = true) = False := eq_false Bool.false_ne_true
  simp only [m1, m2, m3, true_and, ff, if_false]
  have tail : ¬ (0 ≤ a ∧ 0 ≤ b) → ¬ (a ≤ 0 ∧ b ≤ 0) → (if decide (b * b * d < a * a) = decide (0 < a) then Q (PyData.int 1) else Q (PyData.int (-1))) := fun h1 h2 => by
    unfold sgn at hq
    rw [if_neg h1, if_neg h2] at hq
    split
    · rename_i e; rw [if_pos e] at hq; exact hq
    · rename_i e; rw [if_neg e] at hq; exact hq
  have mid : ¬ (0 ≤ a ∧ 0 ≤ b) → a ≤ 0 ∧ b ≤ 0 → Q (PyData.int (-1)) := fun h1 h2 => by
    unfold sgn at hq
    rw [if_neg h1, if_pos h2] at hq
    exact hq
  have top : 0 ≤ a → 0 ≤ b → (if 0 < a + b then Q (PyData.int 1) else Q (PyData.int 0)) := fun h1 h2 => by
    unfold sgn at hq
    rw [if_pos ⟨h1, h2⟩] at hq
    split
    · rename_i e; rw [if_pos e] at hq; exact hq
    · rename_i e; rw [if_neg e] at hq; exact hq
  by_cases p1 : 0 ≤ a
  · rw [if_pos p1]
    by_cases p2 : 0 ≤ b
    · rw [if_pos p2]; exact top p1 p2
    · rw [if_neg p2]
      by_cases p3 : a ≤ 0
      · rw [if_pos p3]
        by_cases p4 : b ≤ 0
        · rw [if_pos p4]; exact mid (by omega) ⟨p3, p4⟩
        · rw [if_neg p4]; exact tail (by omega) (by omega)
      · rw [if_neg p3]; exact tail (by omega) (by omega)
  · rw [if_neg p1]
    by_cases p3 : a ≤ 0
    · rw [if_pos p3]
      by_cases p4 : b ≤ 0
      · rw [if_pos p4]; exact mid (by omega) ⟨p3, p4⟩
      · rw [if_neg p4]; exact tail (by omega) (by omega)
    · rw [if_neg p3]; exact tail (by omega) (by omega)
theorem rF_go {n r : Int} (h : Rn n r) : rF n = r := rn_unique (rF_ok n) h
theorem at_bd {s h : S4} {n : Int} (a : Bd 200 s) (b : Bd 200 h) (k : Sm 110 n) : Bd 600 (pl4 s h n) := by
  obtain ⟨d0, d1⟩ := mx_ok a.d0 a.d b.d0 b.d
  exact ⟨((((k.mul a.a).mul b.c).le (l := 550) (by omega)).add ((b.a.mul a.c).le (by omega))).le (by omega), ((((k.mul a.b).mul b.c).le (l := 550) (by omega)).add ((b.b.mul a.c).le (by omega))).le (by omega), (a.c.mul b.c).le (by omega), Int.mul_pos a.c0 b.c0, d0, d1⟩
theorem sm1 : Sm 1 (1 : Int) := (by decide : (1 : Int).natAbs < 2 ^ 1)
/-- comprehensions -/
theorem lc_map {α : Type} {g : GT} {e : SE} {ρ : Env} {f F : α → D} : ∀ (is : List α) (_ : ∀ i ∈ is, ∀ K : D → Prop, K (F i) → g (f i) ρ fun ρ1 => e ρ1 K) (Q : List D → Prop), Q (is.map F) → lcRun g fYes e ρ (is.map f) Q
  | [], _, Q, h => h
  | i :: is, he, Q, h => he i List.mem_cons_self (fun y => lcRun g fYes e ρ (is.map f) fun ys => Q (y :: ys)) (lc_map is (fun j hj => he j (List.mem_cons_of_mem _ hj)) _ h)
theorem lc_filter {α : Type} {g : GT} {t : ST} {e : SE} {ρ : Env} {f F : α → D} {c : α → Bool} : ∀ (is : List α) (_ : ∀ i ∈ is, ∀ (K : D → Prop) (J : Prop), (c i = true → K (F i)) → (c i = false → J) → g (f i) ρ fun ρ1 => t ρ1 fun b => if b = true then e ρ1 K else J) (Q : List D → Prop), Q ((is.filter c).map F) → lcRun g t e ρ (is.map f) Q
  | [], _, Q, h => h
  | i :: is, he, Q, h => by
    refine he i List.mem_cons_self (fun y => lcRun g t e ρ (is.map f) fun ys => Q (y :: ys)) (lcRun g t e ρ (is.map f) Q) (fun hc => lc_filter is (fun j hj => he j (List.mem_cons_of_mem _ hj)) _ ?_) (fun hc => lc_filter is (fun j hj => he j (List.mem_cons_of_mem _ hj)) _ ?_)
    · rw [List.filter_cons_of_pos hc] at h
      exact h
    · rw [List.filter_cons_of_neg (by rw [hc]; decide)] at h
      exact h
theorem rng_nat (n : Nat) : rng 0 n = (List.range n).map fun i : Nat => PyData.int (i : Int) := by
  unfold rng
  exact List.map_congr_left fun i _ => by rw [Int.zero_add]
theorem smN {n k : Nat} (h : n < 2 ^ k) : Sm k (n : Int) := by
  unfold Sm
  rwa [Int.natAbs_natCast]
/-! ### the whole part of b times the root of D -/
theorem rF_sq {n : Int} (hn : 0 ≤ n) : 0 ≤ rF n ∧ rF n * rF n ≤ n ∧ n < (rF n + 1) * (rF n + 1) := by
  have h := rF_ok n
  unfold Rn at h
  split at h
  · rw [h]
    have : n = 0 ∨ n = 1 := by omega
    rcases this with rfl | rfl <;> decide
  · exact h
theorem sq_le {x y : Int} (hx : 0 ≤ x) (hy : 0 ≤ y) (h : x * x ≤ y * y) : x ≤ y := by
  apply Classical.byContradiction
  intro z
  have h1 : y * y ≤ y * x := Int.mul_le_mul_of_nonneg_left (by omega) hy
  have h2 : y * x < x * x := Int.mul_lt_mul_of_pos_right (by omega) (by omega)
  omega
theorem sq_lt {x y : Int} (hx : 0 ≤ x) (hy : 0 ≤ y) (h : x * x < y * y) : x < y := by
  apply Classical.byContradiction
  intro z
  have h1 : y * y ≤ y * x := Int.mul_le_mul_of_nonneg_left (by omega) hy
  have h2 : y * x ≤ x * x := Int.mul_le_mul_of_nonneg_right (by omega) hx
  omega
theorem le_sq {x y : Int} (hx : 0 ≤ x) (h : x ≤ y) : x * x ≤ y * y := Int.mul_le_mul h h hx (by omega)
theorem mul4 (x y z w : Int) : (x * y) * (z * w) = (x * z) * (y * w) := by
  rw [Int.mul_assoc, Int.mul_assoc]
  congr 1
  rw [← Int.mul_assoc, ← Int.mul_assoc, Int.mul_comm y z]
/-- roots of b1, b2, b1 + b2 -/
theorem root_add {D b1 b2 : Int} (hD : 0 ≤ D) (h1 : 0 ≤ b1) (h2 : 0 ≤ b2) :
    rF (b1 * b1 * D) + rF (b2 * b2 * D) ≤ rF ((b1 + b2) * (b1 + b2) * D) ∧ rF ((b1 + b2) * (b1 + b2) * D) ≤ rF (b1 * b1 * D) + rF (b2 * b2 * D) + 1 := by
  have n1 : 0 ≤ b1 * b1 * D := Int.mul_nonneg (Int.mul_nonneg h1 h1) hD
  have n2 : 0 ≤ b2 * b2 * D := Int.mul_nonneg (Int.mul_nonneg h2 h2) hD
  have n3 : 0 ≤ (b1 + b2) * (b1 + b2) * D := Int.mul_nonneg (Int.mul_nonneg (by omega) (by omega)) hD
  have n12 : 0 ≤ b1 * b2 * D := Int.mul_nonneg (Int.mul_nonneg h1 h2) hD
  obtain ⟨p1, q1, r1⟩ := rF_sq n1
  obtain ⟨p2, q2, r2⟩ := rF_sq n2
  obtain ⟨p3, q3, r3⟩ := rF_sq n3
  have eD : (b1 + b2) * (b1 + b2) * D = b1 * b1 * D + b2 * b2 * D + 2 * (b1 * b2 * D) := by
    rw [Int.add_mul, Int.mul_add, Int.mul_add, Int.mul_comm b2 b1, Int.add_mul, Int.add_mul, Int.add_mul]
    omega
  have e12 : (b1 * b2 * D) * (b1 * b2 * D) = (b1 * b1 * D) * (b2 * b2 * D) := by
    rw [mul4 (b1 * b2) D (b1 * b2) D, mul4 b1 b2 b1 b2, mul4 (b1 * b1) D (b2 * b2) D]
  rw [eD] at p3 q3 r3 ⊢
  generalize b1 * b1 * D = n at *
  generalize b2 * b2 * D = m at *
  generalize b1 * b2 * D = k at *
  generalize rF n = x at *
  generalize rF m = y at *
  generalize rF (n + m + 2 * k) = z at *
  have xy : x * y ≤ k := by
    refine sq_le (Int.mul_nonneg p1 p2) n12 ?_
    rw [e12, mul4 x y x y]
    exact Int.mul_le_mul q1 q2 (Int.mul_nonneg p2 p2) n1
  have xy1 : k ≤ (x + 1) * (y + 1) := by
    refine sq_le n12 (Int.mul_nonneg (by omega) (by omega)) ?_
    rw [e12, mul4 (x + 1) (y + 1) (x + 1) (y + 1)]
    exact Int.mul_le_mul (by omega) (by omega) n2 (Int.mul_nonneg (by omega) (by omega))
  constructor
  · have : x + y < z + 1 := by
      refine sq_lt (by omega) (by omega) ?_
      have e : (x + y) * (x + y) = x * x + y * y + 2 * (x * y) := by
        rw [Int.add_mul, Int.mul_add, Int.mul_add, Int.mul_comm y x]; omega
      omega
    omega
  · have : z < x + y + 2 := by
      refine sq_lt p3 (by omega) ?_
      have e : (x + y + 2) * (x + y + 2) = (x + 1) * (x + 1) + (y + 1) * (y + 1) + 2 * ((x + 1) * (y + 1)) := by
        have a : x + y + 2 = (x + 1) + (y + 1) := by omega
        rw [a]
        generalize x + 1 = u
        generalize y + 1 = v
        rw [Int.add_mul, Int.mul_add, Int.mul_add, Int.mul_comm v u]; omega
      omega
    omega
theorem gF_pos {D b : Int} (h : 0 ≤ b) : gF D b = rF (b * b * D) := by
  unfold gF
  rw [if_pos h]
theorem gF_neg {D b : Int} (h : b < 0) : gF D b = -rF ((-b) * (-b) * D) - 1 := by
  unfold gF
  rw [if_neg (by omega), Int.neg_mul_neg]
theorem gF_zero (D : Int) : gF D 0 = 0 := by
  rw [gF_pos (Int.le_refl _)]
  have : (0 : Int) * 0 * D = 0 := by simp
  rw [this]
  have h := rF_sq (n := 0) (by decide)
  have := sq_lt (x := rF 0) (y := 1) h.1 (by decide) (by omega)
  omega
theorem gF_add {D : Int} (hD : 0 ≤ D) (b1 b2 : Int) : gF D b1 + gF D b2 ≤ gF D (b1 + b2) ∧ gF D (b1 + b2) ≤ gF D b1 + gF D b2 + 1 := by
  have A := fun {x y : Int} (hx : 0 ≤ x) (hy : 0 ≤ y) => root_add hD hx hy
  by_cases h1 : 0 ≤ b1
  · by_cases h2 : 0 ≤ b2
    · rw [gF_pos h1, gF_pos h2, gF_pos (by omega)]
      exact A h1 h2
    · by_cases h3 : 0 ≤ b1 + b2
      · have := A h3 (show 0 ≤ -b2 by omega)
        rw [show b1 + b2 + -b2 = b1 by omega] at this
        rw [gF_pos h1, gF_neg (by omega : b2 < 0), gF_pos h3]
        omega
      · have := A (show 0 ≤ -(b1 + b2) by omega) h1
        rw [show -(b1 + b2) + b1 = -b2 by omega] at this
        rw [gF_pos h1, gF_neg (by omega : b2 < 0), gF_neg (by omega : b1 + b2 < 0)]
        omega
  · by_cases h2 : 0 ≤ b2
    · by_cases h3 : 0 ≤ b1 + b2
      · have := A h3 (show 0 ≤ -b1 by omega)
        rw [show b1 + b2 + -b1 = b2 by omega] at this
        rw [gF_pos h2, gF_neg (by omega : b1 < 0), gF_pos h3]
        omega
      · have := A (show 0 ≤ -(b1 + b2) by omega) h2
        rw [show -(b1 + b2) + b2 = -b1 by omega] at this
        rw [gF_pos h2, gF_neg (by omega : b1 < 0), gF_neg (by omega : b1 + b2 < 0)]
        omega
    · have := A (show 0 ≤ -b1 by omega) (show 0 ≤ -b2 by omega)
      rw [show -b1 + -b2 = -(b1 + b2) by omega] at this
      rw [gF_neg (by omega : b1 < 0), gF_neg (by omega : b2 < 0), gF_neg (by omega : b1 + b2 < 0)]
      omega
theorem gF_opp {D b : Int} (h : b ≠ 0) : gF D (-b) = -gF D b - 1 := by
  by_cases hb : 0 ≤ b
  · rw [gF_pos hb, gF_neg (by omega), Int.neg_neg]
  · rw [gF_pos (by omega), gF_neg (by omega)]
    omega
theorem wS_eq (s : S4) : wS s = (s.a + gF s.d s.b) / s.c := by
  unfold wS wholeS gF
  split
  · rfl
  · have : s.a - rF (s.b * s.b * s.d) - 1 = s.a + (-rF (s.b * s.b * s.d) - 1) := by omega
    rw [this]
/-- the sign by whole parts -/
theorem sgn_ge {a b D : Int} (hD : 0 ≤ D) (hb : b = 0 ∨ 1 ≤ D) : (0 < sgn a b D ∨ sgn a b D = 0) ↔ 0 ≤ a + gF D b := by
  have n : 0 ≤ b * b * D := Int.mul_nonneg (by
    rcases Int.le_total 0 b with h | h
    · exact Int.mul_nonneg h h
    · have := Int.mul_nonneg (a := -b) (b := -b) (by omega) (by omega)
      rwa [Int.neg_mul_neg] at this) hD
  obtain ⟨p, q, r⟩ := rF_sq n
  unfold sgn
  by_cases b0 : b = 0
  · subst b0
    rw [gF_zero]
    by_cases ha : 0 ≤ a
    · rw [if_pos ⟨ha, Int.le_refl _⟩]
      split <;> constructor <;> intro _ <;> omega
    · rw [if_neg (fun z => ha z.1), if_pos ⟨by omega, Int.le_refl _⟩]
      omega
  · by_cases bp : 0 ≤ b
    · rw [gF_pos bp]
      by_cases ha : 0 ≤ a
      · rw [if_pos ⟨ha, bp⟩, if_pos (by omega)]
        omega
      · rw [if_neg (fun z => ha z.1), if_neg (fun z => by omega), decide_eq_false (show ¬ 0 < a by omega)]
        by_cases k : b * b * D < a * a
        · rw [decide_eq_true k, if_neg (by decide)]
          have : rF (b * b * D) < -a := sq_lt p (by omega) (by rw [Int.neg_mul_neg]; omega)
          omega
        · rw [decide_eq_false k, if_pos rfl]
          have : -a < rF (b * b * D) + 1 := sq_lt (by omega) (by omega) (by rw [Int.neg_mul_neg]; omega)
          omega
    · rw [gF_neg (by omega), Int.neg_mul_neg]
      by_cases ha : a ≤ 0
      · rw [if_neg (fun z => bp z.2), if_pos ⟨ha, by omega⟩]
        omega
      · rw [if_neg (fun z => bp z.2), if_neg (fun z => ha z.1), decide_eq_true (show 0 < a by omega)]
        by_cases k : b * b * D < a * a
        · rw [decide_eq_true k, if_pos rfl]
          have : rF (b * b * D) < a := sq_lt p (by omega) (by omega)
          omega
        · rw [decide_eq_false k, if_neg (by decide)]
          have : a < rF (b * b * D) + 1 := sq_lt (by omega) (by omega) (by omega)
          omega
theorem sgn_gt {a b D : Int} (hD : 0 ≤ D) (hb : b = 0 ∨ 1 ≤ D) : 0 < sgn a b D ↔ (if b = 0 then 0 < a else 0 ≤ a + gF D b) := by
  by_cases b0 : b = 0
  · rw [if_pos b0]
    subst b0
    unfold sgn
    by_cases ha : 0 ≤ a
    · rw [if_pos ⟨ha, Int.le_refl _⟩]
      split <;> omega
    · rw [if_neg (fun z => ha z.1), if_pos ⟨by omega, Int.le_refl _⟩]
      omega
  · rw [if_neg b0, ← sgn_ge hD hb]
    constructor
    · exact .inl
    · intro h
      rcases h with h | h
      · exact h
      · exfalso
        unfold sgn at h
        split at h
        · split at h <;> omega
        · split at h
          · omega
          · split at h <;> omega
theorem fmod_small (x : Int) {y : Int} (h : y < 0) : (x.fmod y).natAbs < y.natAbs := by
  have e : x.fmod y = -((-x).fmod (-y)) := by
    have := Int.neg_fmod_neg (a := x) (b := y)
    omega
  have e2 : (-x).fmod (-y) = (-x) % (-y) := Int.fmod_eq_emod_of_nonneg _ (by omega)
  have := Int.emod_nonneg (-x) (b := -y) (by omega)
  have := Int.emod_lt_of_pos (-x) (b := -y) (by omega)
  omega
end T
end DL
--import DLWide
--import DLStr
--import DLPow
--import DLSurd
namespace DL
namespace T
open PySem L2 PySem.Spec PyProof.Rows
/-! ### the parts of a number under a root -/
structure RP (n m k : Int) : Prop where
  m1 : 1 ≤ m
  k1 : 1 ≤ k
  e : m * m * k = n
  f : ∀ t : Int, 2 ≤ t → ¬ t * t ∣ k
noncomputable def rpp (n : Int) : Int × Int := open Classical in if h : ∃ p : Int × Int, RP n p.1 p.2 then Classical.choose h else (1, n)
noncomputable abbrev rpm (n : Int) : Int := (rpp n).1
noncomputable abbrev rpk (n : Int) : Int := (rpp n).2
noncomputable def rpD (n : Int) : DL.D := if n = 0 then .tuple [.int 0, .int 1] else .tuple [.int (rpm n), .int (rpk n)]
/-! ### surds -/
noncomputable def ofS (s : S4) : S4 := if s.d = 0 then nrmZ s.a 0 s.c 0 else if rpk s.d = 1 then nrmZ (s.a + s.b * rpm s.d) 0 s.c 0 else nrmZ s.a (s.b * rpm s.d) s.c (rpk s.d)
def backS (s : S4) : S4 := nrmZ (s.c * s.a) (-s.c * s.b) (s.a * s.a - s.b * s.b * s.d) s.d
def othS (s : S4) : S4 := ⟨s.a, -s.b, s.c, s.d⟩
/-- a surd of the field of n -/
def Fl (n : Int) (s : S4) : Prop := (s.d = 0 ∧ s.b = 0) ∨ (s.d = n ∧ s.b ≠ 0)
/-! ### what is wrong with a value -/
def isInt (d : DL.D) : Bool := isB (tyN d) "int" && !isB (tyN d) "bool"
def tup4 (d : DL.D) : Bool := match d with | .tuple ds => ds.length == 4 | _ => false
noncomputable def err4 (a b c d : Int) : DL.D :=
  if 1000000000000 < a.natAbs ∨ 1000000000000 < b.natAbs ∨ 1000000000000 < c.natAbs ∨ 1000000 < d then .str "great"
  else if c < 1 ∨ 1 < g3 a b c then .str "part"
  else if b = 0 ∧ d = 0 then .none
  else if b = 0 ∨ d < 2 ∨ 1 < rpm d then .str "root" else .none
noncomputable def errS (d : DL.D) : DL.D := match d with
  | .tuple [.int a, .int b, .int c, .int e] => err4 a b c e
  | _ => .str "form"
/-! ### data that may be shown, numbers below 2 ^ 12900 in it -/
structure Sw (n w : Nat) (d : DL.D) : Prop where
  sh : showW d = true
  dp : PyData.depth d ≤ n
  wt : (PyData.shown d).length ≤ w
structure SwA (n w : Nat) (ds : List DL.D) : Prop where
  sh : showWAll ds = true
  dp : PyData.depthAll ds ≤ n
  wt : ((PyData.shownAll ds).map (·.length)).sum + 2 * (PyData.shownAll ds).length ≤ w
/-- any value -/
abbrev Vd (d : DL.D) : Prop := Sw 8 20000 d
/-! ### asks -/
inductive Ask where
  | of (s : S4)
  | sum (s t : S4)
  | times (s t : S4)
  | turned (s : S4)
  | back (s : S4)
  | other (s : S4)
  | error (d : DL.D)
def Ask.word : Ask → Str
  | .of _ => "of" | .sum _ _ => "sum" | .times _ _ => "times" | .turned _ => "turned" | .back _ => "back" | .other _ => "other" | .error _ => "error"
def Ask.row : Ask → DL.D
  | .of s => .list [.int s.a, .int s.b, .int s.c, .int s.d] | .sum s t => .list [s.D, t.D] | .times s t => .list [s.D, t.D] | .turned s => .list [s.D] | .back s => .list [s.D] | .other s => .list [s.D] | .error d => .list [d]
def Ask.D (q : Ask) : DL.D := .list [.str q.word, q.row]
def refD (nm : Str) : DL.D := .tuple [.str "raised", .list [.str nm], .bool true]
def told (d : DL.D) : DL.D := .tuple [.str "told", d]
noncomputable def Ask.val : Ask → DL.D
  | .of s => told (ofS s).D
  | .sum s t => told (sumS s t).D
  | .times s t => told (mulS s t).D
  | .turned s => told (negS s).D
  | .back s => if s.a = 0 ∧ s.b = 0 then refD "Unfit" else told (backS s).D
  | .other s => told (othS s).D
  | .error d => told (errS d)
def okOf (s : S4) : Prop := Sm 60 s.a ∧ Sm 60 s.b ∧ Sm 60 s.c ∧ s.c ≠ 0 ∧ 0 ≤ s.d ∧ s.d ≤ 1000001
def okBack (s : S4) : Prop := Bd 2000 s ∧ ∃ n, SF n ∧ Fl n s
def ok2 (s t : S4) : Prop := Bd 4000 s ∧ Bd 4000 t ∧ ∃ n, SF n ∧ Fl n s ∧ Fl n t
def Ask.ok : Ask → Prop
  | .of s => okOf s
  | .sum s t => ok2 s t
  | .times s t => ok2 s t
  | .turned s => Bd 4000 s
  | .back s => okBack s
  | .other s => Bd 4000 s
  | .error d => Vd d
def AllOk (l : List Ask) : Prop := ∀ q ∈ l, q.ok
/-- surds of the field of n, with small parts -/
def Some (n : Int) (l : List S4) : Prop := SF n ∧ l ≠ [] ∧ l.length ≤ 10 ∧ ∀ s ∈ l, Bd 41 s ∧ Fl n s
/-! ### specs -/
abbrev iS (i : Int) : Sl := .sh (.int i)
abbrev ar4 (s : S4) : List Sl := [iS s.a, iS s.b, iS s.c, iS s.d]
abbrev arD (d : DL.D) : List Sl := [.sh d]
abbrev arS (s : S4) : List Sl := [.sh s.D]
abbrev arT (x : S4 × S4) : List Sl := [.sh x.1.D, .sh x.2.D]
abbrev arI (n : Int) : List Sl := [iS n]
def S_is_integer : Spec := spE arD (fun _ => True) fun d => .bool (isInt d)
def S_is_tuple : Spec := spE (fun d : DL.D => [.sh d, iS 4]) (fun _ => True) fun d => .bool (tup4 d)
def S_common : Spec := sp 2 (fun ss => ∃ i j : Int, ss = [iS i, iS j] ∧ 0 ≤ i ∧ 0 ≤ j) fun ss d => ∃ i j : Int, ss = [iS i, iS j] ∧ d = .int (Int.gcd i j : Nat)
def S__law_common : Spec := sp 2 (fun ss => ∃ i j : Int, ss = [iS i, iS j]) fun ss d => ∃ i j : Int, ss = [iS i, iS j] ∧ d = .int (Int.gcd i j : Nat)
def S_whole_root : Spec := sp 1 (fun ss => ∃ n : Int, ss = [iS n] ∧ Sm 1940 n) fun ss d => ∃ n r : Int, ss = [iS n] ∧ d = .int r ∧ Rn n r
def S__law_root_of : Spec := sp 1 (fun ss => ∃ n : Int, ss = [iS n] ∧ Sm 1940 n) fun ss d => ∃ n r : Int, ss = [iS n] ∧ d = .int r ∧ Rn n r
def S_root_parts : Spec := spE arI (fun n => 0 ≤ n ∧ n ≤ 1000001) rpD
def S__law_parts : Spec := spE arI (fun n => 1 ≤ n ∧ n ≤ 1000001) fun n => .tuple [.int (rpm n), .int (rpk n)]
def okZ (s : S4) : Prop := s.c ≠ 0 ∧ Sm 8100 s.a ∧ Sm 8100 s.b ∧ Sm 8100 s.c
def S_lowest : Spec := spE ar4 okZ fun s => (nrmZ s.a s.b s.c s.d).D
def S__law_surd : Spec := spE ar4 okZ fun s => (nrmZ s.a s.b s.c s.d).D
def S_surd_of : Spec := spE ar4 okOf fun s => (ofS s).D
def S__law_own_of : Spec := spE ar4 okOf fun s => (ofS s).D
def S_surd_error : Spec := spE arD (fun _ => True) errS
def S__law_own_error : Spec := spE arD (fun _ => True) errS
def S_surd_sum : Spec := spE arT (fun x => Bd 4000 x.1 ∧ Bd 4000 x.2) fun x => (sumS x.1 x.2).D
def S_surd_times : Spec := spE arT (fun x => Bd 4000 x.1 ∧ Bd 4000 x.2) fun x => (mulS x.1 x.2).D
def S_surd_turned : Spec := spE arS (fun _ => True) fun s => (negS s).D
def S_other_root : Spec := spE arS (fun _ => True) fun s => (othS s).D
def S_surd_back : SpecE := fun ss Q E => ∃ s : S4, ss = arS s ∧ okBack s ∧ (s.a = 0 ∧ s.b = 0 → E ⟨"Unfit", none⟩) ∧ (¬ (s.a = 0 ∧ s.b = 0) → Q (backS s).D)
theorem m_surd_back : ∀ ss (Q Q' : DL.D → Prop) (E E' : Xn → Prop), (∀ d, Q d → Q' d) → (∀ x, E x → E' x) → S_surd_back ss Q E → S_surd_back ss Q' E' := fun ss Q Q' E E' k l ⟨s, e, h, h1, h2⟩ => ⟨s, e, h, fun z => l _ (h1 z), fun z => k _ (h2 z)⟩
theorem l_surd_back : ∀ ss (Q : DL.D → Prop) (E : Xn → Prop), S_surd_back ss Q E → ss.length = 1 := fun ss Q E ⟨s, e, _⟩ => by rw [e]; rfl
def S__law_refused : SpecX := fun x Q => x = ⟨"Unfit", none⟩ ∧ Q (refD "Unfit")
theorem m__law_refused : ∀ x (Q Q' : DL.D → Prop), (∀ d, Q d → Q' d) → S__law_refused x Q → S__law_refused x Q' := fun x Q Q' k h => ⟨h.1, k _ h.2⟩
def S__law_own_bag : Spec := spOwn
def S__law_draw : Spec := spDraw
def S__law_pick : Spec := spA (fun ds : List DL.D => [.bg, .sh (.list ds)]) (fun ds => ds ≠ [] ∧ ds.length < 1000) (fun ds d => d ∈ ds) fun d => d
def S__law_great : Spec := spA (fun n : Int => [.bg, iS n]) (fun n => 0 < n) (fun n r => 0 ≤ r ∧ r < n) PyData.int
def S__law_like : Spec := spE (fun d : DL.D => [.sh d, .sh d]) (fun d => Sw 20 200000 d ∧ d.canLay0 = true) fun _ => .bool true
def arB (_ : Unit) : List Sl := [.bg]
def S__law_square_free : Spec := spA arB (fun _ => True) (fun _ n => SF n) PyData.int
def S__law_integer : Spec := spA arB (fun _ => True) (fun _ i => -1000000000000 ≤ i ∧ i ≤ 1000000000000) PyData.int
def S__law_any_root : Spec := spA arB (fun _ => True) (fun _ i => 0 ≤ i ∧ i ≤ 1000001) PyData.int
def S__law_told : Spec := fun ss Q => ∃ (q : Ask) (b : Bool), ss = [.sh (.str q.word), .sh q.row, .sh (.bool b)] ∧ q.ok ∧ Q q.val
theorem m__law_told : ∀ ss (Q Q' : DL.D → Prop), (∀ d, Q d → Q' d) → S__law_told ss Q → S__law_told ss Q' := fun ss Q Q' k ⟨q, b, e, h, hq⟩ => ⟨q, b, e, h, k _ hq⟩
theorem l__law_told : ∀ ss (Q : DL.D → Prop), S__law_told ss Q → ss.length = 3 := fun ss Q ⟨q, b, e, _⟩ => by rw [e]; rfl
def S__law_due : Spec := fun ss Q => ∃ q : Ask, ss = [.sh (.str q.word), .sh q.row] ∧ q.ok ∧ Q q.val
theorem m__law_due : ∀ ss (Q Q' : DL.D → Prop), (∀ d, Q d → Q' d) → S__law_due ss Q → S__law_due ss Q' := fun ss Q Q' k ⟨q, e, h, hq⟩ => ⟨q, e, h, k _ hq⟩
theorem l__law_due : ∀ ss (Q : DL.D → Prop), S__law_due ss Q → ss.length = 2 := fun ss Q ⟨q, e, _⟩ => by rw [e]; rfl
def S__law_handed : Spec := spA (fun n : Int => [.bg, iS n]) (fun n => SF n) (fun n s => Bd 41 s ∧ Fl n s) S4.D
/-- four items, near to a surd -/
def It (k : Nat) (d : DL.D) : Prop := (∃ i : Int, d = .int i ∧ Sm k i) ∨ (isInt d = false ∧ Sw 3 20 d)
def S__law_bent : Spec := spA (fun x : S4 × Nat => [.bg, .sh x.1.D]) (fun x => 110 ≤ x.2 ∧ x.2 ≤ 200 ∧ Sm x.2 x.1.a ∧ Sm x.2 x.1.b ∧ Sm x.2 x.1.c ∧ Sm x.2 x.1.d) (fun x (ds : List DL.D) => ds.length = 4 ∧ ∀ d ∈ ds, It (x.2 + 10) d) PyData.list
abbrev arL (x : Int × List S4) : List Sl := [.bg, .sh (.list (x.2.map S4.D))]
def S__law_value : Spec := spA arL (fun x => Some x.1 x.2) (fun _ d => Vd d) fun d => d
def AsksD (l : List Ask) : DL.D := .list (l.map Ask.D)
def S__law_each_wrong : Spec := spA (fun n : Int => [.bg, iS n]) (fun n => SF n ∧ n ≤ 1000001) (fun _ (l : List Ask) => l.length ≤ 100 ∧ AllOk l) AsksD
def S__law_asks : Spec := spA arL (fun x => Some x.1 x.2) (fun _ (l : List Ask) => l.length ≤ 200 ∧ AllOk l) AsksD
def S__law_is_walk_right : Spec := spE arL (fun x => Some x.1 x.2) fun _ => .bool true
end T
end DL
namespace DL
namespace T
open PySem L2 PySem.Spec PyProof.Rows
noncomputable section
def g_is_integer : SS := (fRet (fAndV (fIsI "int" (fN 0)) (fNotV (fIsI "bool" (fN 0)))))
abbrev N_is_integer : List Str := ["value"]
def g_is_tuple : SS := (fRet (fAndV (fIsI "tuple" (fN 0)) (fBin (gv gEq) (fCB bLen (fLC (fN 0) fLN)) (fN 1))))
abbrev N_is_tuple : List Str := ["value", "many"]
def g_common : SS := (fSeqS (fWhile (fCmp gGt (fN 1) (fC (.int 0))) (fPar [0, 1] (fMV (fV 1) (fMV (fBin gMod (fN 0) (fN 1)) fAN)))) (fRet (fV 0)))
abbrev N_common : List Str := ["one", "other"]
def g_whole_root : SS := (fSeqS (fIfS (fCmp gLt (fN 0) (fC (.int 2))) (fRet (fV 0)) fNext) (fSeqS (fSet 1 (fBin gShlW (fC (.int 1)) (fBin gDiv (fBin gAdd (fBits (fN 0)) (fC (.int 1))) (fC (.int 2))))) (fSeqS (fSet 2 (fBin gDiv (fBin gAdd (fN 1) (fBin gDiv (fN 0) (fN 1))) (fC (.int 2)))) (fSeqS (fWhile (fCmp gLt (fN 2) (fN 1)) (fPar [1, 2] (fMV (fV 2) (fMV (fBin gDiv (fBin gAdd (fN 2) (fBin gDiv (fN 0) (fN 2))) (fC (.int 2))) fAN)))) (fRet (fV 1))))))
abbrev N_whole_root : List Str := ["number", "root", "later"]
def g_surd_turned : SS := (fRet (fTup (fLC (fNeg (fBin gIx (fN 0) (fC (.int 0)))) (fLC (fNeg (fBin gIx (fN 0) (fC (.int 1)))) (fLC (fBin gIx (fN 0) (fC (.int 2))) (fLC (fBin gIx (fN 0) (fC (.int 3))) fLN))))))
abbrev N_surd_turned : List Str := ["one"]
def g_other_root : SS := (fRet (fTup (fLC (fBin gIx (fN 0) (fC (.int 0))) (fLC (fNeg (fBin gIx (fN 0) (fC (.int 1)))) (fLC (fBin gIx (fN 0) (fC (.int 2))) (fLC (fBin gIx (fN 0) (fC (.int 3))) fLN))))))
abbrev N_other_root : List Str := ["one"]
def g__law_own_bag : SS := (fSeqS (fSetN 1 (fLc [2] (fSeq (fNV fScr)) (gNm 2) fYes (fCB bAbs (fLC (fCB bInt (fLC (fN 2) fLN)) fLN)))) (fSeqS (fSet 3 (fBin gAdd (fC (.int 9173)) (fCB bLen (fLC (fN 1) fLN)))) (fSeqS (fFrz 1 (fForS (fSeq (fV 1)) (gNm 2) (fSet 3 (fBin gMod (fBin gAdd (fBin gAdd (fBin gMul (fN 3) (fC (.int 69621))) (fBin gMod (fN 2) (fC (.int 2147483629)))) (fC (.int 5))) (fC (.int 2147483647)))))) (fRet (fNV (fLC (fNV (fLRev (fNV (fSeq (fN 1))))) (fLC (fC (.int 0)) (fLC (fV 3) fLN))))))))
abbrev N__law_own_bag : List Str := ["script", "cells", "cell", "mixed"]
def g__law_refused : SS := (fSeqS (fSetN 1 fLN) (fSeqS (fIfS (fTV (fIs1 0 "Unfit")) (fApp 1 (fC (.str "Unfit"))) fNext) (fSeqS (fIfS (fTV (fIs1 0 "TooMany")) (fApp 1 (fTup (fLC (fC (.str "TooMany")) (fLC (fFld 0 "limit") fLN)))) fNext) (fSeqS (fIfS (fTV (fIs1 0 "BadText")) (fApp 1 (fC (.str "BadText"))) fNext) (fSeqS (fIfS (fTV (fIs1 0 "BadChain")) (fApp 1 (fC (.str "BadChain"))) fNext) (fSeqS (fIfS (fTV (fIs1 0 "BadLog")) (fApp 1 (fC (.str "BadLog"))) fNext) (fSeqS (fIfS (fTV (fIs1 0 "Refused")) (fApp 1 (fC (.str "Refused"))) fNext) (fSeqS (fIfS (fTV (fIs1 0 "NothingToUndo")) (fApp 1 (fC (.str "NothingToUndo"))) fNext) (fFrz 1 (fRet (fTup (fLC (fC (.str "raised")) (fLC (fV 1) (fLC (fIs1 0 "ValueError") fLN))))))))))))))
abbrev N__law_refused : List Str := ["error", "found"]
def g__law_like : SS := (fRet (fAndV (fBin (gv gEq) (fN 0) (fN 1)) (fBin (gv gEq) (fCB bReprW (fLC (fN 0) fLN)) (fCB bReprW (fLC (fN 1) fLN)))))
abbrev N__law_like : List Str := ["told", "due"]
def g__law_common : SS := (fSeqS (fWhile (fCmp gNe (fN 1) (fC (.int 0))) (fPar [0, 1] (fMV (fV 1) (fMV (fBin gMod (fCB bInt (fLC (fN 0) fLN)) (fN 1)) fAN)))) (fRet (fCB bAbs (fLC (fN 0) fLN))))
abbrev N__law_common : List Str := ["one", "other"]
def g__law_root_of : SS := (fSeqS (fIfS (fCmp gLt (fN 0) (fC (.int 2))) (fRet (fV 0)) fNext) (fSeqS (fSet 1 (fBin gShlW (fC (.int 1)) (fBin gDiv (fBin gAdd (fBits (fCB bInt (fLC (fN 0) fLN))) (fC (.int 1))) (fC (.int 2))))) (fSeqS (fForS (fRng1 (fC (.int 2000))) (gNm 2) (fSeqS (fSet 3 (fBin gDiv (fBin gAdd (fN 1) (fBin gDiv (fN 0) (fN 1))) (fC (.int 2)))) (fSeqS (fIfS (fCmp gGe (fN 3) (fN 1)) (fRet (fV 1)) fNext) (fSet 1 (fV 3))))) (fRet (fV 1)))))
abbrev N__law_root_of : List Str := ["n", "found", "turn", "better"]
def g_root_parts : SS := (fSeqS (fIfS (fCmp gEq (fN 0) (fC (.int 0))) (fRet (fTup (fLC (fC (.int 0)) (fLC (fC (.int 1)) fLN)))) fNext) (fSeqS (fAsg (fTup (fLC (fC (.int 1)) (fLC (fC (.int 1)) (fLC (fV 0) (fLC (fC (.int 2)) fLN))))) (gSq 4 (gsCons (gNm 1) (gsCons (gNm 2) (gsCons (gNm 3) (gsCons (gNm 4) gsNil)))))) (fSeqS (fWhile (fCmp gLe (fBin gMul (fBin gMul (fN 4) (fN 4)) (fN 4)) (fN 3)) (fSeqS (fSet 5 (fC (.int 0))) (fSeqS (fWhile (fCmp gEq (fBin gMod (fN 3) (fN 4)) (fC (.int 0))) (fPar [3, 5] (fMV (fBin gDiv (fN 3) (fN 4)) (fMV (fBin gAdd (fN 5) (fC (.int 1))) fAN)))) (fSeqS (fForS (fRng1 (fBin gDiv (fN 5) (fC (.int 2)))) (gNm 6) (fSet 1 (fBin gMul (fN 1) (fN 4)))) (fSeqS (fSet 2 (fIf (fCmp gEq (fBin gMod (fN 5) (fC (.int 2))) (fC (.int 1))) (fBin gMul (fN 2) (fN 4)) (fV 2))) (fSet 4 (fIf (fCmp gEq (fN 4) (fC (.int 2))) (fBin gAdd (fN 4) (fC (.int 1))) (fBin gAdd (fN 4) (fC (.int 2)))))))))) (fSeqS (fSet 7 (fCall S_whole_root (fAC (fV 3) fAN))) (fSeqS (fIfS (fCmp gEq (fBin gMul (fN 7) (fN 7)) (fN 3)) (fRet (fTup (fLC (fBin gMul (fN 1) (fN 7)) (fLC (fV 2) fLN)))) fNext) (fRet (fTup (fLC (fV 1) (fLC (fBin gMul (fN 2) (fN 3)) fLN)))))))))
abbrev N_root_parts : List Str := ["number", "root", "rest", "left", "p", "often", "turn", "last"]
def g_lowest : SS := (fSeqS (fIfS (fCmp gLt (fN 2) (fC (.int 0))) (fPar [0, 1, 2] (fMV (fNeg (fN 0)) (fMV (fNeg (fN 1)) (fMV (fNeg (fN 2)) fAN)))) fNext) (fSeqS (fSet 4 (fCall S_common (fAC (fCall S_common (fAC (fCB bAbs (fLC (fN 0) fLN)) (fAC (fCB bAbs (fLC (fN 1) fLN)) fAN))) (fAC (fV 2) fAN)))) (fRet (fTup (fLC (fBin gDiv (fN 0) (fN 4)) (fLC (fBin gDiv (fN 1) (fN 4)) (fLC (fBin gDiv (fN 2) (fN 4)) (fLC (fIf (fCmp gNe (fN 1) (fC (.int 0))) (fV 3) (fC (.int 0))) fLN))))))))
abbrev N_lowest : List Str := ["a", "b", "c", "d", "by"]
def g__law_pick : SS := (fRet (fBin gIx (fN 1) (fCall S__law_draw (fAB 0 (fAC (fCB bLen (fLC (fN 1) fLN)) fAN)))))
abbrev N__law_pick : List Str := ["bag", "some"]
def g__law_great : SS := (fSeqS (fSet 2 (fC (.int 0))) (fSeqS (fForS (fRng1 (fC (.int 4))) (gNm 3) (fSet 2 (fBin gAdd (fBin gMul (fN 2) (fBin gPow (fC (.int 10)) (fC (.int 8)))) (fCall S__law_draw (fAB 0 (fAC (fBin gPow (fC (.int 10)) (fC (.int 8))) fAN)))))) (fRet (fBin gMod (fN 2) (fN 1)))))
abbrev N__law_great : List Str := ["bag", "below", "found", "turn"]
def g__law_parts : SS := (fSeqS (fPar [1, 2, 3] (fMV (fC (.int 1)) (fMV (fC (.int 1)) (fMV (fV 0) fAN)))) (fSeqS (fForS (fRng2 (fC (.int 2)) (fC (.int 101))) (gNm 4) (fSeqS (fWhile (fCmp gEq (fBin gMod (fN 3) (fBin gMul (fN 4) (fN 4))) (fC (.int 0))) (fPar [1, 3] (fMV (fBin gMul (fN 1) (fN 4)) (fMV (fBin gDiv (fN 3) (fBin gMul (fN 4) (fN 4))) fAN)))) (fIfS (fCmp gEq (fBin gMod (fN 3) (fN 4)) (fC (.int 0))) (fPar [2, 3] (fMV (fBin gMul (fN 2) (fN 4)) (fMV (fBin gDiv (fN 3) (fN 4)) fAN))) fNext))) (fSeqS (fSet 5 (fCall S__law_root_of (fAC (fV 3) fAN))) (fRet (fIf (fCmp gEq (fBin gMul (fN 5) (fN 5)) (fN 3)) (fTup (fLC (fBin gMul (fN 1) (fN 5)) (fLC (fV 2) fLN))) (fTup (fLC (fV 1) (fLC (fBin gMul (fN 2) (fN 3)) fLN))))))))
abbrev N__law_parts : List Str := ["d", "many", "kept", "rest", "p", "root"]
def g__law_surd : SS := (fSeqS (fSet 4 (fCall S__law_common (fAC (fCall S__law_common (fAC (fV 0) (fAC (fV 1) fAN))) (fAC (fV 2) fAN)))) (fSeqS (fSet 4 (fIf (fCmp gGt (fN 2) (fC (.int 0))) (fV 4) (fNeg (fN 4)))) (fRet (fTup (fLC (fBin gDiv (fN 0) (fN 4)) (fLC (fBin gDiv (fN 1) (fN 4)) (fLC (fBin gDiv (fN 2) (fN 4)) (fLC (fIf (fCmp gNe (fN 1) (fC (.int 0))) (fV 3) (fC (.int 0))) fLN))))))))
abbrev N__law_surd : List Str := ["a", "b", "c", "d", "common_v"]
def g_surd_of : SS := (fSeqS (fAsg (fCall S_root_parts (fAC (fV 3) fAN)) (gSq 2 (gsCons (gNm 4) (gsCons (gNm 5) gsNil)))) (fRet (fIf (fCmp gEq (fN 5) (fC (.int 1))) (fCall S_lowest (fAC (fBin gAdd (fN 0) (fBin gMul (fN 1) (fN 4))) (fAC (fC (.int 0)) (fAC (fV 2) (fAC (fC (.int 0)) fAN))))) (fCall S_lowest (fAC (fV 0) (fAC (fBin gMul (fN 1) (fN 4)) (fAC (fV 2) (fAC (fV 5) fAN))))))))
abbrev N_surd_of : List Str := ["a", "b", "c", "d", "root", "rest"]
def g_surd_error : SS := (fSeqS (fIfS (fOr (fNot (fTV (fCall S_is_tuple (fAC (fV 0) (fAC (fC (.int 4)) fAN))))) (fNot (fTV (fCB bAll (fLC (fNV (fLc [1] (fSeq (fV 0)) (gNm 1) fYes (fCall S_is_integer (fAC (fV 1) fAN)))) fLN))))) (fRet (fC (.str "form"))) fNext) (fSeqS (fAsg (fV 0) (gSq 4 (gsCons (gNm 2) (gsCons (gNm 3) (gsCons (gNm 4) (gsCons (gNm 5) gsNil)))))) (fSeqS (fIfS (fOr (fCmp gGt (fCB bMaxL (fLC (fNV (fLC (fCB bAbs (fLC (fN 2) fLN)) (fLC (fCB bAbs (fLC (fN 3) fLN)) (fLC (fCB bAbs (fLC (fN 4) fLN)) fLN)))) fLN)) (fC (.int 1000000000000))) (fCmp gGt (fN 5) (fC (.int 1000000)))) (fRet (fC (.str "great"))) fNext) (fSeqS (fIfS (fOr (fCmp gLt (fN 4) (fC (.int 1))) (fCmp gGt (fCall S_common (fAC (fCall S_common (fAC (fCB bAbs (fLC (fN 2) fLN)) (fAC (fCB bAbs (fLC (fN 3) fLN)) fAN))) (fAC (fV 4) fAN))) (fC (.int 1)))) (fRet (fC (.str "part"))) fNext) (fSeqS (fIfS (fOr (fCmp gNe (fBin (gv gEq) (fN 3) (fC (.int 0))) (fBin (gv gEq) (fN 5) (fC (.int 0)))) (fOr (fCmp gLt (fN 5) (fC (.int 0))) (fCmp gEq (fN 5) (fC (.int 1))))) (fRet (fC (.str "root"))) fNext) (fRet (fIf (fAnd (fCmp gGt (fN 5) (fC (.int 0))) (fCmp gGt (fBin gIx (fCall S_root_parts (fAC (fV 5) fAN)) (fC (.int 0))) (fC (.int 1)))) (fC (.str "root")) (fC .none))))))))
abbrev N_surd_error : List Str := ["value", "item", "a", "b", "c", "d"]
def g_surd_sum : SS := (fSeqS (fSet 2 (fBin gAdd (fBin gMul (fBin gIx (fN 0) (fC (.int 0))) (fBin gIx (fN 1) (fC (.int 2)))) (fBin gMul (fBin gIx (fN 1) (fC (.int 0))) (fBin gIx (fN 0) (fC (.int 2)))))) (fRet (fCall S_lowest (fAC (fV 2) (fAC (fBin gAdd (fBin gMul (fBin gIx (fN 0) (fC (.int 1))) (fBin gIx (fN 1) (fC (.int 2)))) (fBin gMul (fBin gIx (fN 1) (fC (.int 1))) (fBin gIx (fN 0) (fC (.int 2))))) (fAC (fBin gMul (fBin gIx (fN 0) (fC (.int 2))) (fBin gIx (fN 1) (fC (.int 2)))) (fAC (fCB bMax2 (fLC (fBin gIx (fN 0) (fC (.int 3))) (fLC (fBin gIx (fN 1) (fC (.int 3))) fLN))) fAN)))))))
abbrev N_surd_sum : List Str := ["one", "other", "a"]
def g_surd_times : SS := (fSeqS (fSet 2 (fCB bMax2 (fLC (fBin gIx (fN 0) (fC (.int 3))) (fLC (fBin gIx (fN 1) (fC (.int 3))) fLN)))) (fSeqS (fSet 3 (fBin gAdd (fBin gMul (fBin gIx (fN 0) (fC (.int 0))) (fBin gIx (fN 1) (fC (.int 0)))) (fBin gMul (fBin gMul (fBin gIx (fN 0) (fC (.int 1))) (fBin gIx (fN 1) (fC (.int 1)))) (fN 2)))) (fRet (fCall S_lowest (fAC (fV 3) (fAC (fBin gAdd (fBin gMul (fBin gIx (fN 0) (fC (.int 0))) (fBin gIx (fN 1) (fC (.int 1)))) (fBin gMul (fBin gIx (fN 0) (fC (.int 1))) (fBin gIx (fN 1) (fC (.int 0))))) (fAC (fBin gMul (fBin gIx (fN 0) (fC (.int 2))) (fBin gIx (fN 1) (fC (.int 2)))) (fAC (fV 2) fAN))))))))
abbrev N_surd_times : List Str := ["one", "other", "d", "a"]
def g_surd_back (W : WE) : SS := (fSeqS (fAsg (fV 0) (gSq 4 (gsCons (gNm 1) (gsCons (gNm 2) (gsCons (gNm 3) (gsCons (gNm 4) gsNil)))))) (fSeqS (fIfS (fAnd (fCmp gEq (fN 1) (fC (.int 0))) (fCmp gEq (fN 2) (fC (.int 0)))) (fRaise0 W "Unfit") fNext) (fRet (fCall S_lowest (fAC (fBin gMul (fN 3) (fN 1)) (fAC (fBin gMul (fNeg (fN 3)) (fN 2)) (fAC (fBin gSub (fBin gMul (fN 1) (fN 1)) (fBin gMul (fBin gMul (fN 2) (fN 2)) (fN 4))) (fAC (fV 4) fAN))))))))
abbrev N_surd_back : List Str := ["one", "a", "b", "c", "d"]
def g__law_square_free : SS := (fSeqS (fSet 1 (fCall S__law_draw (fAB 0 (fAC (fC (.int 4)) fAN)))) (fSeqS (fIfS (fCmp gEq (fN 1) (fC (.int 0))) (fRet (fCall S__law_pick (fAB 0 (fAC (fNV (fLC (fC (.int 2)) (fLC (fC (.int 3)) (fLC (fC (.int 5)) (fLC (fC (.int 6)) (fLC (fC (.int 7)) (fLC (fC (.int 10)) (fLC (fC (.int 11)) (fLC (fC (.int 13)) (fLC (fC (.int 21)) (fLC (fC (.int 30)) fLN))))))))))) fAN)))) fNext) (fSeqS (fIfS (fCmp gEq (fN 1) (fC (.int 1))) (fRet (fCall S__law_pick (fAB 0 (fAC (fNV (fLC (fC (.int 999997)) (fLC (fC (.int 999983)) (fLC (fC (.int 510510)) (fLC (fC (.int 30030)) (fLC (fBin gAdd (fBin gDiv (fC (.int 998001)) (fC (.int 9))) (fC (.int 2))) (fLC (fC (.int 10007)) (fLC (fBin gMul (fC (.int 97)) (fC (.int 101))) (fLC (fBin gMul (fC (.int 101)) (fC (.int 103))) fLN))))))))) fAN)))) fNext) (fSeqS (fSet 2 (fBin gIx (fCall S__law_parts (fAC (fBin gAdd (fC (.int 2)) (fCall S__law_draw (fAB 0 (fAC (fBin gSub (fBin gPow (fC (.int 10)) (fC (.int 6))) (fC (.int 1))) fAN)))) fAN)) (fC (.int 1)))) (fRet (fIf (fCmp gGt (fN 2) (fC (.int 1))) (fV 2) (fC (.int 2))))))))
abbrev N__law_square_free : List Str := ["bag", "way", "kept"]
def g__law_integer : SS := (fSeqS (fSet 1 (fCall S__law_pick (fAB 0 (fAC (fNV (fLC (fC (.int 1)) (fLC (fC (.int 3)) (fLC (fC (.int 9)) (fLC (fC (.int 60)) (fLC (fBin gPow (fC (.int 10)) (fC (.int 4))) (fLC (fBin gPow (fC (.int 10)) (fC (.int 8))) (fLC (fBin gPow (fC (.int 10)) (fC (.int 12))) (fLC (fBin gPow (fC (.int 10)) (fC (.int 12))) fLN))))))))) fAN)))) (fSeqS (fSet 2 (fCall S__law_great (fAB 0 (fAC (fBin gAdd (fN 1) (fC (.int 1))) fAN)))) (fSeqS (fIfS (fCmp gEq (fCall S__law_draw (fAB 0 (fAC (fC (.int 14)) fAN))) (fC (.int 0))) (fSet 2 (fBin gPow (fC (.int 10)) (fC (.int 12)))) fNext) (fRet (fIf (fCmp gEq (fCall S__law_draw (fAB 0 (fAC (fC (.int 2)) fAN))) (fC (.int 0))) (fNeg (fN 2)) (fV 2))))))
abbrev N__law_integer : List Str := ["bag", "size", "found"]
def g__law_own_of : SS := (fSeqS (fIfS (fOr (fCmp gEq (fN 1) (fC (.int 0))) (fCmp gEq (fN 3) (fC (.int 0)))) (fRet (fCall S__law_surd (fAC (fV 0) (fAC (fC (.int 0)) (fAC (fV 2) (fAC (fC (.int 0)) fAN)))))) fNext) (fSeqS (fAsg (fCall S__law_parts (fAC (fV 3) fAN)) (gSq 2 (gsCons (gNm 4) (gsCons (gNm 5) gsNil)))) (fSeqS (fIfS (fCmp gEq (fN 5) (fC (.int 1))) (fRet (fCall S__law_surd (fAC (fBin gAdd (fN 0) (fBin gMul (fN 1) (fN 4))) (fAC (fC (.int 0)) (fAC (fV 2) (fAC (fC (.int 0)) fAN)))))) fNext) (fRet (fCall S__law_surd (fAC (fV 0) (fAC (fBin gMul (fN 1) (fN 4)) (fAC (fV 2) (fAC (fV 5) fAN)))))))))
abbrev N__law_own_of : List Str := ["a", "b", "c", "d", "many", "rest"]
def g__law_own_error : SS := (fSeqS (fIfS (fOr (fNot (fTV (fIsI "tuple" (fN 0)))) (fCmp gNe (fCB bLen (fLC (fN 0) fLN)) (fC (.int 4)))) (fRet (fC (.str "form"))) fNext) (fSeqS (fIfS (fTV (fCB bAny (fLC (fNV (fLc [1] (fSeq (fV 0)) (gNm 1) fYes (fOrV (fIsI "bool" (fN 1)) (fNotV (fIsI "int" (fN 1)))))) fLN))) (fRet (fC (.str "form"))) fNext) (fSeqS (fAsg (fV 0) (gSq 4 (gsCons (gNm 2) (gsCons (gNm 3) (gsCons (gNm 4) (gsCons (gNm 5) gsNil)))))) (fSeqS (fIfS (fOr (fCmp gGt (fCB bMaxL (fLC (fNV (fLC (fCB bAbs (fLC (fN 2) fLN)) (fLC (fCB bAbs (fLC (fN 3) fLN)) (fLC (fCB bAbs (fLC (fN 4) fLN)) fLN)))) fLN)) (fBin gPow (fC (.int 10)) (fC (.int 12)))) (fCmp gGt (fN 5) (fBin gPow (fC (.int 10)) (fC (.int 6))))) (fRet (fC (.str "great"))) fNext) (fSeqS (fIfS (fOr (fCmp gLt (fN 4) (fC (.int 1))) (fCmp gGt (fCall S__law_common (fAC (fCall S__law_common (fAC (fV 2) (fAC (fV 3) fAN))) (fAC (fV 4) fAN))) (fC (.int 1)))) (fRet (fC (.str "part"))) fNext) (fSeqS (fIfS (fAnd (fCmp gEq (fN 3) (fC (.int 0))) (fCmp gEq (fN 5) (fC (.int 0)))) (fRet (fC .none)) fNext) (fSeqS (fIfS (fOr (fCmp gEq (fN 3) (fC (.int 0))) (fOr (fCmp gLt (fN 5) (fC (.int 2))) (fCmp gGt (fBin gIx (fCall S__law_parts (fAC (fV 5) fAN)) (fC (.int 0))) (fC (.int 1))))) (fRet (fC (.str "root"))) fNext) (fRet (fC .none)))))))))
abbrev N__law_own_error : List Str := ["value", "item", "a", "b", "c", "d"]
def q__law_each_wrong_0 : SS := (fFrz 12 (fRet (fNV (fLc [13] (fSeq (fV 12)) (gNm 13) fYes (fNV (fLC (fC (.str "error")) (fLC (fNV (fLC (fV 13) fLN)) fLN)))))))
def q__law_each_wrong_1 : SS := (fSeqS (fExt 12 (fNV (fLC (fTup (fLC (fV 2) (fLC (fV 3) (fLC (fC (.int 0)) (fLC (fV 11) fLN))))) (fLC (fTup (fLC (fBin gMul (fC (.int 2)) (fN 2)) (fLC (fBin gMul (fC (.int 2)) (fN 3)) (fLC (fBin gMul (fC (.int 2)) (fN 4)) (fLC (fV 11) fLN))))) (fLC (fTup (fLC (fV 7) (fLC (fV 3) (fLC (fNeg (fN 4)) (fLC (fV 11) fLN))))) (fLC (fTup (fLC (fV 2) (fLC (fV 7) (fLC (fC .none) (fLC (fV 5) fLN))))) fLN)))))) q__law_each_wrong_0)
def q__law_each_wrong_2 : SS := (fSeqS (fApp 12 (fTup (fLC (fV 2) (fLC (fV 3) (fLC (fV 4) (fLC (fNeg (fCall S__law_pick (fAB 0 (fAC (fNV (fLC (fBin gAdd (fBin gPow (fC (.int 10)) (fC (.int 6))) (fC (.int 1))) (fLC (fBin gPow (fC (.int 10)) (fC (.int 7))) (fLC (fBin gPow (fC (.int 10)) (fC (.int 30))) fLN)))) fAN)))) fLN)))))) q__law_each_wrong_1)
def q__law_each_wrong_3 : SS := (fSeqS (fExt 12 (fNV (fLC (fTup (fLC (fV 2) (fLC (fC (.int 1)) (fLC (fBin gPow (fC (.int 10)) (fC (.int 12))) (fLC (fV 5) fLN))))) (fLC (fTup (fLC (fV 2) (fLC (fV 3) (fLC (fV 4) (fLC (fBin gPow (fC (.int 10)) (fC (.int 6))) fLN))))) fLN)))) q__law_each_wrong_2)
def q__law_each_wrong_4 : SS := (fSeqS (fExt 12 (fNV (fLC (fTup (fLC (fV 2) (fLC (fV 3) (fLC (fV 4) (fLC (fV 5) (fLC (fV 5) fLN)))))) (fLC (fTup (fLC (fV 2) (fLC (fV 3) (fLC (fCB bStr (fLC (fN 4) fLN)) (fLC (fV 5) fLN))))) (fLC (fTup (fLC (fBin gMul (fN 9) (fBin gPow (fC (.int 10)) (fC (.int 12)))) (fLC (fBin gSub (fN 9) (fBin gPow (fC (.int 10)) (fC (.int 12)))) (fLC (fV 4) (fLC (fC (.int 999997)) fLN))))) fLN))))) q__law_each_wrong_3)
def q__law_each_wrong_5 : SS := (fSeqS (fExt 12 (fNV (fLC (fTup (fLC (fV 8) (fLC (fV 3) (fLC (fV 4) (fLC (fV 5) fLN))))) (fLC (fTup (fLC (fV 2) (fLC (fV 8) (fLC (fV 4) (fLC (fV 5) fLN))))) (fLC (fTup (fLC (fV 2) (fLC (fV 3) (fLC (fC (.bool true)) (fLC (fV 5) fLN))))) (fLC (fTup (fLC (fC (.int 1)) (fLC (fC (.int 0)) (fLC (fC (.int 1)) (fLC (fV 8) fLN))))) (fLC (fNV (fLC (fV 2) (fLC (fV 3) (fLC (fV 4) (fLC (fV 5) fLN))))) (fLC (fTup (fLC (fV 2) (fLC (fV 3) (fLC (fV 4) fLN)))) fLN)))))))) q__law_each_wrong_4)
def q__law_each_wrong_6 : SS := (fSeqS (fExt 12 (fNV (fLC (fTup (fLC (fV 2) (fLC (fV 3) (fLC (fV 4) (fLC (fC (.int 0)) fLN))))) (fLC (fTup (fLC (fV 2) (fLC (fV 3) (fLC (fV 4) (fLC (fC (.int 1)) fLN))))) (fLC (fTup (fLC (fV 2) (fLC (fV 3) (fLC (fV 4) (fLC (fNeg (fN 5)) fLN))))) (fLC (fTup (fLC (fV 2) (fLC (fV 3) (fLC (fV 4) (fLC (fV 11) fLN))))) (fLC (fTup (fLC (fC (.int 0)) (fLC (fC (.int 0)) (fLC (fC (.int 1)) (fLC (fV 5) fLN))))) (fLC (fTup (fLC (fC (.int 0)) (fLC (fC (.int 0)) (fLC (fV 6) (fLC (fC (.int 0)) fLN))))) fLN)))))))) q__law_each_wrong_5)
def q__law_each_wrong_7 : SS := (fSeqS (fExt 12 (fNV (fLC (fTup (fLC (fV 2) (fLC (fV 3) (fLC (fV 4) (fLC (fBin gAdd (fBin gPow (fC (.int 10)) (fC (.int 6))) (fC (.int 1))) fLN))))) (fLC (fTup (fLC (fBin gMul (fN 2) (fN 6)) (fLC (fBin gMul (fN 3) (fN 6)) (fLC (fBin gMul (fN 4) (fN 6)) (fLC (fV 5) fLN))))) (fLC (fTup (fLC (fV 2) (fLC (fV 3) (fLC (fC (.int 0)) (fLC (fV 5) fLN))))) (fLC (fTup (fLC (fV 2) (fLC (fV 3) (fLC (fNeg (fN 4)) (fLC (fV 5) fLN))))) fLN)))))) q__law_each_wrong_6)
def q__law_each_wrong_8 : SS := (fSeqS (fSetN 12 (fLC (fTup (fLC (fV 2) (fLC (fV 3) (fLC (fV 4) (fLC (fV 5) fLN))))) (fLC (fTup (fLC (fBin gMul (fN 9) (fN 7)) (fLC (fV 3) (fLC (fV 4) (fLC (fV 5) fLN))))) (fLC (fTup (fLC (fV 2) (fLC (fBin gMul (fN 9) (fN 7)) (fLC (fV 4) (fLC (fV 5) fLN))))) (fLC (fTup (fLC (fV 2) (fLC (fV 3) (fLC (fV 7) (fLC (fV 5) fLN))))) (fLC (fTup (fLC (fV 2) (fLC (fV 3) (fLC (fNeg (fN 7)) (fLC (fV 5) fLN))))) fLN)))))) q__law_each_wrong_7)
def q__law_each_wrong_9 : SS := (fSeqS (fSet 11 (fBin gMul (fBin gMul (fN 10) (fN 10)) (fBin gAdd (fC (.int 1)) (fCall S__law_draw (fAB 0 (fAC (fBin gDiv (fBin gPow (fC (.int 10)) (fC (.int 6))) (fBin gMul (fN 10) (fN 10))) fAN)))))) q__law_each_wrong_8)
def q__law_each_wrong_10 : SS := (fSeqS (fPar [9, 10] (fMV (fCall S__law_pick (fAB 0 (fAC (fNV (fLC (fC (.int 1)) (fLC (fNeg (fC (.int 1))) fLN))) fAN))) (fMV (fCall S__law_pick (fAB 0 (fAC (fNV (fLC (fC (.int 2)) (fLC (fC (.int 3)) (fLC (fC (.int 5)) (fLC (fC (.int 7)) (fLC (fC (.int 11)) (fLC (fC (.int 31)) (fLC (fC (.int 97)) (fLC (fC (.int 101)) (fLC (fC (.int 503)) (fLC (fC (.int 997)) fLN))))))))))) fAN))) fAN))) q__law_each_wrong_9)
def q__law_each_wrong_11 : SS := (fSeqS (fPar [6, 7, 8] (fMV (fBin gAdd (fC (.int 2)) (fCall S__law_draw (fAB 0 (fAC (fC (.int 6)) fAN)))) (fMV (fBin gAdd (fBin gPow (fC (.int 10)) (fC (.int 12))) (fC (.int 1))) (fMV (fCall S__law_pick (fAB 0 (fAC (fNV (fLC (fC (.bool true)) (fLC (fC (.bool false)) fLN))) fAN))) fAN)))) q__law_each_wrong_10)
def g__law_each_wrong : SS := (fSeqS (fAsg (fCall S__law_surd (fAC (fBin gSub (fCall S__law_draw (fAB 0 (fAC (fC (.int 19)) fAN))) (fC (.int 9))) (fAC (fBin gAdd (fC (.int 1)) (fCall S__law_draw (fAB 0 (fAC (fC (.int 9)) fAN)))) (fAC (fBin gAdd (fC (.int 1)) (fCall S__law_draw (fAB 0 (fAC (fC (.int 9)) fAN)))) (fAC (fV 1) fAN))))) (gSq 4 (gsCons (gNm 2) (gsCons (gNm 3) (gsCons (gNm 4) (gsCons (gNm 5) gsNil)))))) q__law_each_wrong_11)
abbrev N__law_each_wrong : List Str := ["bag", "root", "a", "b", "c", "d", "many", "beyond", "flag", "sign", "prime", "square", "found", "value"]
def q__law_told_0 : SS := (fRet (fTup (fLC (fC (.str "told")) (fLC (fIf (fTV (fN 2)) (fCallK S_surd_error [0] (fAC (fBin gIx (fN 1) (fC (.int 0))) fAN)) (fCall S_surd_error (fAC (fBin gIx (fN 1) (fC (.int 0))) fAN))) fLN))))
def q__law_told_1 : SS := (fSeqS (fIfS (fCmp gEq (fN 0) (fC (.str "other"))) (fRet (fTup (fLC (fC (.str "told")) (fLC (fIf (fTV (fN 2)) (fCallK S_other_root [0] (fAC (fBin gIx (fN 1) (fC (.int 0))) fAN)) (fCall S_other_root (fAC (fBin gIx (fN 1) (fC (.int 0))) fAN))) fLN)))) fNext) q__law_told_0)
def g__law_told : SS := (fTry 3 "LineError" (fun W1 => (fSeqS (fIfS (fAnd (fCmp gEq (fN 0) (fC (.str "of"))) (fTV (fN 2))) (fRet (fTup (fLC (fC (.str "told")) (fLC (fCallK S_surd_of [3, 2, 1, 0] (fAC (fBin gIx (fN 1) (fC (.int 3))) (fAC (fBin gIx (fN 1) (fC (.int 2))) (fAC (fBin gIx (fN 1) (fC (.int 1))) (fAC (fBin gIx (fN 1) (fC (.int 0))) fAN))))) fLN)))) fNext) (fSeqS (fIfS (fCmp gEq (fN 0) (fC (.str "of"))) (fRet (fTup (fLC (fC (.str "told")) (fLC (fCall S_surd_of (fAC (fBin gIx (fN 1) (fC (.int 0))) (fAC (fBin gIx (fN 1) (fC (.int 1))) (fAC (fBin gIx (fN 1) (fC (.int 2))) (fAC (fBin gIx (fN 1) (fC (.int 3))) fAN))))) fLN)))) fNext) (fSeqS (fIfS (fCmp gEq (fN 0) (fC (.str "sum"))) (fRet (fTup (fLC (fC (.str "told")) (fLC (fIf (fTV (fN 2)) (fCallK S_surd_sum [1, 0] (fAC (fBin gIx (fN 1) (fC (.int 1))) (fAC (fBin gIx (fN 1) (fC (.int 0))) fAN))) (fCall S_surd_sum (fAC (fBin gIx (fN 1) (fC (.int 0))) (fAC (fBin gIx (fN 1) (fC (.int 1))) fAN)))) fLN)))) fNext) (fSeqS (fIfS (fCmp gEq (fN 0) (fC (.str "times"))) (fRet (fTup (fLC (fC (.str "told")) (fLC (fIf (fTV (fN 2)) (fCallK S_surd_times [1, 0] (fAC (fBin gIx (fN 1) (fC (.int 1))) (fAC (fBin gIx (fN 1) (fC (.int 0))) fAN))) (fCall S_surd_times (fAC (fBin gIx (fN 1) (fC (.int 0))) (fAC (fBin gIx (fN 1) (fC (.int 1))) fAN)))) fLN)))) fNext) (fSeqS (fIfS (fCmp gEq (fN 0) (fC (.str "turned"))) (fRet (fTup (fLC (fC (.str "told")) (fLC (fIf (fTV (fN 2)) (fCallK S_surd_turned [0] (fAC (fBin gIx (fN 1) (fC (.int 0))) fAN)) (fCall S_surd_turned (fAC (fBin gIx (fN 1) (fC (.int 0))) fAN))) fLN)))) fNext) (fSeqS (fIfS (fCmp gEq (fN 0) (fC (.str "back"))) (fRet (fTup (fLC (fC (.str "told")) (fLC (fIf (fTV (fN 2)) (fCallEK W1 S_surd_back [0] (fAC (fBin gIx (fN 1) (fC (.int 0))) fAN)) (fCallE W1 S_surd_back (fAC (fBin gIx (fN 1) (fC (.int 0))) fAN))) fLN)))) fNext) q__law_told_1))))))) (fRet (fCallX 3 S__law_refused)) (fun _ _ => False))
abbrev N__law_told : List Str := ["word", "row", "is_named", "error"]
def q__law_due_0 : SS := (fRet (fTup (fLC (fC (.str "told")) (fLC (fCall S__law_surd (fAC (fBin gAdd (fBin gMul (fN 2) (fN 6)) (fBin gMul (fBin gMul (fN 3) (fN 7)) (fN 10))) (fAC (fBin gAdd (fBin gMul (fN 2) (fN 7)) (fBin gMul (fN 3) (fN 6))) (fAC (fBin gMul (fN 4) (fN 8)) (fAC (fV 10) fAN))))) fLN))))
def q__law_due_1 : SS := (fSeqS (fIfS (fCmp gEq (fN 0) (fC (.str "sum"))) (fRet (fTup (fLC (fC (.str "told")) (fLC (fCall S__law_surd (fAC (fBin gAdd (fBin gMul (fN 2) (fN 8)) (fBin gMul (fN 6) (fN 4))) (fAC (fBin gAdd (fBin gMul (fN 3) (fN 8)) (fBin gMul (fN 7) (fN 4))) (fAC (fBin gMul (fN 4) (fN 8)) (fAC (fV 10) fAN))))) fLN)))) fNext) q__law_due_0)
def q__law_due_2 : SS := (fSeqS (fSet 10 (fIf (fCmp gGt (fN 5) (fC (.int 0))) (fV 5) (fV 9))) q__law_due_1)
def q__law_due_3 : SS := (fSeqS (fAsg (fBin gIx (fN 1) (fC (.int 1))) (gSq 4 (gsCons (gNm 6) (gsCons (gNm 7) (gsCons (gNm 8) (gsCons (gNm 9) gsNil)))))) q__law_due_2)
def q__law_due_4 : SS := (fSeqS (fIfS (fCmp gEq (fN 0) (fC (.str "back"))) (fRet (fTup (fLC (fC (.str "told")) (fLC (fCall S__law_surd (fAC (fBin gMul (fN 2) (fN 4)) (fAC (fBin gMul (fNeg (fN 3)) (fN 4)) (fAC (fBin gSub (fBin gMul (fN 2) (fN 2)) (fBin gMul (fBin gMul (fN 3) (fN 3)) (fN 5))) (fAC (fV 5) fAN))))) fLN)))) fNext) q__law_due_3)
def q__law_due_5 : SS := (fSeqS (fIfS (fAnd (fCmp gEq (fN 0) (fC (.str "back"))) (fAnd (fCmp gEq (fN 2) (fC (.int 0))) (fCmp gEq (fN 3) (fC (.int 0))))) (fRet (fTup (fLC (fC (.str "raised")) (fLC (fNV (fLC (fC (.str "Unfit")) fLN)) (fLC (fC (.bool true)) fLN))))) fNext) q__law_due_4)
def q__law_due_6 : SS := (fSeqS (fIfS (fCmp gEq (fN 0) (fC (.str "other"))) (fRet (fTup (fLC (fC (.str "told")) (fLC (fTup (fLC (fV 2) (fLC (fNeg (fN 3)) (fLC (fV 4) (fLC (fV 5) fLN))))) fLN)))) fNext) q__law_due_5)
def q__law_due_7 : SS := (fSeqS (fIfS (fCmp gEq (fN 0) (fC (.str "turned"))) (fRet (fTup (fLC (fC (.str "told")) (fLC (fTup (fLC (fNeg (fN 2)) (fLC (fNeg (fN 3)) (fLC (fV 4) (fLC (fV 5) fLN))))) fLN)))) fNext) q__law_due_6)
def q__law_due_8 : SS := (fSeqS (fAsg (fBin gIx (fN 1) (fC (.int 0))) (gSq 4 (gsCons (gNm 2) (gsCons (gNm 3) (gsCons (gNm 4) (gsCons (gNm 5) gsNil)))))) q__law_due_7)
def q__law_due_9 : SS := (fSeqS (fIfS (fCmp gEq (fN 0) (fC (.str "error"))) (fRet (fTup (fLC (fC (.str "told")) (fLC (fCall S__law_own_error (fAC (fBin gIx (fN 1) (fC (.int 0))) fAN)) fLN)))) fNext) q__law_due_8)
def g__law_due : SS := (fSeqS (fIfS (fCmp gEq (fN 0) (fC (.str "of"))) (fRet (fTup (fLC (fC (.str "told")) (fLC (fCall S__law_own_of (fAC (fBin gIx (fN 1) (fC (.int 0))) (fAC (fBin gIx (fN 1) (fC (.int 1))) (fAC (fBin gIx (fN 1) (fC (.int 2))) (fAC (fBin gIx (fN 1) (fC (.int 3))) fAN))))) fLN)))) fNext) q__law_due_9)
abbrev N__law_due : List Str := ["word", "row", "a", "b", "c", "d", "e", "f", "g", "h", "root"]
def g__law_any_root : SS := (fSeqS (fSet 1 (fCall S__law_draw (fAB 0 (fAC (fC (.int 6)) fAN)))) (fSeqS (fIfS (fCmp gEq (fN 1) (fC (.int 0))) (fRet (fCall S__law_square_free (fAB 0 fAN))) fNext) (fSeqS (fIfS (fCmp gEq (fN 1) (fC (.int 1))) (fRet (fCall S__law_draw (fAB 0 (fAC (fBin gAdd (fBin gPow (fC (.int 10)) (fC (.int 6))) (fC (.int 1))) fAN)))) fNext) (fSeqS (fIfS (fCmp gEq (fN 1) (fC (.int 2))) (fSeqS (fSet 2 (fCall S__law_pick (fAB 0 (fAC (fNV (fLC (fC (.int 2)) (fLC (fC (.int 3)) (fLC (fC (.int 5)) (fLC (fC (.int 7)) (fLC (fC (.int 11)) (fLC (fC (.int 13)) (fLC (fC (.int 29)) (fLC (fC (.int 31)) (fLC (fC (.int 37)) (fLC (fC (.int 97)) (fLC (fC (.int 101)) (fLC (fC (.int 103)) (fLC (fC (.int 127)) (fLC (fC (.int 331)) (fLC (fC (.int 499)) (fLC (fC (.int 503)) (fLC (fC (.int 701)) (fLC (fC (.int 991)) (fLC (fC (.int 997)) fLN)))))))))))))))))))) fAN)))) (fRet (fBin gMul (fBin gMul (fN 2) (fN 2)) (fBin gAdd (fC (.int 1)) (fCall S__law_draw (fAB 0 (fAC (fBin gDiv (fBin gPow (fC (.int 10)) (fC (.int 6))) (fBin gMul (fN 2) (fN 2))) fAN))))))) fNext) (fSeqS (fIfS (fCmp gEq (fN 1) (fC (.int 3))) (fRet (fBin gPow (fCall S__law_pick (fAB 0 (fAC (fNV (fLC (fBin gAdd (fC (.int 1)) (fCall S__law_draw (fAB 0 (fAC (fC (.int 1000)) fAN)))) (fLC (fBin gAdd (fC (.int 1)) (fCall S__law_draw (fAB 0 (fAC (fC (.int 12)) fAN)))) fLN))) fAN))) (fC (.int 2)))) fNext) (fRet (fCall S__law_pick (fAB 0 (fAC (fNV (fLC (fC (.int 0)) (fLC (fC (.int 1)) (fLC (fC (.int 2)) (fLC (fC (.int 4)) (fLC (fC (.int 8)) (fLC (fC (.int 9)) (fLC (fC (.int 12)) (fLC (fC (.int 18)) (fLC (fBin gPow (fC (.int 10)) (fC (.int 6))) (fLC (fC (.int 999998)) (fLC (fC (.int 999999)) (fLC (fC (.int 994009)) (fLC (fC (.int 982802)) (fLC (fBin gSub (fBin gPow (fC (.int 10)) (fC (.int 6))) (fC (.int 17))) fLN))))))))))))))) fAN)))))))))
abbrev N__law_any_root : List Str := ["bag", "way", "prime"]
def g__law_handed : SS := (fSeqS (fSet 2 (fCB bMax2 (fLC (fC (.int 1)) (fLC (fCB bAbs (fLC (fCall S__law_integer (fAB 0 fAN)) fLN)) fLN)))) (fSeqS (fSet 3 (fIf (fCmp gEq (fCall S__law_draw (fAB 0 (fAC (fC (.int 5)) fAN))) (fC (.int 0))) (fC (.int 0)) (fCall S__law_integer (fAB 0 fAN)))) (fRet (fCall S__law_surd (fAC (fCall S__law_integer (fAB 0 fAN)) (fAC (fV 3) (fAC (fV 2) (fAC (fV 1) fAN))))))))
abbrev N__law_handed : List Str := ["bag", "root", "c", "b"]
def q__law_bent_0 : SS := (fSetN 2 (fLC (fBin gMul (fBin gIx (fN 2) (fC (.int 0))) (fN 5)) (fLC (fBin gMul (fBin gIx (fN 2) (fC (.int 1))) (fN 5)) (fLC (fBin gMul (fBin gIx (fN 2) (fC (.int 2))) (fN 5)) (fLC (fBin gIx (fN 2) (fC (.int 3))) fLN)))))
def q__law_bent_1 : SS := (fSeqS (fIfS (fCmp gEq (fN 3) (fC (.int 0))) (fSeqS (fSet 5 (fBin gAdd (fC (.int 2)) (fCall S__law_draw (fAB 0 (fAC (fC (.int 12)) fAN))))) q__law_bent_0) (fIfS (fCmp gEq (fN 3) (fC (.int 1))) (fSetIx 2 (fCall S__law_pick (fAB 0 (fAC (fNV (fLC (fC (.int 0)) (fLC (fNeg (fC (.int 1))) (fLC (fNeg (fBin gIx (fN 2) (fC (.int 2)))) (fLC (fBin gSub (fBin gIx (fN 2) (fC (.int 2))) (fBin gPow (fC (.int 10)) (fC (.int 6)))) fLN))))) fAN))) (fC (.int 2))) (fIfS (fCmp gEq (fN 3) (fC (.int 2))) (fSetIx 2 (fCall S__law_pick (fAB 0 (fAC (fNV (fLC (fBin gAdd (fBin gPow (fC (.int 10)) (fC (.int 12))) (fC (.int 1))) (fLC (fBin gSub (fNeg (fBin gPow (fC (.int 10)) (fC (.int 12)))) (fC (.int 1))) (fLC (fBin gPow (fC (.int 10)) (fC (.int 12))) (fLC (fNeg (fBin gPow (fC (.int 10)) (fC (.int 12)))) (fLC (fBin gPow (fC (.int 10)) (fC (.int 30))) fLN)))))) fAN))) (fN 4)) (fIfS (fCmp gEq (fN 3) (fC (.int 3))) (fSetIx 2 (fCall S__law_pick (fAB 0 (fAC (fNV (fLC (fBin gAdd (fBin gPow (fC (.int 10)) (fC (.int 6))) (fC (.int 1))) (fLC (fBin gAdd (fBin gPow (fC (.int 10)) (fC (.int 6))) (fC (.int 3))) (fLC (fBin gPow (fC (.int 10)) (fC (.int 6))) (fLC (fBin gPow (fC (.int 10)) (fC (.int 30))) (fLC (fC (.int 999997)) (fLC (fC (.int 999998)) fLN))))))) fAN))) (fC (.int 3))) (fIfS (fCmp gEq (fN 3) (fC (.int 4))) (fSetIx 2 (fCall S__law_any_root (fAB 0 fAN)) (fC (.int 3))) (fIfS (fCmp gEq (fN 3) (fC (.int 5))) (fSetIx 2 (fCall S__law_pick (fAB 0 (fAC (fNV (fLC (fC (.int 0)) (fLC (fC (.int 1)) (fLC (fNeg (fC (.int 1))) (fLC (fNeg (fC (.int 5))) (fLC (fC (.int 2)) fLN)))))) fAN))) (fCall S__law_pick (fAB 0 (fAC (fNV (fLC (fC (.int 1)) (fLC (fC (.int 3)) fLN))) fAN)))) (fIfS (fCmp gEq (fN 3) (fC (.int 6))) (fSetIx 2 (fCall S__law_pick (fAB 0 (fAC (fNV (fLC (fC (.bool true)) (fLC (fC (.bool false)) (fLC (fC .none) (fLC (fC (.str "1")) (fLC (fTup (fLC (fC (.int 1)) fLN)) (fLC (fNV (fLC (fC (.int 1)) fLN)) (fLC (fC (.str "")) (fLC (fC (.dict [])) fLN))))))))) fAN))) (fCall S__law_draw (fAB 0 (fAC (fC (.int 4)) fAN)))) (fIfS (fCmp gEq (fN 3) (fC (.int 7))) (fSetIx 2 (fNeg (fBin gIx (fN 2) (fN 4))) (fN 4)) (fSetN 2 (fLC (fBin gSub (fCall S__law_draw (fAB 0 (fAC (fC (.int 8)) fAN))) (fC (.int 3))) (fLC (fBin gSub (fCall S__law_draw (fAB 0 (fAC (fC (.int 5)) fAN))) (fC (.int 2))) (fLC (fCall S__law_draw (fAB 0 (fAC (fC (.int 6)) fAN))) (fLC (fBin gSub (fCall S__law_draw (fAB 0 (fAC (fC (.int 14)) fAN))) (fC (.int 1))) fLN))))))))))))) (fFrz 2 (fRet (fV 2))))
def g__law_bent : SS := (fSeqS (fPar [2, 3, 4] (fMN (fSeq (fN 1)) (fMV (fCall S__law_draw (fAB 0 (fAC (fC (.int 9)) fAN))) (fMV (fCall S__law_draw (fAB 0 (fAC (fC (.int 3)) fAN))) fAN)))) q__law_bent_1)
abbrev N__law_bent : List Str := ["bag", "value", "row", "way", "at", "many"]
def q__law_is_walk_right_0 : SS := (fIfS (fCmp gEq (fBin gIx (fN 6) (fC (.int 0))) (fC (.str "told"))) (fSet 2 (fBin gIx (fN 7) (fC (.int 1)))) fNext)
def q__law_is_walk_right_1 : SS := (fSeqS (fIfS (fNot (fTV (fCall S__law_like (fAC (fV 7) (fAC (fV 6) fAN))))) (fRet (fC (.bool false))) fNext) q__law_is_walk_right_0)
def q__law_is_walk_right_2 : SS := (fSeqS (fSet 7 (fCall S__law_told (fAC (fV 4) (fAC (fV 5) (fAC (fBin (gv gGt) (fN 3) (fC (.int 2))) fAN))))) q__law_is_walk_right_1)
def q__law_is_walk_right_3 : SS := (fSeqS (fSet 6 (fCall S__law_due (fAC (fV 4) (fAC (fV 5) fAN)))) q__law_is_walk_right_2)
def q__law_is_walk_right_4 : SS := (fSeqS (fIfS (fCmp gEq (fN 4) (fC (.str "square"))) (fPar [4, 5] (fMV (fC (.str "times")) (fMV (fNV (fLC (fV 2) (fLC (fV 2) fLN))) fAN))) fNext) q__law_is_walk_right_3)
def q__law_is_walk_right_5 : SS := (fSeqS (fSet 5 (fIf (fCmp gInT (fN 4) (fTup (fLC (fC (.str "sum")) (fLC (fC (.str "times")) fLN)))) (fNV (fLC (fV 2) (fLC (fCall S__law_pick (fAB 0 (fAC (fV 1) fAN))) fLN))) (fNV (fLC (fV 2) fLN)))) q__law_is_walk_right_4)
def q__law_is_walk_right_6 : SS := (fSeqS (fSet 4 (fCall S__law_pick (fAB 0 (fAC (fNV (fLC (fC (.str "sum")) (fLC (fC (.str "times")) (fLC (fC (.str "times")) (fLC (fC (.str "back")) (fLC (fC (.str "turned")) (fLC (fC (.str "other")) (fLC (fC (.str "square")) fLN)))))))) fAN)))) q__law_is_walk_right_5)
def q__law_is_walk_right_7 : SS := (fRet (fCall S__law_like (fAC (fCall S__law_told (fAC (fC (.str "times")) (fAC (fNV (fLC (fV 2) (fLC (fBin gIx (fN 8) (fC (.int 1))) fLN))) (fAC (fC (.bool true)) fAN)))) (fAC (fTup (fLC (fC (.str "told")) (fLC (fTup (fLC (fC (.int 1)) (fLC (fC (.int 0)) (fLC (fC (.int 1)) (fLC (fC (.int 0)) fLN))))) fLN))) fAN))))
def q__law_is_walk_right_8 : SS := (fSeqS (fIfS (fNot (fTV (fCall S__law_like (fAC (fV 8) (fAC (fCall S__law_due (fAC (fC (.str "back")) (fAC (fNV (fLC (fV 2) fLN)) fAN))) fAN))))) (fRet (fC (.bool false))) fNext) q__law_is_walk_right_7)
def q__law_is_walk_right_9 : SS := (fSeqS (fSet 8 (fCall S__law_told (fAC (fC (.str "back")) (fAC (fNV (fLC (fV 2) fLN)) (fAC (fC (.bool false)) fAN))))) q__law_is_walk_right_8)
def q__law_is_walk_right_10 : SS := (fSeqS (fIfS (fAnd (fCmp gEq (fBin gIx (fN 2) (fC (.int 0))) (fC (.int 0))) (fCmp gEq (fBin gIx (fN 2) (fC (.int 1))) (fC (.int 0)))) (fRet (fC (.bool true))) fNext) q__law_is_walk_right_9)
def q__law_is_walk_right_11 : SS := (fSeqS (fIfS (fNot (fTV (fCall S__law_like (fAC (fCall S__law_told (fAC (fC (.str "error")) (fAC (fNV (fLC (fV 2) fLN)) (fAC (fC (.bool false)) fAN)))) (fAC (fV 6) fAN))))) (fRet (fC (.bool false))) fNext) q__law_is_walk_right_10)
def q__law_is_walk_right_12 : SS := (fSeqS (fSet 6 (fCall S__law_due (fAC (fC (.str "error")) (fAC (fNV (fLC (fV 2) fLN)) fAN)))) q__law_is_walk_right_11)
def q__law_is_walk_right_13 : SS := (fSeqS (fForS (fRng1 (fC (.int 5))) (gNm 3) q__law_is_walk_right_6) q__law_is_walk_right_12)
def g__law_is_walk_right : SS := (fSeqS (fSet 2 (fCall S__law_pick (fAB 0 (fAC (fV 1) fAN)))) q__law_is_walk_right_13)
abbrev N__law_is_walk_right : List Str := ["bag", "some", "at", "turn", "word", "row", "due", "found", "back"]
def q__law_value_0 : SS := (fSeqS (fIfS (fAnd (fCmp gLt (fN 2) (fC (.int 5))) (fTV (fCB bAll (fLC (fNV (fLc [5] (fSeq (fV 4)) (gNm 5) fYes (fAndV (fIsI "int" (fN 5)) (fNotV (fIsI "bool" (fN 5)))))) fLN)))) (fSet 4 (fCall S__law_bent (fAB 0 (fAC (fCB bTuple (fLC (fN 4) fLN)) fAN)))) fNext) (fRet (fCB bTuple (fLC (fN 4) fLN))))
def q__law_value_1 : SS := (fSeqS (fSet 4 (fCall S__law_bent (fAB 0 (fAC (fV 3) fAN)))) q__law_value_0)
def q__law_value_2 : SS := (fSeqS (fIfS (fCmp gEq (fN 2) (fC (.int 2))) (fRet (fCall S__law_pick (fAB 0 (fAC (fNV (fLC (fNV (fSeq (fN 3))) (fLC (fSlT (fN 3) fON (fOS (fC (.int 3)))) (fLC (fBin gAdd (fN 3) (fTup (fLC (fC (.int 0)) fLN))) (fLC (fTup (fLC (fV 3) fLN)) (fLC (fC .none) (fLC (fC (.bool true)) (fLC (fC (.int 0)) (fLC (fC (.str "")) (fLC (fTup fLN) (fLC (fC (.dict [])) (fLC (fCB bStr (fLC (fN 3) fLN)) (fLC (fBin gAdd (fSlT (fN 3) fON (fOS (fC (.int 3)))) (fTup (fLC (fNV (fSeq (fN 3))) fLN))) (fLC (fNV (fLC (fV 3) fLN)) (fLC (fDict1 (.inr "a") (fV 3)) (fLC (fTup (fLC (fV 3) (fLC (fV 3) (fLC (fV 3) (fLC (fV 3) fLN))))) fLN)))))))))))))))) fAN)))) fNext) q__law_value_1)
def q__law_value_3 : SS := (fSeqS (fIfS (fCmp gEq (fN 2) (fC (.int 1))) (fRet (fTup (fLC (fCall S__law_integer (fAB 0 fAN)) (fLC (fCall S__law_integer (fAB 0 fAN)) (fLC (fCB bMax2 (fLC (fC (.int 1)) (fLC (fCB bAbs (fLC (fCall S__law_integer (fAB 0 fAN)) fLN)) fLN))) (fLC (fCall S__law_square_free (fAB 0 fAN)) fLN)))))) fNext) q__law_value_2)
def q__law_value_4 : SS := (fSeqS (fIfS (fCmp gEq (fN 2) (fC (.int 0))) (fRet (fV 3)) fNext) q__law_value_3)
def g__law_value : SS := (fSeqS (fPar [2, 3] (fMV (fCall S__law_draw (fAB 0 (fAC (fC (.int 10)) fAN))) (fMV (fCall S__law_pick (fAB 0 (fAC (fV 1) fAN))) fAN))) q__law_value_4)
abbrev N__law_value : List Str := ["bag", "some", "way", "value", "row", "item"]
def q__law_asks_0 : SS := (fApp 2 (fNV (fLC (fC (.str "of")) (fLC (fNV (fLC (fCall S__law_integer (fAB 0 fAN)) (fLC (fCall S__law_integer (fAB 0 fAN)) (fLC (fIf (fCmp gNe (fN 4) (fC (.int 0))) (fV 4) (fNeg (fC (.int 1)))) (fLC (fCall S__law_any_root (fAB 0 fAN)) fLN))))) fLN))))
def q__law_asks_1 : SS := (fSeqS (fSet 4 (fCall S__law_integer (fAB 0 fAN))) q__law_asks_0)
def q__law_asks_2 : SS := (fExt 2 (fNV (fLC (fNV (fLC (fC (.str "sum")) (fLC (fNV (fLC (fV 6) (fLC (fV 7) fLN))) fLN))) (fLC (fNV (fLC (fC (.str "times")) (fLC (fNV (fLC (fV 6) (fLC (fV 7) fLN))) fLN))) fLN))))
def q__law_asks_3 : SS := (fSeqS (fSet 7 (fCall S__law_pick (fAB 0 (fAC (fV 1) fAN)))) q__law_asks_2)
def q__law_asks_4 : SS := (fSeqS (fExt 2 (fNV (fLC (fNV (fLC (fC (.str "turned")) (fLC (fNV (fLC (fV 6) fLN)) fLN))) (fLC (fNV (fLC (fC (.str "back")) (fLC (fNV (fLC (fV 6) fLN)) fLN))) (fLC (fNV (fLC (fC (.str "other")) (fLC (fNV (fLC (fV 6) fLN)) fLN))) (fLC (fNV (fLC (fC (.str "error")) (fLC (fNV (fLC (fV 6) fLN)) fLN))) fLN)))))) q__law_asks_3)
def q__law_asks_5 : SS := (fApp 2 (fNV (fLC (fC (.str "error")) (fLC (fNV (fLC (fCall S__law_value (fAB 0 (fAC (fV 1) fAN))) fLN)) fLN))))
def q__law_asks_6 : SS := (fRet (fBin gAdd (fN 2) (fNV (fLC (fNV (fLC (fC (.str "of")) (fLC (fNV (fLC (fCall S__law_integer (fAB 0 fAN)) (fLC (fBin gAdd (fBin gMod (fCB bInt (fLC (fN 11) fLN)) (fC (.int 99))) (fC (.int 1))) (fLC (fC (.int 3)) (fLC (fV 12) fLN))))) fLN))) fLN))))
def q__law_asks_7 : SS := (fSeqS (fApp 2 (fNV (fLC (fC (.str "of")) (fLC (fNV (fLC (fCall S__law_integer (fAB 0 fAN)) (fLC (fBin gAdd (fBin gMod (fCB bInt (fLC (fN 11) fLN)) (fBin gPow (fC (.int 10)) (fC (.int 12)))) (fC (.int 1))) (fLC (fNeg (fC (.int 1))) (fLC (fC (.int 0)) fLN))))) fLN)))) q__law_asks_6)
def q__law_asks_8 : SS := (fSeqS (fPar [11, 12] (fMV (fBin gAdd (fC (.int 1)) (fCB bAbs (fLC (fCall S__law_integer (fAB 0 fAN)) fLN))) (fMV (fCall S__law_pick (fAB 0 (fAC (fNV (fLC (fC (.int 4)) (fLC (fC (.int 9)) (fLC (fC (.int 49)) (fLC (fC (.int 994009)) (fLC (fBin gPow (fC (.int 10)) (fC (.int 6))) (fLC (fC (.int 1)) fLN))))))) fAN))) fAN))) q__law_asks_7)
def q__law_asks_9 : SS := (fSeqS (fForS (fRng1 (fC (.int 6))) (gNm 3) q__law_asks_5) q__law_asks_8)
def q__law_asks_10 : SS := (fSeqS (fExt 2 (fNV (fLC (fNV (fLC (fC (.str "times")) (fLC (fNV (fLC (fBin gIx (fN 1) (fC (.int 0))) (fLC (fTup (fLC (fV 8) (fLC (fNeg (fN 9)) (fLC (fV 4) (fLC (fV 10) fLN))))) fLN))) fLN))) (fLC (fNV (fLC (fC (.str "back")) (fLC (fNV (fLC (fTup (fLC (fC (.int 0)) (fLC (fC (.int 0)) (fLC (fC (.int 1)) (fLC (fC (.int 0)) fLN))))) fLN)) fLN))) (fLC (fNV (fLC (fC (.str "back")) (fLC (fNV (fLC (fTup (fLC (fNeg (fC (.int 1))) (fLC (fC (.int 0)) (fLC (fV 4) (fLC (fC (.int 0)) fLN))))) fLN)) fLN))) fLN))))) q__law_asks_9)
def q__law_asks_11 : SS := (fSeqS (fExt 2 (fNV (fLC (fNV (fLC (fC (.str "sum")) (fLC (fNV (fLC (fBin gIx (fN 1) (fC (.int 0))) (fLC (fTup (fLC (fNeg (fN 8)) (fLC (fNeg (fN 9)) (fLC (fV 4) (fLC (fV 10) fLN))))) fLN))) fLN))) (fLC (fNV (fLC (fC (.str "sum")) (fLC (fNV (fLC (fBin gIx (fN 1) (fC (.int 0))) (fLC (fTup (fLC (fV 8) (fLC (fNeg (fN 9)) (fLC (fV 4) (fLC (fV 10) fLN))))) fLN))) fLN))) fLN)))) q__law_asks_10)
def q__law_asks_12 : SS := (fSeqS (fAsg (fBin gIx (fN 1) (fC (.int 0))) (gSq 4 (gsCons (gNm 8) (gsCons (gNm 9) (gsCons (gNm 4) (gsCons (gNm 10) gsNil)))))) q__law_asks_11)
def q__law_asks_13 : SS := (fSeqS (fForS (fSeq (fV 1)) (gNm 6) q__law_asks_4) q__law_asks_12)
def q__law_asks_14 : SS := (fSeqS (fApp 2 (fNV (fLC (fC (.str "of")) (fLC (fBin gAdd (fN 5) (fNV (fLC (fCall S__law_pick (fAB 0 (fAC (fNV (fLC (fBin gPow (fC (.int 10)) (fC (.int 6))) (fLC (fC (.int 999998)) (fLC (fC (.int 999997)) (fLC (fC (.int 994009)) fLN))))) fAN))) fLN))) fLN)))) q__law_asks_13)
def q__law_asks_15 : SS := (fSeqS (fSetN 5 (fLc [3] (fRng1 (fC (.int 3))) (gNm 3) fYes (fCall S__law_pick (fAB 0 (fAC (fNV (fLC (fBin gPow (fC (.int 10)) (fC (.int 12))) (fLC (fNeg (fBin gPow (fC (.int 10)) (fC (.int 12)))) fLN))) fAN))))) q__law_asks_14)
def q__law_asks_16 : SS := (fSeqS (fForS (fRng1 (fC (.int 10))) (gNm 3) q__law_asks_1) q__law_asks_15)
def g__law_asks : SS := (fSeqS (fSetN 2 fLN) q__law_asks_16)
abbrev N__law_asks : List Str := ["bag", "some", "asks", "turn", "c", "least", "one", "other", "a", "b", "d", "far", "near"]
def q_law_0 : SS := (fIfS (fNot (fTV (fCall S__law_like (fAC (fCall S__law_told (fAC (fBin gIx (fBin gIx (fN 5) (fN 10)) (fC (.int 0))) (fAC (fBin gIx (fBin gIx (fN 5) (fN 10)) (fC (.int 1))) (fAC (fBin (gv gEq) (fBin gMod (fCB bInt (fLC (fBin gAdd (fN 10) (fN 4)) fLN)) (fC (.int 2))) (fC (.int 0))) fAN)))) (fAC (fBin gIx (fN 6) (fN 10)) fAN))))) (fRet (fC (.bool false))) fNext)
def q_law_1 : SS := (fFrz 3 (fIfS (fNot (fTV (fCall S__law_is_walk_right (fAB 1 (fAC (fV 3) fAN))))) (fRet (fC (.bool false))) fNext))
def q_law_2 : SS := (fIfS (fNot (fTV (fCall S__law_like (fAC (fCall S__law_told (fAC (fBin gIx (fBin gIx (fN 5) (fN 10)) (fC (.int 0))) (fAC (fBin gIx (fBin gIx (fN 5) (fN 10)) (fC (.int 1))) (fAC (fBin (gv gEq) (fBin gMod (fCB bInt (fLC (fBin gAdd (fN 10) (fN 4)) fLN)) (fC (.int 2))) (fC (.int 1))) fAN)))) (fAC (fBin gIx (fN 6) (fN 10)) fAN))))) (fRet (fC (.bool false))) fNext)
def q_law_3 : SS := (fSeqS (fForS (fSeq (fNV (fLRev (fNV (fLRng1 (fCB bLen (fLC (fN 5) fLN))))))) (gNm 10) q_law_2) (fRet (fBin (gv gEq) (fCB bReprW (fLC (fN 5) fLN)) (fN 9))))
def q_law_4 : SS := (fSeqS (fForS (fRng1 (fC (.int 2))) (gNm 11) q_law_1) q_law_3)
def q_law_5 : SS := (fSeqS (fForS (fSeq (fNV (fLRng1 (fCB bLen (fLC (fN 5) fLN))))) (gNm 10) q_law_0) q_law_4)
def q_law_6 : SS := (fSeqS (fPar [9, 4] (fMV (fCB bReprW (fLC (fN 5) fLN)) (fMV (fCall S__law_draw (fAB 1 (fAC (fC (.int 2)) fAN))) fAN))) q_law_5)
def q_law_7 : SS := (fSeqS (fSetN 6 (fLc [7, 8] (fSeq (fV 5)) (gSq 2 (gsCons (gNm 7) (gsCons (gNm 8) gsNil))) fYes (fCall S__law_due (fAC (fV 7) (fAC (fV 8) fAN))))) q_law_6)
def q_law_8 : SS := (fSeqS (fFrz 3 (fSet 5 (fBin gAdd (fCall S__law_asks (fAB 1 (fAC (fV 3) fAN))) (fCall S__law_each_wrong (fAB 1 (fAC (fV 2) fAN)))))) q_law_7)
def q_law_9 : SS := (fSeqS (fIfS (fCmp gEq (fCall S__law_draw (fAB 1 (fAC (fC (.int 4)) fAN))) (fC (.int 0))) (fApp 3 (fTup (fLC (fC (.int 0)) (fLC (fC (.int 0)) (fLC (fC (.int 1)) (fLC (fC (.int 0)) fLN)))))) fNext) q_law_8)
def q_law_10 : SS := (fSeqS (fSetN 3 (fLc [4] (fRng1 (fC (.int 4))) (gNm 4) fYes (fCall S__law_handed (fAB 1 (fAC (fV 2) fAN))))) q_law_9)
def g_law : SS := (fSeqS (fSet 2 (fCall S__law_square_free (fAB 1 fAN))) q_law_10)
abbrev N_law : List Str := ["script", "bag", "root", "some", "turn", "asks", "dues", "word", "row", "kept", "at", "way"]
end
end T
end DL
namespace DL
namespace T
open PySem L2 PySem.Spec PyProof.Rows
local macro_rules
  | `(tactic| get_elem_tactic_extensible) => `(tactic| (repeat (first | with_reducible refine Go.lc_go ?_ | with_reducible refine Go.ln_go ?_ | ((with_reducible apply Go.v_sh); exact rfl) | ((with_reducible apply Go.n_sh); exact rfl) | ((with_reducible apply Go.n_ow); exact rfl) | ((with_reducible apply Go.ab_go); exact rfl) | ((with_reducible apply Go.app_go); exact rfl) | ((with_reducible apply Go.ext_go); exact rfl) | with_reducible refine Go.c_go ?_ | with_reducible refine Go.tup_go ?_ | with_reducible refine Go.nv_go ?_ | with_reducible refine Go.bin_go ?_ | with_reducible refine Go.slT_go ?_ | with_reducible refine Go.slL_go ?_ | with_reducible refine Go.on_go ?_ | with_reducible refine Go.os_go ?_ | with_reducible refine Go.neg_go ?_ | with_reducible refine Go.sub_go ?_ | with_reducible refine Go.addI_go ?_ | with_reducible refine Go.seqT_go ?_ | with_reducible refine Go.call_go ?_ | with_reducible refine Go.callK_go ?_ | with_reducible refine Go.cb_go ?_ | with_reducible refine Go.dict1_go ?_ | with_reducible refine Go.if_go ?_ | with_reducible refine Go.an_go ?_ | with_reducible refine Go.ac_go ?_ | with_reducible refine Go.mv_go ?_ | with_reducible refine Go.par_go ?_ | with_reducible refine Go.sq_go ?_ | with_reducible refine Go.set_go ?_ | with_reducible refine Go.setN_go ?_ | with_reducible refine Go.ret_go ?_ | with_reducible refine Go.asg_go ?_ | with_reducible refine Go.ifs_go ?_ | with_reducible refine Go.next_go ?_ | with_reducible refine Go.nm_go ?_ | with_reducible refine Go.cmp_go ?_ | with_reducible refine Go.tv_go ?_ | with_reducible refine Go.not_go ?_ | with_reducible refine Go.and_go ?_ | with_reducible refine Go.or_go ?_ | with_reducible refine Go.lenT_go ?_ | with_reducible refine Go.lenL_go ?_ | with_reducible refine Go.absI_go ?_ | with_reducible refine Go.intI_go ?_ | with_reducible refine Go.max2_go ?_ | with_reducible refine Go.min2_go ?_ | with_reducible refine Go.tupL_go ?_ | with_reducible refine Go.tupT_go ?_ | with_reducible refine Go.gv_go ?_ | with_reducible refine Go.ltI_go ?_ | with_reducible refine Go.leI_go ?_ | with_reducible refine Go.gtI_go ?_ | with_reducible refine Go.geI_go ?_ | with_reducible refine Go.eqI_go ?_ | with_reducible refine Go.neI_go ?_ | with_reducible refine Go.eqS_go ?_ | with_reducible refine Go.rng1_go ?_ | ((first | with_reducible apply Go.ixL_go | with_reducible apply Go.ixT_go); first | exact DL.at0 _ _ | exact DL.at1 _ _ _ | exact DL.at2 _ _ _ _ | exact DL.at3 _ _ _ _ _ | exact DL.at4 _ _ _ _ _ _) | ((with_reducible apply Go.frz_go); exact rfl) | ((with_reducible apply Go.frz_sh); exact rfl) | with_reducible refine Go.mn_go ?_ | with_reducible refine Go.andV_go ?_ | ((first | with_reducible apply Go.sqT_go | with_reducible apply Go.sqL_go); exact rfl) | with_reducible refine Go.gsC_go ?_ | with_reducible refine Go.gsN_go ?_ | with_reducible refine Go.ifT (by decide +kernel) ?_ | with_reducible refine Go.ifF (by decide +kernel) ?_ | with_reducible refine Go.cat_go ?_ | with_reducible refine Go.callO_go ?_ | ((with_reducible apply Go.retO_go); exact rfl) | with_reducible refine Go.retN_go ?_ | with_reducible refine Go.ifN_go ?_ | with_reducible refine Go.yes_go ?_ | with_reducible refine Go.isI_go ?_ | with_reducible refine Go.isB_go ?_ | with_reducible refine Go.isN_go ?_ | with_reducible refine Go.notN_go ?_ | with_reducible refine Go.lrev_go ?_ | with_reducible refine Go.bk_go ?_ | with_reducible refine Go.ct_go ?_ | with_reducible refine Go.rng2_go ?_ | with_reducible refine Go.orV_go ?_ | with_reducible refine Go.notV_go ?_ | ((with_reducible apply Go.extT_go); exact rfl) | with_reducible refine Go.isI2_go ?_ | with_reducible refine Go.dict2_go ?_ | with_reducible refine Go.callE_go ?_ | with_reducible refine Go.callEK_go ?_ | ((with_reducible apply Go.callX_go); exact rfl) | with_reducible refine Go.raise0_go ?_ | with_reducible refine Go.raise1_go ?_ | ((with_reducible apply Go.is1_go); exact rfl) | ((with_reducible apply Go.isT_go); exact rfl) | ((with_reducible apply Go.fld_go); exact rfl) | ((with_reducible apply Go.setIx_go); exact rfl) | unfold fForS | unfold fLc | dsimp only [seqOf, List.set_cons_zero, List.set_cons_succ, setAll, wipeE])))
theorem r_common : ∀ ss (Q : D → Prop), S_common ss Q → g_common (endsOf Q) (initE N_common ss) := by
  rintro ss Q ⟨_, ⟨i, j, rfl, hi, hj⟩, hq⟩
  have hq' := fun d e => hq d ⟨i, j, rfl, e⟩
  simp only [N_common, initE, List.length_cons, List.length_nil, Nat.reduceAdd, Nat.reduceSub, List.replicate, List.cons_append, List.nil_append, List.append_nil]
  simp only [g_common, fSeqS, fSet, fSetN, fRet, fIfS, fNext, fBreak, fCont, fNever, fBin, fCmp, fV, fN, fC, lk, lk_z, lk_s, gAdd, gSub, gMul, gDiv, gMod, gPow, gShl, gShlW, gShr, gv, gLt, gLe, gGt, gGe, gEq, gNe, gIx, fNeg, fTV, fNot, fAnd, fOr, fAndV, fOrV, fNotV, fIf, fLN, fLC, fAN, fAC, fAB, fNV, fTup, fCB, bInt, bAbs, bLen, bMax2, bMin2, bTuple, fSeq, seqOf, fCall, fCallK, fAsg, gNm, gsNil, gsCons, gTpl, gSq, fPar, fMV, fMN, setAll, fApp, fExt, fSetIx, fFrz, fForS, fRng1, fRng2, fBits, fON, fOS, fSlT, fSlL, List.set_cons_zero, List.set_cons_succ, List.length_cons, List.length_nil, endsOf, decide_eq_true_eq, true_and, and_true, at0, at1, at2, at3, at4, Bool.not_eq_true', decide_eq_false_iff_not, lg2, Int.reduceLT, ↓reduceIte]
  refine while_of (fun m ρ => ∃ x y : Int, ρ = [iS x, iS y] ∧ 0 ≤ x ∧ 0 ≤ y ∧ Int.gcd x y = Int.gcd i j ∧ m = y.toNat) ?_ _ _ ⟨i, j, rfl, hi, hj, rfl, rfl⟩
  rintro m ρ ⟨x, y, rfl, hx, hy, hg, rfl⟩ K hK
  simp only [fSeqS, fSet, fSetN, fRet, fIfS, fNext, fBreak, fCont, fNever, fBin, fCmp, fV, fN, fC, lk, lk_z, lk_s, gAdd, gSub, gMul, gDiv, gMod, gPow, gShl, gShlW, gShr, gv, gLt, gLe, gGt, gGe, gEq, gNe, gIx, fNeg, fTV, fNot, fAnd, fOr, fAndV, fOrV, fNotV, fIf, fLN, fLC, fAN, fAC, fAB, fNV, fTup, fCB, bInt, bAbs, bLen, bMax2, bMin2, bTuple, fSeq, seqOf, fCall, fCallK, fAsg, gNm, gsNil, gsCons, gTpl, gSq, fPar, fMV, fMN, setAll, fApp, fExt, fSetIx, fFrz, fForS, fRng1, fRng2, fBits, fON, fOS, fSlT, fSlL, List.set_cons_zero, List.set_cons_succ, List.length_cons, List.length_nil, endsOf, decide_eq_true_eq, true_and, and_true, at0, at1, at2, at3, at4, Bool.not_eq_true', decide_eq_false_iff_not, lg2, Int.reduceLT, ↓reduceIte]
  split
  · rename_i h
    refine hK _ _ ?_ ⟨y, x % y, rfl, hy, Int.emod_nonneg x (by omega), by rw [gcd_emod]; exact hg, rfl⟩
    have := Int.emod_lt_of_pos x h
    have := Int.emod_nonneg x (b := y) (by omega)
    omega
  · refine hq' _ ?_
    have : y = 0 := by omega
    subst this
    rw [← hg]
    simp
    omega
theorem r__law_common : ∀ ss (Q : D → Prop), S__law_common ss Q → g__law_common (endsOf Q) (initE N__law_common ss) := by
  rintro ss Q ⟨_, ⟨i, j, rfl⟩, hq⟩
  have hq' := fun d e => hq d ⟨i, j, rfl, e⟩
  simp only [N__law_common, initE, List.length_cons, List.length_nil, Nat.reduceAdd, Nat.reduceSub, List.replicate, List.cons_append, List.nil_append, List.append_nil]
  simp only [g__law_common, fSeqS, fSet, fSetN, fRet, fIfS, fNext, fBreak, fCont, fNever, fBin, fCmp, fV, fN, fC, lk, lk_z, lk_s, gAdd, gSub, gMul, gDiv, gMod, gPow, gShl, gShlW, gShr, gv, gLt, gLe, gGt, gGe, gEq, gNe, gIx, fNeg, fTV, fNot, fAnd, fOr, fAndV, fOrV, fNotV, fIf, fLN, fLC, fAN, fAC, fAB, fNV, fTup, fCB, bInt, bAbs, bLen, bMax2, bMin2, bTuple, fSeq, seqOf, fCall, fCallK, fAsg, gNm, gsNil, gsCons, gTpl, gSq, fPar, fMV, fMN, setAll, fApp, fExt, fSetIx, fFrz, fForS, fRng1, fRng2, fBits, fON, fOS, fSlT, fSlL, List.set_cons_zero, List.set_cons_succ, List.length_cons, List.length_nil, endsOf, decide_eq_true_eq, true_and, and_true, at0, at1, at2, at3, at4, Bool.not_eq_true', decide_eq_false_iff_not, lg2, Int.reduceLT, ↓reduceIte]
  refine while_of (fun m ρ => ∃ x y : Int, ρ = [iS x, iS y] ∧ Int.gcd x y = Int.gcd i j ∧ m = y.natAbs) ?_ _ _ ⟨i, j, rfl, rfl, rfl⟩
  rintro m ρ ⟨x, y, rfl, hg, rfl⟩ K hK
  simp only [fSeqS, fSet, fSetN, fRet, fIfS, fNext, fBreak, fCont, fNever, fBin, fCmp, fV, fN, fC, lk, lk_z, lk_s, gAdd, gSub, gMul, gDiv, gMod, gPow, gShl, gShlW, gShr, gv, gLt, gLe, gGt, gGe, gEq, gNe, gIx, fNeg, fTV, fNot, fAnd, fOr, fAndV, fOrV, fNotV, fIf, fLN, fLC, fAN, fAC, fAB, fNV, fTup, fCB, bInt, bAbs, bLen, bMax2, bMin2, bTuple, fSeq, seqOf, fCall, fCallK, fAsg, gNm, gsNil, gsCons, gTpl, gSq, fPar, fMV, fMN, setAll, fApp, fExt, fSetIx, fFrz, fForS, fRng1, fRng2, fBits, fON, fOS, fSlT, fSlL, List.set_cons_zero, List.set_cons_succ, List.length_cons, List.length_nil, endsOf, decide_eq_true_eq, true_and, and_true, at0, at1, at2, at3, at4, Bool.not_eq_true', decide_eq_false_iff_not, lg2, Int.reduceLT, ↓reduceIte]
  split
  · rename_i h
    split
    · rename_i h2
      refine hK _ _ ?_ ⟨y, x % y, rfl, by rw [gcd_emod]; exact hg, rfl⟩
      have := Int.emod_lt_of_pos x h2
      have := Int.emod_nonneg x (b := y) (by omega)
      omega
    · exact ⟨h, hK _ _ (fmod_small x (by omega)) ⟨y, x.fmod y, rfl, by rw [gcd_fmod]; exact hg, rfl⟩⟩
  · refine hq' _ ?_
    have : y = 0 := by omega
    subst this
    rw [← hg]
    simp
    split <;> omega
theorem r_whole_root : ∀ ss (Q : D → Prop), S_whole_root ss Q → g_whole_root (endsOf Q) (initE N_whole_root ss) := by
  rintro ss Q ⟨_, ⟨n, rfl, hs⟩, hq⟩
  have hq' := fun r (h : Rn n r) => hq _ ⟨n, r, rfl, rfl, h⟩
  simp only [N_whole_root, initE, List.length_cons, List.length_nil, Nat.reduceAdd, Nat.reduceSub, List.replicate, List.cons_append, List.nil_append, List.append_nil]
  simp only [g_whole_root, fSeqS, fSet, fSetN, fRet, fIfS, fNext, fBreak, fCont, fNever, fBin, fCmp, fV, fN, fC, lk, lk_z, lk_s, gAdd, gSub, gMul, gDiv, gMod, gPow, gShl, gShlW, gShr, gv, gLt, gLe, gGt, gGe, gEq, gNe, gIx, fNeg, fTV, fNot, fAnd, fOr, fAndV, fOrV, fNotV, fIf, fLN, fLC, fAN, fAC, fAB, fNV, fTup, fCB, bInt, bAbs, bLen, bMax2, bMin2, bTuple, fSeq, seqOf, fCall, fCallK, fAsg, gNm, gsNil, gsCons, gTpl, gSq, fPar, fMV, fMN, setAll, fApp, fExt, fSetIx, fFrz, fForS, fRng1, fRng2, fBits, fON, fOS, fSlT, fSlL, List.set_cons_zero, List.set_cons_succ, List.length_cons, List.length_nil, endsOf, decide_eq_true_eq, true_and, and_true, at0, at1, at2, at3, at4, Bool.not_eq_true', decide_eq_false_iff_not, lg2, Int.reduceLT, ↓reduceIte]
  split
  · rename_i h
    exact hq' n (by unfold Rn; rw [if_pos h])
  · rename_i h
    obtain ⟨s, hr⟩ := rt_of (n := n) (by omega)
    obtain ⟨b, e, hb, hb2⟩ := half_bits n (by omega) hs hr
    have p0 := rt_pos hr (by omega)
    rw [e, Int.one_mul, Int.toNat_natCast]
    have hp : (0 : Int) < 2 ^ b := Int.pow_pos (by decide)
    have sb : Sm 970 (2 ^ b - 1) := by
      refine Sm.nat (by omega) ?_
      have : (2 : Int) ^ b ≤ 2 ^ 970 := by exact_mod_cast Nat.pow_le_pow_right (by decide : 0 < 2) hb
      omega
    have lg : ∀ r : Int, 0 < r → r ≤ 2 ^ b → r.natAbs.log2 < 9000 := fun r h0 h1 => by
      refine Sm.log (k := 971) ?_
      refine Sm.nat (by omega) ?_
      have : (2 : Int) ^ b ≤ 2 ^ 970 := by exact_mod_cast Nat.pow_le_pow_right (by decide : 0 < 2) hb
      have : (2 : Int) ^ 971 = 2 ^ 970 * 2 := Int.pow_succ ..
      have : (0 : Int) < 2 ^ 970 := Int.pow_pos (by decide)
      omega
    refine ⟨shl1 (by omega), lg _ hp (Int.le_refl _), ?_⟩
    rw [if_pos hp]
    generalize (2 : Int) ^ b = B at hp lg hb2
    refine while_of (fun m ρ => ∃ r : Int, ρ = [iS n, iS r, iS ((r + n / r) / 2)] ∧ s ≤ r ∧ r ≤ B ∧ m = r.toNat) ?_ _ _ ⟨B, rfl, by omega, Int.le_refl _, rfl⟩
    rintro m ρ ⟨r, rfl, hsr, hrB, rfl⟩ K hK
    have up := rt_up hr (r := r) (by omega)
    simp only [fSeqS, fSet, fSetN, fRet, fIfS, fNext, fBreak, fCont, fNever, fBin, fCmp, fV, fN, fC, lk, lk_z, lk_s, gAdd, gSub, gMul, gDiv, gMod, gPow, gShl, gShlW, gShr, gv, gLt, gLe, gGt, gGe, gEq, gNe, gIx, fNeg, fTV, fNot, fAnd, fOr, fAndV, fOrV, fNotV, fIf, fLN, fLC, fAN, fAC, fAB, fNV, fTup, fCB, bInt, bAbs, bLen, bMax2, bMin2, bTuple, fSeq, seqOf, fCall, fCallK, fAsg, gNm, gsNil, gsCons, gTpl, gSq, fPar, fMV, fMN, setAll, fApp, fExt, fSetIx, fFrz, fForS, fRng1, fRng2, fBits, fON, fOS, fSlT, fSlL, List.set_cons_zero, List.set_cons_succ, List.length_cons, List.length_nil, endsOf, decide_eq_true_eq, true_and, and_true, at0, at1, at2, at3, at4, Bool.not_eq_true', decide_eq_false_iff_not, lg2, Int.reduceLT, ↓reduceIte]
    split
    · rename_i lt
      have p1 : 0 < (r + n / r) / 2 := by omega
      refine ⟨lg _ p1 (by omega), ?_⟩
      rw [if_pos p1]
      exact hK _ _ (by omega) ⟨_, rfl, up, by omega, rfl⟩
    · rename_i ge
      refine hq' _ (rn_of h ?_)
      rw [rt_stop hr (by omega) hsr (by omega)]
      exact hr
theorem r__law_root_of : ∀ ss (Q : D → Prop), S__law_root_of ss Q → g__law_root_of (endsOf Q) (initE N__law_root_of ss) := by
  rintro ss Q ⟨_, ⟨n, rfl, hs⟩, hq⟩
  have hq' := fun r (h : Rn n r) => hq _ ⟨n, r, rfl, rfl, h⟩
  simp only [N__law_root_of, initE, List.length_cons, List.length_nil, Nat.reduceAdd, Nat.reduceSub, List.replicate, List.cons_append, List.nil_append, List.append_nil]
  simp only [g__law_root_of, fSeqS, fSet, fSetN, fRet, fIfS, fNext, fBreak, fCont, fNever, fBin, fCmp, fV, fN, fC, lk, lk_z, lk_s, gAdd, gSub, gMul, gDiv, gMod, gPow, gShl, gShlW, gShr, gv, gLt, gLe, gGt, gGe, gEq, gNe, gIx, fNeg, fTV, fNot, fAnd, fOr, fAndV, fOrV, fNotV, fIf, fLN, fLC, fAN, fAC, fAB, fNV, fTup, fCB, bInt, bAbs, bLen, bMax2, bMin2, bTuple, fSeq, seqOf, fCall, fCallK, fAsg, gNm, gsNil, gsCons, gTpl, gSq, fPar, fMV, fMN, setAll, fApp, fExt, fSetIx, fFrz, fForS, fRng1, fRng2, fBits, fON, fOS, fSlT, fSlL, List.set_cons_zero, List.set_cons_succ, List.length_cons, List.length_nil, endsOf, decide_eq_true_eq, true_and, and_true, at0, at1, at2, at3, at4, Bool.not_eq_true', decide_eq_false_iff_not, lg2, Int.reduceLT, ↓reduceIte]
  split
  · rename_i h
    exact hq' n (by unfold Rn; rw [if_pos h])
  · rename_i h
    obtain ⟨s, hr⟩ := rt_of (n := n) (by omega)
    obtain ⟨b, e, hb, hb2⟩ := half_bits n (by omega) hs hr
    have p0 := rt_pos hr (by omega)
    rw [e, Int.one_mul, Int.toNat_natCast]
    have hp : (0 : Int) < 2 ^ b := Int.pow_pos (by decide)
    have lg : ∀ r : Int, 0 < r → r ≤ 2 ^ b → r.natAbs.log2 < 9000 := fun r h0 h1 => by
      refine Sm.log (k := 971) ?_
      refine Sm.nat (by omega) ?_
      have : (2 : Int) ^ b ≤ 2 ^ 970 := by exact_mod_cast Nat.pow_le_pow_right (by decide : 0 < 2) hb
      have : (2 : Int) ^ 971 = 2 ^ 970 * 2 := Int.pow_succ ..
      have : (0 : Int) < 2 ^ 970 := Int.pow_pos (by decide)
      omega
    have hB : (2 : Int) ^ b ≤ 2 ^ 1999 := by exact_mod_cast Nat.pow_le_pow_right (by decide : 0 < 2) (by omega : b ≤ 1999)
    refine ⟨shl1 (by omega), by decide, by decide, ?_⟩
    generalize (2 : Int) ^ b = B at hp lg hb2 hB
    refine for_of (fun ds ρ => ∃ (r : Int) (t u : Sl), ρ = [iS n, iS r, t, u] ∧ s ≤ r ∧ r ≤ B ∧ 0 < ds.length ∧ r - s < 2 ^ (ds.length - 1)) ?_ ?_ _ _ ⟨B, .un, .un, rfl, by omega, Int.le_refl _, by rw [rng_len]; decide, ?_⟩
    · rintro d ds ρ ⟨r, t, u, rfl, hsr, hrB, _, hlt⟩ K hK
      have up := rt_up hr (r := r) (by omega)
      simp only [fSeqS, fSet, fSetN, fRet, fIfS, fNext, fBreak, fCont, fNever, fBin, fCmp, fV, fN, fC, lk, lk_z, lk_s, gAdd, gSub, gMul, gDiv, gMod, gPow, gShl, gShlW, gShr, gv, gLt, gLe, gGt, gGe, gEq, gNe, gIx, fNeg, fTV, fNot, fAnd, fOr, fAndV, fOrV, fNotV, fIf, fLN, fLC, fAN, fAC, fAB, fNV, fTup, fCB, bInt, bAbs, bLen, bMax2, bMin2, bTuple, fSeq, seqOf, fCall, fCallK, fAsg, gNm, gsNil, gsCons, gTpl, gSq, fPar, fMV, fMN, setAll, fApp, fExt, fSetIx, fFrz, fForS, fRng1, fRng2, fBits, fON, fOS, fSlT, fSlL, List.set_cons_zero, List.set_cons_succ, List.length_cons, List.length_nil, endsOf, decide_eq_true_eq, true_and, and_true, at0, at1, at2, at3, at4, Bool.not_eq_true', decide_eq_false_iff_not, lg2, Int.reduceLT, ↓reduceIte]
      refine ⟨lg _ (by omega) hrB, ?_⟩
      rw [if_pos (by omega : 0 < r)]
      split
      · rename_i ge
        refine hq' _ (rn_of h ?_)
        rw [rt_stop hr (by omega) hsr ge]
        exact hr
      · rename_i lt
        have sr : s < r := by
          apply Classical.byContradiction
          intro c
          have e2 : r = s := by omega
          rw [e2] at lt
          exact lt (rt_up hr p0)
        have hf := rt_half hr sr
        have nz : ds.length ≠ 0 := fun z => by
          rw [List.length_cons, z] at hlt
          have : (2 : Int) ^ (0 + 1 - 1) = 1 := rfl
          omega
        refine hK _ ⟨_, _, _, rfl, up, by omega, by omega, ?_⟩
        rw [List.length_cons] at hlt
        obtain ⟨j, ej⟩ : ∃ j, ds.length = j + 1 := ⟨ds.length - 1, by omega⟩
        rw [ej] at hlt ⊢
        simp only [Nat.add_sub_cancel] at hlt ⊢
        rw [Int.pow_succ] at hlt
        omega
    · rintro ρ ⟨r, t, u, rfl, _, _, h0, _⟩
      exact absurd h0 (by simp)
    · rw [rng_len]
      show B - s < 2 ^ 1999
      omega
theorem go_common {i j : Int} {Q : D → Prop} (hi : 0 ≤ i) (hj : 0 ≤ j) (h : Q (.int (Int.gcd i j : Nat))) : S_common [iS i, iS j] Q :=
  ⟨rfl, ⟨i, j, rfl, hi, hj⟩, fun d ⟨i', j', e, ed⟩ => by
    cases e; rw [ed]; exact h⟩
theorem go__law_common {i j : Int} {Q : D → Prop} (h : Q (.int (Int.gcd i j : Nat))) : S__law_common [iS i, iS j] Q :=
  ⟨rfl, ⟨i, j, rfl⟩, fun d ⟨i', j', e, ed⟩ => by
    cases e; rw [ed]; exact h⟩
theorem g3_log9 {a b c : Int} (hc : 0 < c) (h : Sm 8100 c) : (g3 a b c).natAbs.log2 < 9000 := by
  have : g3 a b c ≤ c := Int.le_of_dvd hc (g3_dvd a b c)
  have g := g3_pos (a := a) (b := b) hc
  refine Sm.log (k := 8100) ?_
  unfold Sm at *
  omega
theorem r_lowest : ∀ ss (Q : D → Prop), S_lowest ss Q → g_lowest (endsOf Q) (initE N_lowest ss) := by
  rintro ss Q ⟨⟨a, b, c, d⟩, rfl, ⟨hc, h1, h2, h3⟩, hq⟩
  have hc : c ≠ 0 := hc
  have h3 : Sm 8100 c := h3
  have hq : Q (nrmZ a b c d).D := hq
  have aa : ∀ i : Int, 0 ≤ (if i < 0 then -i else i) := fun i => by split <;> omega
  simp only [N_lowest, ar4, initE, List.length_cons, List.length_nil, Nat.reduceAdd, Nat.reduceSub, List.replicate, List.cons_append, List.nil_append, List.append_nil]
  simp only [g_lowest, fSeqS, fSet, fSetN, fRet, fIfS, fNext, fBreak, fCont, fNever, fBin, fCmp, fV, fN, fC, lk, lk_z, lk_s, gAdd, gSub, gMul, gDiv, gMod, gPow, gShl, gShlW, gShr, gv, gLt, gLe, gGt, gGe, gEq, gNe, gIx, fNeg, fTV, fNot, fAnd, fOr, fAndV, fOrV, fNotV, fIf, fLN, fLC, fAN, fAC, fAB, fNV, fTup, fCB, bInt, bAbs, bLen, bMax2, bMin2, bTuple, fSeq, seqOf, fCall, fCallK, fAsg, gNm, gsNil, gsCons, gTpl, gSq, fPar, fMV, fMN, setAll, fApp, fExt, fSetIx, fFrz, fForS, fRng1, fRng2, fBits, fON, fOS, fSlT, fSlL, List.set_cons_zero, List.set_cons_succ, List.length_cons, List.length_nil, endsOf, decide_eq_true_eq, true_and, and_true, at0, at1, at2, at3, at4, Bool.not_eq_true', decide_eq_false_iff_not, lg2, Int.reduceLT, ↓reduceIte]
  unfold nrmZ at hq
  split
  · rename_i hn
    rw [if_pos hn] at hq
    refine go_common (aa _) (aa _) ?_
    try simp only [fSeqS, fSet, fSetN, fRet, fIfS, fNext, fBreak, fCont, fNever, fBin, fCmp, fV, fN, fC, lk, lk_z, lk_s, gAdd, gSub, gMul, gDiv, gMod, gPow, gShl, gShlW, gShr, gv, gLt, gLe, gGt, gGe, gEq, gNe, gIx, fNeg, fTV, fNot, fAnd, fOr, fAndV, fOrV, fNotV, fIf, fLN, fLC, fAN, fAC, fAB, fNV, fTup, fCB, bInt, bAbs, bLen, bMax2, bMin2, bTuple, fSeq, seqOf, fCall, fCallK, fAsg, gNm, gsNil, gsCons, gTpl, gSq, fPar, fMV, fMN, setAll, fApp, fExt, fSetIx, fFrz, fForS, fRng1, fRng2, fBits, fON, fOS, fSlT, fSlL, List.set_cons_zero, List.set_cons_succ, List.length_cons, List.length_nil, endsOf, decide_eq_true_eq, true_and, and_true, at0, at1, at2, at3, at4, Bool.not_eq_true', decide_eq_false_iff_not, lg2, Int.reduceLT, ↓reduceIte]
    refine go_common (by omega) (by omega) ?_
    try simp only [fSeqS, fSet, fSetN, fRet, fIfS, fNext, fBreak, fCont, fNever, fBin, fCmp, fV, fN, fC, lk, lk_z, lk_s, gAdd, gSub, gMul, gDiv, gMod, gPow, gShl, gShlW, gShr, gv, gLt, gLe, gGt, gGe, gEq, gNe, gIx, fNeg, fTV, fNot, fAnd, fOr, fAndV, fOrV, fNotV, fIf, fLN, fLC, fAN, fAC, fAB, fNV, fTup, fCB, bInt, bAbs, bLen, bMax2, bMin2, bTuple, fSeq, seqOf, fCall, fCallK, fAsg, gNm, gsNil, gsCons, gTpl, gSq, fPar, fMV, fMN, setAll, fApp, fExt, fSetIx, fFrz, fForS, fRng1, fRng2, fBits, fON, fOS, fSlT, fSlL, List.set_cons_zero, List.set_cons_succ, List.length_cons, List.length_nil, endsOf, decide_eq_true_eq, true_and, and_true, at0, at1, at2, at3, at4, Bool.not_eq_true', decide_eq_false_iff_not, lg2, Int.reduceLT, ↓reduceIte]
    rw [g3_abs (-a) (-b) (-c) (by omega)]
    have g := g3_pos (a := -a) (b := -b) (c := -c) (by omega)
    have gl := g3_log9 (a := -a) (b := -b) (c := -c) (by omega) h3.neg
    simp only [g, gl, true_and, ↓reduceIte]
    have := fin4 hq
    exact this
  · rename_i hn
    rw [if_neg hn] at hq
    refine go_common (aa _) (aa _) ?_
    try simp only [fSeqS, fSet, fSetN, fRet, fIfS, fNext, fBreak, fCont, fNever, fBin, fCmp, fV, fN, fC, lk, lk_z, lk_s, gAdd, gSub, gMul, gDiv, gMod, gPow, gShl, gShlW, gShr, gv, gLt, gLe, gGt, gGe, gEq, gNe, gIx, fNeg, fTV, fNot, fAnd, fOr, fAndV, fOrV, fNotV, fIf, fLN, fLC, fAN, fAC, fAB, fNV, fTup, fCB, bInt, bAbs, bLen, bMax2, bMin2, bTuple, fSeq, seqOf, fCall, fCallK, fAsg, gNm, gsNil, gsCons, gTpl, gSq, fPar, fMV, fMN, setAll, fApp, fExt, fSetIx, fFrz, fForS, fRng1, fRng2, fBits, fON, fOS, fSlT, fSlL, List.set_cons_zero, List.set_cons_succ, List.length_cons, List.length_nil, endsOf, decide_eq_true_eq, true_and, and_true, at0, at1, at2, at3, at4, Bool.not_eq_true', decide_eq_false_iff_not, lg2, Int.reduceLT, ↓reduceIte]
    refine go_common (by omega) (by omega) ?_
    try simp only [fSeqS, fSet, fSetN, fRet, fIfS, fNext, fBreak, fCont, fNever, fBin, fCmp, fV, fN, fC, lk, lk_z, lk_s, gAdd, gSub, gMul, gDiv, gMod, gPow, gShl, gShlW, gShr, gv, gLt, gLe, gGt, gGe, gEq, gNe, gIx, fNeg, fTV, fNot, fAnd, fOr, fAndV, fOrV, fNotV, fIf, fLN, fLC, fAN, fAC, fAB, fNV, fTup, fCB, bInt, bAbs, bLen, bMax2, bMin2, bTuple, fSeq, seqOf, fCall, fCallK, fAsg, gNm, gsNil, gsCons, gTpl, gSq, fPar, fMV, fMN, setAll, fApp, fExt, fSetIx, fFrz, fForS, fRng1, fRng2, fBits, fON, fOS, fSlT, fSlL, List.set_cons_zero, List.set_cons_succ, List.length_cons, List.length_nil, endsOf, decide_eq_true_eq, true_and, and_true, at0, at1, at2, at3, at4, Bool.not_eq_true', decide_eq_false_iff_not, lg2, Int.reduceLT, ↓reduceIte]
    rw [g3_abs a b c (by omega)]
    have g := g3_pos (a := a) (b := b) (c := c) (by omega)
    have gl := g3_log9 (a := a) (b := b) (c := c) (by omega) h3
    simp only [g, gl, true_and, ↓reduceIte]
    exact fin4 hq
theorem r__law_surd : ∀ ss (Q : D → Prop), S__law_surd ss Q → g__law_surd (endsOf Q) (initE N__law_surd ss) := by
  rintro ss Q ⟨⟨a, b, c, d⟩, rfl, ⟨hc, h1, h2, h3⟩, hq⟩
  have hc : c ≠ 0 := hc
  have h3 : Sm 8100 c := h3
  have hq : Q (nrmZ a b c d).D := hq
  simp only [N__law_surd, ar4, initE, List.length_cons, List.length_nil, Nat.reduceAdd, Nat.reduceSub, List.replicate, List.cons_append, List.nil_append, List.append_nil]
  simp only [g__law_surd, fSeqS, fSet, fSetN, fRet, fIfS, fNext, fBreak, fCont, fNever, fBin, fCmp, fV, fN, fC, lk, lk_z, lk_s, gAdd, gSub, gMul, gDiv, gMod, gPow, gShl, gShlW, gShr, gv, gLt, gLe, gGt, gGe, gEq, gNe, gIx, fNeg, fTV, fNot, fAnd, fOr, fAndV, fOrV, fNotV, fIf, fLN, fLC, fAN, fAC, fAB, fNV, fTup, fCB, bInt, bAbs, bLen, bMax2, bMin2, bTuple, fSeq, seqOf, fCall, fCallK, fAsg, gNm, gsNil, gsCons, gTpl, gSq, fPar, fMV, fMN, setAll, fApp, fExt, fSetIx, fFrz, fForS, fRng1, fRng2, fBits, fON, fOS, fSlT, fSlL, List.set_cons_zero, List.set_cons_succ, List.length_cons, List.length_nil, endsOf, decide_eq_true_eq, true_and, and_true, at0, at1, at2, at3, at4, Bool.not_eq_true', decide_eq_false_iff_not, lg2, Int.reduceLT, ↓reduceIte]
  refine go__law_common ?_
  try simp only [fSeqS, fSet, fSetN, fRet, fIfS, fNext, fBreak, fCont, fNever, fBin, fCmp, fV, fN, fC, lk, lk_z, lk_s, gAdd, gSub, gMul, gDiv, gMod, gPow, gShl, gShlW, gShr, gv, gLt, gLe, gGt, gGe, gEq, gNe, gIx, fNeg, fTV, fNot, fAnd, fOr, fAndV, fOrV, fNotV, fIf, fLN, fLC, fAN, fAC, fAB, fNV, fTup, fCB, bInt, bAbs, bLen, bMax2, bMin2, bTuple, fSeq, seqOf, fCall, fCallK, fAsg, gNm, gsNil, gsCons, gTpl, gSq, fPar, fMV, fMN, setAll, fApp, fExt, fSetIx, fFrz, fForS, fRng1, fRng2, fBits, fON, fOS, fSlT, fSlL, List.set_cons_zero, List.set_cons_succ, List.length_cons, List.length_nil, endsOf, decide_eq_true_eq, true_and, and_true, at0, at1, at2, at3, at4, Bool.not_eq_true', decide_eq_false_iff_not, lg2, Int.reduceLT, ↓reduceIte]
  refine go__law_common ?_
  try simp only [fSeqS, fSet, fSetN, fRet, fIfS, fNext, fBreak, fCont, fNever, fBin, fCmp, fV, fN, fC, lk, lk_z, lk_s, gAdd, gSub, gMul, gDiv, gMod, gPow, gShl, gShlW, gShr, gv, gLt, gLe, gGt, gGe, gEq, gNe, gIx, fNeg, fTV, fNot, fAnd, fOr, fAndV, fOrV, fNotV, fIf, fLN, fLC, fAN, fAC, fAB, fNV, fTup, fCB, bInt, bAbs, bLen, bMax2, bMin2, bTuple, fSeq, seqOf, fCall, fCallK, fAsg, gNm, gsNil, gsCons, gTpl, gSq, fPar, fMV, fMN, setAll, fApp, fExt, fSetIx, fFrz, fForS, fRng1, fRng2, fBits, fON, fOS, fSlT, fSlL, List.set_cons_zero, List.set_cons_succ, List.length_cons, List.length_nil, endsOf, decide_eq_true_eq, true_and, and_true, at0, at1, at2, at3, at4, Bool.not_eq_true', decide_eq_false_iff_not, lg2, Int.reduceLT, ↓reduceIte]
  have e : ((Int.gcd ((Int.gcd a b : Nat) : Int) c : Nat) : Int) = g3 a b c := rfl
  rw [e]
  unfold nrmZ at hq
  split
  · rename_i hp
    rw [if_neg (by omega)] at hq
    have g := g3_pos (a := a) (b := b) hp
    have gl := g3_log9 (a := a) (b := b) hp h3
    simp only [g, gl, true_and, ↓reduceIte]
    exact fin4 hq
  · rename_i hp
    rw [if_pos (by omega)] at hq
    have g := g3_pos (a := -a) (b := -b) (c := -c) (by omega)
    have gl := g3_log9 (a := -a) (b := -b) (c := -c) (by omega) h3.neg
    have eg := g3_neg a b c
    rw [eg] at g gl
    have gn : (-g3 a b c).natAbs.log2 < 9000 := by rw [Int.natAbs_neg]; exact gl
    have np : ¬ 0 < -g3 a b c := by omega
    have nz : -g3 a b c ≠ 0 := by omega
    have := fin4 hq
    rw [eg] at this
    simp only [gn, np, ↓reduceIte, true_and, fdiv_neg' _ g]
    refine ⟨nz, nz, nz, ?_⟩
    by_cases hb : b = 0
    · rw [if_neg (by omega)] at this ⊢
      exact this
    · rw [if_pos (by omega)] at this ⊢
      exact this
theorem go_lowest (s : S4) {Q : D → Prop} (h : okZ s) (hq : Q (nrmZ s.a s.b s.c s.d).D) : S_lowest [iS s.a, iS s.b, iS s.c, iS s.d] Q := ⟨s, rfl, h, hq⟩
theorem go__law_surd (s : S4) {Q : D → Prop} (h : okZ s) (hq : Q (nrmZ s.a s.b s.c s.d).D) : S__law_surd [iS s.a, iS s.b, iS s.c, iS s.d] Q := ⟨s, rfl, h, hq⟩
theorem r_surd_sum : ∀ ss (Q : D → Prop), S_surd_sum ss Q → g_surd_sum (endsOf Q) (initE N_surd_sum ss) := by
  rintro ss Q ⟨⟨s, t⟩, rfl, ⟨h, k⟩, hq⟩
  have h : Bd 4000 s := h
  have k : Bd 4000 t := k
  have hq : Q (sumS s t).D := hq
  have c0 : 0 < s.c * t.c := Int.mul_pos h.c0 k.c0
  simp only [N_surd_sum, arT, D4, initE, List.length_cons, List.length_nil, Nat.reduceAdd, Nat.reduceSub, List.replicate, List.cons_append, List.nil_append, List.append_nil]
  simp only [g_surd_sum, fSeqS, fSet, fSetN, fRet, fIfS, fNext, fBreak, fCont, fNever, fBin, fCmp, fV, fN, fC, lk, lk_z, lk_s, gAdd, gSub, gMul, gDiv, gMod, gPow, gShl, gShlW, gShr, gv, gLt, gLe, gGt, gGe, gEq, gNe, gIx, fNeg, fTV, fNot, fAnd, fOr, fAndV, fOrV, fNotV, fIf, fLN, fLC, fAN, fAC, fAB, fNV, fTup, fCB, bInt, bAbs, bLen, bMax2, bMin2, bTuple, fSeq, seqOf, fCall, fCallK, fAsg, gNm, gsNil, gsCons, gTpl, gSq, fPar, fMV, fMN, setAll, fApp, fExt, fSetIx, fFrz, fForS, fRng1, fRng2, fBits, fON, fOS, fSlT, fSlL, List.set_cons_zero, List.set_cons_succ, List.length_cons, List.length_nil, endsOf, decide_eq_true_eq, true_and, and_true, at0, at1, at2, at3, at4, Bool.not_eq_true', decide_eq_false_iff_not, lg2, Int.reduceLT, ↓reduceIte]
  refine ⟨mw h.a k.c, mw k.a h.c, mw h.b k.c, mw k.b h.c, mw h.c k.c, ?_⟩
  refine go_lowest ⟨s.a * t.c + t.a * s.c, s.b * t.c + t.b * s.c, s.c * t.c, mx s.d t.d⟩ ⟨by show s.c * t.c ≠ 0; omega, ((h.a.mul k.c).add (k.a.mul h.c)).le (by omega), ((h.b.mul k.c).add (k.b.mul h.c)).le (by omega), (h.c.mul k.c).le (by omega)⟩ ?_
  rw [nrmZ_pos c0]
  exact hq
theorem r_surd_times : ∀ ss (Q : D → Prop), S_surd_times ss Q → g_surd_times (endsOf Q) (initE N_surd_times ss) := by
  rintro ss Q ⟨⟨s, t⟩, rfl, ⟨h, k⟩, hq⟩
  have h : Bd 4000 s := h
  have k : Bd 4000 t := k
  have hq : Q (mulS s t).D := hq
  obtain ⟨d0, d1⟩ := mx_ok h.d0 h.d k.d0 k.d
  have c0 : 0 < s.c * t.c := Int.mul_pos h.c0 k.c0
  simp only [N_surd_times, arT, D4, initE, List.length_cons, List.length_nil, Nat.reduceAdd, Nat.reduceSub, List.replicate, List.cons_append, List.nil_append, List.append_nil]
  simp only [g_surd_times, fSeqS, fSet, fSetN, fRet, fIfS, fNext, fBreak, fCont, fNever, fBin, fCmp, fV, fN, fC, lk, lk_z, lk_s, gAdd, gSub, gMul, gDiv, gMod, gPow, gShl, gShlW, gShr, gv, gLt, gLe, gGt, gGe, gEq, gNe, gIx, fNeg, fTV, fNot, fAnd, fOr, fAndV, fOrV, fNotV, fIf, fLN, fLC, fAN, fAC, fAB, fNV, fTup, fCB, bInt, bAbs, bLen, bMax2, bMin2, bTuple, fSeq, seqOf, fCall, fCallK, fAsg, gNm, gsNil, gsCons, gTpl, gSq, fPar, fMV, fMN, setAll, fApp, fExt, fSetIx, fFrz, fForS, fRng1, fRng2, fBits, fON, fOS, fSlT, fSlL, List.set_cons_zero, List.set_cons_succ, List.length_cons, List.length_nil, endsOf, decide_eq_true_eq, true_and, and_true, at0, at1, at2, at3, at4, Bool.not_eq_true', decide_eq_false_iff_not, lg2, Int.reduceLT, ↓reduceIte]
  refine ⟨mw h.a k.a, mw h.b k.b, mw (h.b.mul k.b) d1, mw h.a k.b, mw h.b k.a, mw h.c k.c, ?_⟩
  refine go_lowest ⟨s.a * t.a + s.b * t.b * mx s.d t.d, s.a * t.b + s.b * t.a, s.c * t.c, mx s.d t.d⟩ ⟨by show s.c * t.c ≠ 0; omega, ((((h.a.mul k.a).le (l := 8050) (by omega)).add (((h.b.mul k.b).mul d1).le (by omega)))).le (by omega), ((h.a.mul k.b).add ((h.b.mul k.a).le (by omega))).le (by omega), (h.c.mul k.c).le (by omega)⟩ ?_
  rw [nrmZ_pos c0]
  exact hq
theorem r_surd_turned : ∀ ss (Q : D → Prop), S_surd_turned ss Q → g_surd_turned (endsOf Q) (initE N_surd_turned ss) := by
  rintro ss Q ⟨s, rfl, _, hq⟩
  have hq : Q (negS s).D := hq
  simp only [N_surd_turned, arS, D4, initE, List.length_cons, List.length_nil, Nat.reduceAdd, Nat.reduceSub, List.replicate, List.cons_append, List.nil_append, List.append_nil]
  simp only [g_surd_turned, fSeqS, fSet, fSetN, fRet, fIfS, fNext, fBreak, fCont, fNever, fBin, fCmp, fV, fN, fC, lk, lk_z, lk_s, gAdd, gSub, gMul, gDiv, gMod, gPow, gShl, gShlW, gShr, gv, gLt, gLe, gGt, gGe, gEq, gNe, gIx, fNeg, fTV, fNot, fAnd, fOr, fAndV, fOrV, fNotV, fIf, fLN, fLC, fAN, fAC, fAB, fNV, fTup, fCB, bInt, bAbs, bLen, bMax2, bMin2, bTuple, fSeq, seqOf, fCall, fCallK, fAsg, gNm, gsNil, gsCons, gTpl, gSq, fPar, fMV, fMN, setAll, fApp, fExt, fSetIx, fFrz, fForS, fRng1, fRng2, fBits, fON, fOS, fSlT, fSlL, List.set_cons_zero, List.set_cons_succ, List.length_cons, List.length_nil, endsOf, decide_eq_true_eq, true_and, and_true, at0, at1, at2, at3, at4, Bool.not_eq_true', decide_eq_false_iff_not, lg2, Int.reduceLT, ↓reduceIte]
  exact hq
theorem r_other_root : ∀ ss (Q : D → Prop), S_other_root ss Q → g_other_root (endsOf Q) (initE N_other_root ss) := by
  rintro ss Q ⟨s, rfl, _, hq⟩
  have hq : Q (othS s).D := hq
  simp only [N_other_root, arS, D4, initE, List.length_cons, List.length_nil, Nat.reduceAdd, Nat.reduceSub, List.replicate, List.cons_append, List.nil_append, List.append_nil]
  simp only [g_other_root, fSeqS, fSet, fSetN, fRet, fIfS, fNext, fBreak, fCont, fNever, fBin, fCmp, fV, fN, fC, lk, lk_z, lk_s, gAdd, gSub, gMul, gDiv, gMod, gPow, gShl, gShlW, gShr, gv, gLt, gLe, gGt, gGe, gEq, gNe, gIx, fNeg, fTV, fNot, fAnd, fOr, fAndV, fOrV, fNotV, fIf, fLN, fLC, fAN, fAC, fAB, fNV, fTup, fCB, bInt, bAbs, bLen, bMax2, bMin2, bTuple, fSeq, seqOf, fCall, fCallK, fAsg, gNm, gsNil, gsCons, gTpl, gSq, fPar, fMV, fMN, setAll, fApp, fExt, fSetIx, fFrz, fForS, fRng1, fRng2, fBits, fON, fOS, fSlT, fSlL, List.set_cons_zero, List.set_cons_succ, List.length_cons, List.length_nil, endsOf, decide_eq_true_eq, true_and, and_true, at0, at1, at2, at3, at4, Bool.not_eq_true', decide_eq_false_iff_not, lg2, Int.reduceLT, ↓reduceIte]
  exact hq
theorem go_surd_sum (s t : S4) {Q : D → Prop} (h : Bd 4000 s) (k : Bd 4000 t) (hq : Q (sumS s t).D) : S_surd_sum [.sh s.D, .sh t.D] Q := ⟨(s, t), rfl, ⟨h, k⟩, hq⟩
theorem go_surd_times (s t : S4) {Q : D → Prop} (h : Bd 4000 s) (k : Bd 4000 t) (hq : Q (mulS s t).D) : S_surd_times [.sh s.D, .sh t.D] Q := ⟨(s, t), rfl, ⟨h, k⟩, hq⟩
theorem go_surd_turned (s : S4) {Q : D → Prop} (hq : Q (negS s).D) : S_surd_turned [.sh s.D] Q := ⟨s, rfl, trivial, hq⟩
theorem go_other_root (s : S4) {Q : D → Prop} (hq : Q (othS s).D) : S_other_root [.sh s.D] Q := ⟨s, rfl, trivial, hq⟩
theorem r_is_integer : ∀ ss (Q : D → Prop), S_is_integer ss Q → g_is_integer (endsOf Q) (initE N_is_integer ss) := by
  rintro ss Q ⟨d, rfl, _, hq⟩
  have hq : Q (.bool (isInt d)) := hq
  unfold isInt at hq
  simp only [N_is_integer, arD, initE, List.length_cons, List.length_nil, Nat.reduceAdd, Nat.reduceSub, List.replicate, List.cons_append, List.nil_append, List.append_nil]
  simp only [g_is_integer, fSeqS, fSet, fSetN, fRet, fIfS, fNext, fBreak, fCont, fNever, fBin, fCmp, fV, fN, fC, lk, lk_z, lk_s, gAdd, gSub, gMul, gDiv, gMod, gPow, gShl, gShlW, gShr, gv, gLt, gLe, gGt, gGe, gEq, gNe, gIx, fNeg, fTV, fNot, fAnd, fOr, fAndV, fOrV, fNotV, fIf, fLN, fLC, fAN, fAC, fAB, fNV, fTup, fCB, bInt, bAbs, bLen, bMax2, bMin2, bTuple, fSeq, seqOf, fCall, fCallK, fAsg, gNm, gsNil, gsCons, gTpl, gSq, fPar, fMV, fMN, setAll, fApp, fExt, fSetIx, fFrz, fForS, fRng1, fRng2, fBits, fON, fOS, fSlT, fSlL, List.set_cons_zero, List.set_cons_succ, List.length_cons, List.length_nil, endsOf, decide_eq_true_eq, true_and, and_true, at0, at1, at2, at3, at4, Bool.not_eq_true', decide_eq_false_iff_not, lg2, Int.reduceLT, ↓reduceIte, fIsI]
  generalize isB (tyN d) "int" = x at hq ⊢
  generalize isB (tyN d) "bool" = y at hq ⊢
  cases x <;> cases y <;> exact hq
theorem go_is_integer {d : D} {Q : D → Prop} (hq : Q (.bool (isInt d))) : S_is_integer [.sh d] Q := ⟨d, rfl, trivial, hq⟩
theorem isInt_int (i : Int) : isInt (.int i) = true := by
  show (isB "int" "int" && !isB "int" "bool") = true
  decide
theorem isInt_of {d : D} (h : isInt d = true) : ∃ i, d = .int i := by
  cases d <;> first | exact ⟨_, rfl⟩ | (revert h; simp [isInt, isB, tyN])
theorem isTup_of {d : D} (h : isB (tyN d) "tuple" = true) : ∃ ds, d = .tuple ds := by
  cases d <;> first | exact ⟨_, rfl⟩ | (revert h; simp [isB, tyN])
theorem isTup_tup (ds : List D) : isB (tyN (.tuple ds)) "tuple" = true := by
  show isB "tuple" "tuple" = true
  decide
theorem isTup_not {d : D} (h : isB (tyN d) "tuple" = false) : ∀ ds, d ≠ .tuple ds := fun ds e => by
  rw [e, isTup_tup] at h
  cases h
theorem r_is_tuple : ∀ ss (Q : D → Prop), S_is_tuple ss Q → g_is_tuple (endsOf Q) (initE N_is_tuple ss) := by
  rintro ss Q ⟨d, rfl, _, hq⟩
  have hq : Q (.bool (tup4 d)) := hq
  simp only [N_is_tuple, initE, List.length_cons, List.length_nil, Nat.reduceAdd, Nat.reduceSub, List.replicate, List.cons_append, List.nil_append, List.append_nil]
  simp only [g_is_tuple, fSeqS, fSet, fSetN, fRet, fIfS, fNext, fBreak, fCont, fNever, fBin, fCmp, fV, fN, fC, lk, lk_z, lk_s, gAdd, gSub, gMul, gDiv, gMod, gPow, gShl, gShlW, gShr, gv, gLt, gLe, gGt, gGe, gEq, gNe, gIx, fNeg, fTV, fNot, fAnd, fOr, fAndV, fOrV, fNotV, fIf, fLN, fLC, fAN, fAC, fAB, fNV, fTup, fCB, bInt, bAbs, bLen, bMax2, bMin2, bTuple, fSeq, seqOf, fCall, fCallK, fAsg, gNm, gsNil, gsCons, gTpl, gSq, fPar, fMV, fMN, setAll, fApp, fExt, fSetIx, fFrz, fForS, fRng1, fRng2, fBits, fON, fOS, fSlT, fSlL, List.set_cons_zero, List.set_cons_succ, List.length_cons, List.length_nil, endsOf, decide_eq_true_eq, true_and, and_true, at0, at1, at2, at3, at4, Bool.not_eq_true', decide_eq_false_iff_not, lg2, Int.reduceLT, ↓reduceIte, fIsI]
  by_cases ht : isB (tyN d) "tuple" = true
  · obtain ⟨ds, rfl⟩ := isTup_of ht
    rw [ht]
    have e : tup4 (.tuple ds) = decide ((ds.length : Int) = 4) := by
      show (ds.length == 4) = _
      by_cases h : ds.length = 4
      · rw [h]; rfl
      · rw [decide_eq_false (by omega)]
        simpa using h
    rw [e] at hq
    exact hq
  · have ht : isB (tyN d) "tuple" = false := by simpa using ht
    rw [ht]
    have e : tup4 d = false := by
      cases d with
      | tuple ds => exact absurd rfl (isTup_not ht ds)
      | _ => rfl
    rw [e] at hq
    exact hq
theorem go_is_tuple {d : D} {Q : D → Prop} (hq : Q (.bool (tup4 d))) : S_is_tuple [.sh d, iS 4] Q := ⟨d, rfl, trivial, hq⟩
end T
end DL
namespace DL
namespace T
open PySem L2 PySem.Spec PyProof.Rows
local macro_rules
  | `(tactic| get_elem_tactic_extensible) => `(tactic| (repeat (first | with_reducible refine Go.lc_go ?_ | with_reducible refine Go.ln_go ?_ | ((with_reducible apply Go.v_sh); exact rfl) | ((with_reducible apply Go.n_sh); exact rfl) | ((with_reducible apply Go.n_ow); exact rfl) | ((with_reducible apply Go.ab_go); exact rfl) | ((with_reducible apply Go.app_go); exact rfl) | ((with_reducible apply Go.ext_go); exact rfl) | with_reducible refine Go.c_go ?_ | with_reducible refine Go.tup_go ?_ | with_reducible refine Go.nv_go ?_ | with_reducible refine Go.bin_go ?_ | with_reducible refine Go.slT_go ?_ | with_reducible refine Go.slL_go ?_ | with_reducible refine Go.on_go ?_ | with_reducible refine Go.os_go ?_ | with_reducible refine Go.neg_go ?_ | with_reducible refine Go.sub_go ?_ | with_reducible refine Go.addI_go ?_ | with_reducible refine Go.seqT_go ?_ | with_reducible refine Go.call_go ?_ | with_reducible refine Go.callK_go ?_ | with_reducible refine Go.cb_go ?_ | with_reducible refine Go.dict1_go ?_ | with_reducible refine Go.if_go ?_ | with_reducible refine Go.an_go ?_ | with_reducible refine Go.ac_go ?_ | with_reducible refine Go.mv_go ?_ | with_reducible refine Go.par_go ?_ | with_reducible refine Go.sq_go ?_ | with_reducible refine Go.set_go ?_ | with_reducible refine Go.setN_go ?_ | with_reducible refine Go.ret_go ?_ | with_reducible refine Go.asg_go ?_ | with_reducible refine Go.ifs_go ?_ | with_reducible refine Go.next_go ?_ | with_reducible refine Go.nm_go ?_ | with_reducible refine Go.cmp_go ?_ | with_reducible refine Go.tv_go ?_ | with_reducible refine Go.not_go ?_ | with_reducible refine Go.and_go ?_ | with_reducible refine Go.or_go ?_ | with_reducible refine Go.lenT_go ?_ | with_reducible refine Go.lenL_go ?_ | with_reducible refine Go.absI_go ?_ | with_reducible refine Go.intI_go ?_ | with_reducible refine Go.max2_go ?_ | with_reducible refine Go.min2_go ?_ | with_reducible refine Go.tupL_go ?_ | with_reducible refine Go.tupT_go ?_ | with_reducible refine Go.gv_go ?_ | with_reducible refine Go.ltI_go ?_ | with_reducible refine Go.leI_go ?_ | with_reducible refine Go.gtI_go ?_ | with_reducible refine Go.geI_go ?_ | with_reducible refine Go.eqI_go ?_ | with_reducible refine Go.neI_go ?_ | with_reducible refine Go.eqS_go ?_ | with_reducible refine Go.rng1_go ?_ | ((first | with_reducible apply Go.ixL_go | with_reducible apply Go.ixT_go); first | exact DL.at0 _ _ | exact DL.at1 _ _ _ | exact DL.at2 _ _ _ _ | exact DL.at3 _ _ _ _ _ | exact DL.at4 _ _ _ _ _ _) | ((with_reducible apply Go.frz_go); exact rfl) | ((with_reducible apply Go.frz_sh); exact rfl) | with_reducible refine Go.mn_go ?_ | with_reducible refine Go.andV_go ?_ | ((first | with_reducible apply Go.sqT_go | with_reducible apply Go.sqL_go); exact rfl) | with_reducible refine Go.gsC_go ?_ | with_reducible refine Go.gsN_go ?_ | with_reducible refine Go.ifT (by decide +kernel) ?_ | with_reducible refine Go.ifF (by decide +kernel) ?_ | with_reducible refine Go.cat_go ?_ | with_reducible refine Go.callO_go ?_ | ((with_reducible apply Go.retO_go); exact rfl) | with_reducible refine Go.retN_go ?_ | with_reducible refine Go.ifN_go ?_ | with_reducible refine Go.yes_go ?_ | with_reducible refine Go.isI_go ?_ | with_reducible refine Go.isB_go ?_ | with_reducible refine Go.isN_go ?_ | with_reducible refine Go.notN_go ?_ | with_reducible refine Go.lrev_go ?_ | with_reducible refine Go.bk_go ?_ | with_reducible refine Go.ct_go ?_ | with_reducible refine Go.rng2_go ?_ | with_reducible refine Go.orV_go ?_ | with_reducible refine Go.notV_go ?_ | ((with_reducible apply Go.extT_go); exact rfl) | with_reducible refine Go.isI2_go ?_ | with_reducible refine Go.dict2_go ?_ | with_reducible refine Go.callE_go ?_ | with_reducible refine Go.callEK_go ?_ | ((with_reducible apply Go.callX_go); exact rfl) | with_reducible refine Go.raise0_go ?_ | with_reducible refine Go.raise1_go ?_ | ((with_reducible apply Go.is1_go); exact rfl) | ((with_reducible apply Go.isT_go); exact rfl) | ((with_reducible apply Go.fld_go); exact rfl) | ((with_reducible apply Go.setIx_go); exact rfl) | unfold fForS | unfold fLc | dsimp only [seqOf, List.set_cons_zero, List.set_cons_succ, setAll, wipeE])))
def Pm (q : Nat) : Prop := 2 ≤ q ∧ ∀ s, 2 ≤ s → s < q → ¬ s ∣ q
theorem pm_cop {q : Nat} (h : Pm q) (x : Nat) : q ∣ x ∨ Nat.Coprime q x := by
  by_cases e : Nat.gcd q x = 1
  · exact .inr e
  · refine .inl ?_
    have d := Nat.gcd_dvd_left q x
    have p : 0 < Nat.gcd q x := Nat.gcd_pos_of_pos_left x (by have := h.1; omega)
    have le := Nat.le_of_dvd (by have := h.1; omega) d
    have : Nat.gcd q x = q := by
      apply Classical.byContradiction
      intro n
      exact h.2 _ (by omega) (by omega) d
    rw [← this]
    exact Nat.gcd_dvd_right q x
theorem pm_ex (t : Nat) (h : 2 ≤ t) : ∃ q, Pm q ∧ q ∣ t := by
  induction t using Nat.strongRecOn with
  | _ t ih =>
    by_cases e : ∃ s, 2 ≤ s ∧ s < t ∧ s ∣ t
    · obtain ⟨s, h1, h2, h3⟩ := e
      obtain ⟨q, hq, hd⟩ := ih s h2 h1
      exact ⟨q, hq, Nat.dvd_trans hd h3⟩
    · exact ⟨t, ⟨h, fun s h1 h2 h3 => e ⟨s, h1, h2, h3⟩⟩, Nat.dvd_refl t⟩
def Sqf (k : Nat) : Prop := ∀ q, Pm q → ¬ q * q ∣ k
theorem sqf_one : Sqf 1 := fun q h d => by
  have := Nat.le_of_dvd (by decide) d
  have := h.1
  have := Nat.mul_le_mul this this
  omega
theorem pm_eq {p q : Nat} (hp : Pm p) (hq : Pm q) (d : q ∣ p) : q = p := by
  have le := Nat.le_of_dvd (by have := hp.1; omega) d
  apply Classical.byContradiction
  intro n
  exact hp.2 q hq.1 (by omega) d
theorem sqf_mul {k r : Nat} (hk : Sqf k) (hr : Sqf r) (c : ∀ q, Pm q → q ∣ k → q ∣ r → False) : Sqf (k * r) := by
  intro q hq d
  rcases pm_cop hq k with a | a
  · rcases pm_cop hq r with b | b
    · exact c q hq a b
    · exact hk q hq ((Nat.Coprime.mul_left b b).dvd_of_dvd_mul_right d)
  · exact hr q hq ((Nat.Coprime.mul_left a a).dvd_of_dvd_mul_left d)
theorem sqf_pm {p : Nat} (hp : Pm p) : Sqf p := fun q hq d => by
  have e := pm_eq hp hq (Nat.dvd_trans ⟨q, rfl⟩ d)
  subst e
  have := Nat.le_of_dvd (by have := hp.1; omega) d
  have h2 := hp.1
  have := Nat.mul_le_mul_right q h2
  omega
theorem sqf_int {k : Nat} (h : Sqf k) (t : Int) (ht : 2 ≤ t) : ¬ t * t ∣ (k : Int) := fun d => by
  obtain ⟨q, hq, hd⟩ := pm_ex t.toNat (by omega)
  refine h q hq (Nat.dvd_trans (Nat.mul_dvd_mul hd hd) ?_)
  have e : ((t.toNat * t.toNat : Nat) : Int) = t * t := by
    rw [Int.natCast_mul, Int.toNat_of_nonneg (by omega)]
  exact Int.natCast_dvd_natCast.mp (by rw [e]; exact d)
/-- the rest, freed of all below p, is 1, a square, or without a square -/
theorem rest_sqf {p r : Nat} (h1 : 1 ≤ r) (h2 : r < p * p * p) (small : ∀ t, 2 ≤ t → t < p → ¬ t ∣ r) (ns : ∀ s : Nat, s * s ≠ r) : Sqf r := by
  intro q hq ⟨u, e⟩
  have qp : p ≤ q := by
    apply Classical.byContradiction
    intro c
    exact small q hq.1 (by omega) ⟨q * u, by rw [e, Nat.mul_assoc]⟩
  have qq : p * p ≤ q * q := Nat.mul_le_mul qp qp
  have up : u < p := by
    apply Classical.byContradiction
    intro c
    have := Nat.mul_le_mul qq (by omega : p ≤ u)
    omega
  by_cases u2 : 2 ≤ u
  · exact small u u2 up ⟨q * q, by rw [e, Nat.mul_comm]⟩
  · have : u = 0 ∨ u = 1 := by omega
    rcases this with z | z
    · rw [z, Nat.mul_zero] at e; omega
    · rw [z, Nat.mul_one] at e; exact ns q e.symm
/-- what the loop over p keeps -/
structure Pt (p n m k r : Nat) : Prop where
  m1 : 1 ≤ m
  k1 : 1 ≤ k
  r1 : 1 ≤ r
  e : m * m * k * r = n
  kf : Sqf k
  small : ∀ t, 2 ≤ t → t < p → ¬ t ∣ r
  apart : ∀ q, Pm q → q ∣ k → q ∣ r → False
theorem Pt.bounds {p n m k r : Nat} (h : Pt p n m k r) (hn : n ≤ 1000001) : m ≤ 1000001 ∧ k ≤ 1000001 ∧ r ≤ 1000001 ∧ k * r ≤ 1000001 := by
  obtain ⟨m1, k1, r1, e, _⟩ := h
  have a : 1 ≤ k * r := Nat.mul_pos k1 r1
  have b : m * m * (k * r) = n := by rw [← Nat.mul_assoc]; exact e
  have c : k * r ≤ n := by
    rw [← b]
    exact Nat.le_mul_of_pos_left _ (Nat.mul_pos m1 m1)
  have d : m ≤ n := by
    rw [← b]
    have : m ≤ m * m := Nat.le_mul_of_pos_left _ m1
    exact Nat.le_trans this (Nat.le_mul_of_pos_right _ a)
  have k' : k ≤ k * r := Nat.le_mul_of_pos_right _ r1
  have r' : r ≤ k * r := Nat.le_mul_of_pos_left _ k1
  omega
theorem Pt.sq {p n m k r : Nat} (h : Pt p n m k (p * p * r)) (hp : 2 ≤ p) (hr : 1 ≤ r) : Pt p n (m * p) k r := by
  obtain ⟨m1, k1, r1, e, kf, sm, ap⟩ := h
  refine ⟨Nat.mul_pos m1 (by omega), k1, hr, ?_, kf, fun t t2 tp d => sm t t2 tp (Nat.dvd_trans d ⟨p * p, by rw [Nat.mul_comm]⟩), fun q hq a b => ap q hq a (Nat.dvd_trans b ⟨p * p, by rw [Nat.mul_comm]⟩)⟩
  rw [← e]
  have e1 : m * p * (m * p) = m * m * (p * p) := Nat.mul_mul_mul_comm m p m p
  rw [e1, Nat.mul_assoc (m * m) (p * p) k, Nat.mul_comm (p * p) k, ← Nat.mul_assoc (m * m) k (p * p), Nat.mul_assoc]
theorem Pt.no {p n m k r : Nat} (h : Pt p n m k r) (d : ¬ p ∣ r) : Pt (p + 1) n m k r :=
  ⟨h.m1, h.k1, h.r1, h.e, h.kf, fun t t2 tp dt => by
    by_cases z : t = p
    · subst z; exact d dt
    · exact h.small t t2 (by omega) dt, h.apart⟩
theorem Pt.yes {p n m k r : Nat} (h : Pt p n m k (p * r)) (hp : 2 ≤ p) (hr : 1 ≤ r) (d : ¬ p * p ∣ p * r) : Pt (p + 1) n m (k * p) r := by
  obtain ⟨m1, k1, r1, e, kf, sm, ap⟩ := h
  have prime : Pm p := ⟨hp, fun s s2 sp ds => sm s s2 sp (Nat.dvd_trans ds ⟨r, rfl⟩)⟩
  have pr : ¬ p ∣ r := fun ⟨u, z⟩ => d ⟨u, by rw [z, Nat.mul_assoc]⟩
  have pk : ¬ p ∣ k := fun z => ap p prime z ⟨r, rfl⟩
  refine ⟨m1, Nat.mul_pos k1 (by omega), hr, by rw [← e, Nat.mul_assoc (m * m), Nat.mul_assoc (m * m), Nat.mul_assoc k], sqf_mul kf (sqf_pm prime) (fun q hq a b => ?_), fun t t2 tp dt => ?_, fun q hq a b => ?_⟩
  · have := pm_eq prime hq b
    subst this
    exact pk a
  · by_cases z : t = p
    · subst z; exact pr dt
    · exact sm t t2 (by omega) (Nat.dvd_trans dt ⟨p, by rw [Nat.mul_comm]⟩)
  · rcases pm_cop hq k with c | c
    · exact ap q hq c (Nat.dvd_trans b ⟨p, by rw [Nat.mul_comm]⟩)
    · have := pm_eq prime hq (c.dvd_of_dvd_mul_left a)
      subst this
      exact pr b
theorem nat_mod0 {r p : Nat} : (((r : Nat) : Int) % ((p : Nat) : Int) = 0) ↔ p ∣ r := by
  rw [← Int.natCast_emod]
  constructor
  · intro h
    exact Nat.dvd_of_mod_eq_zero (by omega)
  · intro h
    rw [Nat.mod_eq_zero_of_dvd h]
    rfl
theorem Pt.pows {p n m k r : Nat} (hp : 2 ≤ p) (hr : 1 ≤ r) : ∀ j : Nat, Pt p n m k (p ^ (2 * j) * r) → Pt p n (m * p ^ j) k r
  | 0, h => by simpa using h
  | j + 1, h => by
    have e : p ^ (2 * (j + 1)) * r = p * p * (p ^ (2 * j) * r) := by
      rw [show 2 * (j + 1) = 2 * j + 1 + 1 by omega, Nat.pow_succ, Nat.pow_succ]
      rw [Nat.mul_assoc (p ^ (2 * j)) p p, Nat.mul_comm (p ^ (2 * j)) (p * p), Nat.mul_assoc]
    rw [e] at h
    have h2 := Pt.pows (m := m * p) hp hr j (h.sq hp (Nat.mul_pos (Nat.pow_pos (by omega)) hr))
    rw [Nat.pow_succ, Nat.mul_comm (p ^ j) p, ← Nat.mul_assoc]
    exact h2
theorem Pt.step {p n m k r o : Nat} (h : Pt p n m k (p ^ o * r)) (hp : 2 ≤ p) (hr : 1 ≤ r) (d : ¬ p ∣ r) : Pt (p + 1) n (m * p ^ (o / 2)) (if o % 2 = 1 then k * p else k) r := by
  have e : p ^ o * r = p ^ (2 * (o / 2)) * (p ^ (o % 2) * r) := by
    rw [← Nat.mul_assoc, ← Nat.pow_add]
    congr 2
    omega
  rw [e] at h
  have h2 := h.pows hp (Nat.mul_pos (Nat.pow_pos (by omega)) hr)
  have : o % 2 = 0 ∨ o % 2 = 1 := by omega
  rcases this with z | z
  · rw [z] at h2
    rw [if_neg (by omega)]
    exact Pt.no (by simpa using h2) d
  · rw [z] at h2
    rw [if_pos z]
    refine Pt.yes (by simpa using h2) hp hr fun ⟨u, x⟩ => d ⟨u, ?_⟩
    rw [Nat.mul_assoc] at x
    exact Nat.eq_of_mul_eq_mul_left (by omega) x
theorem rp_ex (n : Nat) : 1 ≤ n → ∃ p : Int × Int, RP (n : Int) p.1 p.2 := by
  induction n using Nat.strongRecOn with
  | _ n ih =>
    intro h
    by_cases e : ∃ t : Nat, 2 ≤ t ∧ t * t ∣ n
    · obtain ⟨t, t2, u, hu⟩ := e
      have u1 : 1 ≤ u := by
        apply Classical.byContradiction
        intro z
        have : u = 0 := by omega
        rw [this, Nat.mul_zero] at hu
        omega
      have un : u < n := by
        have : 4 ≤ t * t := Nat.mul_le_mul t2 t2
        have := Nat.mul_le_mul_right u this
        omega
      obtain ⟨⟨m, k⟩, hm, hk, he, hf⟩ := ih u un u1
      refine ⟨((t : Int) * m, k), ?_, hk, ?_, hf⟩
      · have := Int.mul_le_mul (a := 1) (b := 1) (c := (t : Int)) (d := m) (by omega) hm (by omega) (by omega)
        simpa using this
      · show (t : Int) * m * ((t : Int) * m) * k = (n : Int)
        rw [hu, Int.natCast_mul, Int.natCast_mul, ← he]
        simp only [Int.mul_assoc, Int.mul_left_comm, Int.mul_comm]
    · refine ⟨(1, (n : Int)), by show (1 : Int) ≤ 1; omega, by show (1 : Int) ≤ (n : Int); omega, by show (1 : Int) * 1 * n = n; rw [Int.one_mul, Int.one_mul], fun t ht d => e ⟨t.toNat, by omega, ?_⟩⟩
      refine Int.natCast_dvd_natCast.mp ?_
      rw [Int.natCast_mul, Int.toNat_of_nonneg (by omega)]
      exact d
theorem rp_one {u v k k' : Nat} (c : Nat.Coprime u v) (e : u * u * k = v * v * k') (f : ∀ t : Nat, 2 ≤ t → ¬ t * t ∣ k') (hu : 1 ≤ u) : u = 1 := by
  apply Classical.byContradiction
  intro z
  have c2 : Nat.Coprime (u * u) (v * v) := Nat.Coprime.mul_left (Nat.Coprime.mul_right c c) (Nat.Coprime.mul_right c c)
  exact f u (by omega) (c2.dvd_of_dvd_mul_left ⟨k, e.symm⟩)
theorem rp_nat {m k m' k' : Nat} (hm : 1 ≤ m) (hm' : 1 ≤ m') (e : m * m * k = m' * m' * k') (f : ∀ t : Nat, 2 ≤ t → ¬ t * t ∣ k) (f' : ∀ t : Nat, 2 ≤ t → ¬ t * t ∣ k') : m = m' ∧ k = k' := by
  obtain ⟨u, v, c, eu, ev⟩ := Nat.exists_coprime m m'
  have g0 : 0 < Nat.gcd m m' := Nat.gcd_pos_of_pos_left _ (by omega)
  generalize Nat.gcd m m' = g at eu ev g0
  subst eu ev
  have u1 : 1 ≤ u := Nat.pos_of_mul_pos_right hm
  have v1 : 1 ≤ v := Nat.pos_of_mul_pos_right hm'
  have e2 : u * u * k = v * v * k' := by
    have : (g * g) * (u * u * k) = (g * g) * (v * v * k') := by
      have a1 : (g * g) * (u * u * k) = u * g * (u * g) * k := by
        simp only [Nat.mul_assoc, Nat.mul_left_comm, Nat.mul_comm]
      have a2 : (g * g) * (v * v * k') = v * g * (v * g) * k' := by
        simp only [Nat.mul_assoc, Nat.mul_left_comm, Nat.mul_comm]
      rw [a1, a2, e]
    exact Nat.eq_of_mul_eq_mul_left (Nat.mul_pos g0 g0) this
  have hu := rp_one c e2 f' u1
  have hv := rp_one c.symm e2.symm f v1
  subst hu hv
  exact ⟨rfl, by simpa using e2⟩
theorem rp_unique {n m k m' k' : Int} (h : RP n m k) (h' : RP n m' k') : m = m' ∧ k = k' := by
  obtain ⟨a1, a2, a3, a4⟩ := h
  obtain ⟨b1, b2, b3, b4⟩ := h'
  obtain ⟨m, rfl⟩ : ∃ j : Nat, m = (j : Int) := ⟨m.toNat, by omega⟩
  obtain ⟨k, rfl⟩ : ∃ j : Nat, k = (j : Int) := ⟨k.toNat, by omega⟩
  obtain ⟨m', rfl⟩ : ∃ j : Nat, m' = (j : Int) := ⟨m'.toNat, by omega⟩
  obtain ⟨k', rfl⟩ : ∃ j : Nat, k' = (j : Int) := ⟨k'.toNat, by omega⟩
  have nat : ∀ {x : Nat}, (∀ t : Int, 2 ≤ t → ¬ t * t ∣ (x : Int)) → ∀ t : Nat, 2 ≤ t → ¬ t * t ∣ x := fun f t ht d => f t (by omega) (by rw [← Int.natCast_mul]; exact Int.natCast_dvd_natCast.mpr d)
  have e : m * m * k = m' * m' * k' := by
    have : ((m * m * k : Nat) : Int) = ((m' * m' * k' : Nat) : Int) := by
      rw [Int.natCast_mul, Int.natCast_mul, Int.natCast_mul, Int.natCast_mul, a3, b3]
    exact Int.ofNat.inj this
  obtain ⟨x, y⟩ := rp_nat (by omega) (by omega) e (nat a4) (nat b4)
  rw [x, y]
  exact ⟨rfl, rfl⟩
theorem rpp_ok {n : Int} (h : 1 ≤ n) : RP n (rpm n) (rpk n) := by
  have e : ∃ p : Int × Int, RP n p.1 p.2 := by
    have := rp_ex n.toNat (by omega)
    rwa [Int.toNat_of_nonneg (by omega)] at this
  show RP n (rpp n).1 (rpp n).2
  unfold rpp
  rw [dif_pos e]
  exact Classical.choose_spec e
theorem rp_eq {n m k : Int} (hn : 1 ≤ n) (h : RP n m k) : rpm n = m ∧ rpk n = k := rp_unique (rpp_ok hn) h
theorem pt_end {p n m k r : Nat} (h : Pt p n m k r) (h2 : r < p * p * p) {s : Int} (hr : Rn (r : Int) s) : (s * s = (r : Int) → RP (n : Int) ((m : Int) * s) k) ∧ (s * s ≠ (r : Int) → RP (n : Int) m ((k * r : Nat) : Int)) := by
  have hm := h.m1
  have hk := h.k1
  have h1 := h.r1
  constructor
  · intro e
    have s1 : 1 ≤ s := by
      unfold Rn at hr
      split at hr
      · omega
      · exact rt_pos hr (by omega)
    refine ⟨?_, by omega, ?_, sqf_int h.kf⟩
    · have := Int.mul_le_mul (a := 1) (b := 1) (c := (m : Int)) (d := s) (by omega) s1 (by omega) (by omega)
      simpa using this
    · rw [← h.e, Int.natCast_mul, Int.natCast_mul, Int.natCast_mul, ← e]
      simp only [Int.mul_assoc, Int.mul_left_comm, Int.mul_comm]
  · intro ne
    refine ⟨by omega, ?_, ?_, sqf_int (sqf_mul h.kf (rest_sqf h1 h2 h.small fun z hz => ne ?_) h.apart)⟩
    · have := Nat.mul_pos hk h1
      omega
    · rw [← h.e, Int.natCast_mul, Int.natCast_mul, Int.natCast_mul, Int.natCast_mul, Int.mul_assoc _ (k : Int)]
    · have ez : ((z : Nat) : Int) * (z : Int) = (r : Int) := by rw [← Int.natCast_mul, hz]
      unfold Rn at hr
      split at hr
      · have : (r : Int) = 1 := by omega
        rw [hr, this]; rfl
      · rw [rt_sq hr (by omega) ez]; exact ez
theorem go_root {n : Int} {Q : D → Prop} (h : Sm 1940 n) (hq : Q (.int (rF n))) : sp 1 (fun ss => ∃ n : Int, ss = [iS n] ∧ Sm 1940 n) (fun ss d => ∃ n r : Int, ss = [iS n] ∧ d = .int r ∧ Rn n r) [iS n] Q :=
  ⟨rfl, ⟨n, rfl, h⟩, fun d ⟨n', r, e, ed, hr⟩ => by
    cases e; rw [ed, ← rF_go hr]; exact hq⟩
theorem r__law_parts : ∀ ss (Q : D → Prop), S__law_parts ss Q → g__law_parts (endsOf Q) (initE N__law_parts ss) := by
  rintro ss Q ⟨n, rfl, ⟨n2, n3⟩, hq⟩
  obtain ⟨n, rfl⟩ : ∃ j : Nat, n = (j : Int) := ⟨n.toNat, by omega⟩
  have hq' : ∀ m k : Int, RP (n : Int) m k → Q (.tuple [.int m, .int k]) := fun m k h => by
    obtain ⟨e1, e2⟩ := rp_eq n2 h
    rw [← e1, ← e2]
    exact hq
  have nn : n ≤ 1000001 := by omega
  simp only [N__law_parts, arI, initE, List.length_cons, List.length_nil, Nat.reduceAdd, Nat.reduceSub, List.replicate, List.cons_append, List.nil_append, List.append_nil]
  simp only [g__law_parts, fSeqS, fSet, fSetN, fRet, fIfS, fNext, fBreak, fCont, fNever, fBin, fCmp, fV, fN, fC, lk, lk_z, lk_s, gAdd, gSub, gMul, gDiv, gMod, gPow, gShl, gShlW, gShr, gv, gLt, gLe, gGt, gGe, gEq, gNe, gIx, fNeg, fTV, fNot, fAnd, fOr, fAndV, fOrV, fNotV, fIf, fLN, fLC, fAN, fAC, fAB, fNV, fTup, fCB, bInt, bAbs, bLen, bMax2, bMin2, bTuple, fSeq, seqOf, fCall, fCallK, fAsg, gNm, gsNil, gsCons, gTpl, gSq, fPar, fMV, fMN, setAll, fApp, fExt, fSetIx, fFrz, fForS, fRng1, fRng2, fBits, fON, fOS, fSlT, fSlL, List.set_cons_zero, List.set_cons_succ, List.length_cons, List.length_nil, endsOf, decide_eq_true_eq, true_and, and_true, at0, at1, at2, at3, at4, Bool.not_eq_true', decide_eq_false_iff_not, lg2, Int.reduceLT, ↓reduceIte]
  refine ⟨⟨by decide, by decide, by decide, by decide⟩, ?_⟩
  refine for_rng (fun i ρ => ∃ (p m k r : Nat) (t u : Sl), i = (p : Int) ∧ ρ = [iS n, iS m, iS k, iS r, t, u] ∧ 2 ≤ p ∧ Pt p n m k r) _ _ _ ?_ ?_ ⟨2, 1, 1, n, _, _, rfl, rfl, by decide, by decide, by decide, by omega, by simp, sqf_one, fun t t2 tp => by omega, fun q hq a _ => ?_⟩
  · rintro i ρ i2 i3 ⟨p, m, k, r, t, u, rfl, rfl, hp, hP⟩ K hK
    have p101 : p < 101 := by
      have : ((101 : Int) - 2).toNat = 99 := by decide
      omega
    simp only [fSeqS, fSet, fSetN, fRet, fIfS, fNext, fBreak, fCont, fNever, fBin, fCmp, fV, fN, fC, lk, lk_z, lk_s, gAdd, gSub, gMul, gDiv, gMod, gPow, gShl, gShlW, gShr, gv, gLt, gLe, gGt, gGe, gEq, gNe, gIx, fNeg, fTV, fNot, fAnd, fOr, fAndV, fOrV, fNotV, fIf, fLN, fLC, fAN, fAC, fAB, fNV, fTup, fCB, bInt, bAbs, bLen, bMax2, bMin2, bTuple, fSeq, seqOf, fCall, fCallK, fAsg, gNm, gsNil, gsCons, gTpl, gSq, fPar, fMV, fMN, setAll, fApp, fExt, fSetIx, fFrz, fForS, fRng1, fRng2, fBits, fON, fOS, fSlT, fSlL, List.set_cons_zero, List.set_cons_succ, List.length_cons, List.length_nil, endsOf, decide_eq_true_eq, true_and, and_true, at0, at1, at2, at3, at4, Bool.not_eq_true', decide_eq_false_iff_not, lg2, Int.reduceLT, ↓reduceIte]
    have sp : Sm 7 (p : Int) := Sm.nat (by omega) (by omega)
    have pp : (0 : Int) < (p : Int) * p := Int.mul_pos (by omega) (by omega)
    refine while_of (fun x ρ => ∃ (m r : Nat), ρ = [iS n, iS m, iS k, iS r, iS p, u] ∧ Pt p n m k r ∧ x = r) ?_ _ _ ⟨m, r, rfl, hP, rfl⟩
    rintro x ρ ⟨m, r, rfl, hP, rfl⟩ K2 hK2
    obtain ⟨mb, kb, rb, _⟩ := hP.bounds nn
    have s1 : Sm 20 (m : Int) := Sm.nat (by omega) (by omega)
    have s2 : Sm 20 (k : Int) := Sm.nat (by omega) (by omega)
    simp only [fSeqS, fSet, fSetN, fRet, fIfS, fNext, fBreak, fCont, fNever, fBin, fCmp, fV, fN, fC, lk, lk_z, lk_s, gAdd, gSub, gMul, gDiv, gMod, gPow, gShl, gShlW, gShr, gv, gLt, gLe, gGt, gGe, gEq, gNe, gIx, fNeg, fTV, fNot, fAnd, fOr, fAndV, fOrV, fNotV, fIf, fLN, fLC, fAN, fAC, fAB, fNV, fTup, fCB, bInt, bAbs, bLen, bMax2, bMin2, bTuple, fSeq, seqOf, fCall, fCallK, fAsg, gNm, gsNil, gsCons, gTpl, gSq, fPar, fMV, fMN, setAll, fApp, fExt, fSetIx, fFrz, fForS, fRng1, fRng2, fBits, fON, fOS, fSlT, fSlL, List.set_cons_zero, List.set_cons_succ, List.length_cons, List.length_nil, endsOf, decide_eq_true_eq, true_and, and_true, at0, at1, at2, at3, at4, Bool.not_eq_true', decide_eq_false_iff_not, lg2, Int.reduceLT, ↓reduceIte]
    refine ⟨mw sp sp, ?_⟩
    rw [if_pos pp]
    have cast : ((p : Int) * (p : Int)) = ((p * p : Nat) : Int) := by rw [Int.natCast_mul]
    split
    · rename_i hm
      rw [cast] at hm
      obtain ⟨v, e⟩ := nat_mod0.mp hm
      subst e
      have hv : 1 ≤ v := by
        have := hP.r1
        apply Classical.byContradiction
        intro z
        have : v = 0 := by omega
        subst this
        rw [Nat.mul_zero] at this
        omega
      refine ⟨mw s1 sp, mw sp sp, (Sm.mul sp sp).log, ?_⟩
      try rw [if_pos pp]
      have ed : ((p * p * v : Nat) : Int) / ((p : Int) * (p : Int)) = (v : Int) := by
        rw [cast, Int.natCast_mul (p * p) v]
        exact Int.mul_ediv_cancel_left _ (by omega)
      rw [ed]
      have em : (m : Int) * (p : Int) = ((m * p : Nat) : Int) := by rw [Int.natCast_mul]
      rw [em]
      refine hK2 _ _ ?_ ⟨m * p, v, rfl, hP.sq hp hv, rfl⟩
      have : 4 ≤ p * p := Nat.mul_le_mul hp hp
      have := Nat.mul_le_mul_right v this
      omega
    · rename_i hm
      rw [cast] at hm
      have nd : ¬ p * p ∣ x := fun z => hm (nat_mod0.mpr z)
      rw [if_pos (by omega : (0 : Int) < p)]
      split
      · rename_i h1
        obtain ⟨v, e⟩ := nat_mod0.mp h1
        subst e
        have hv : 1 ≤ v := by
          have := hP.r1
          apply Classical.byContradiction
          intro z
          have : v = 0 := by omega
          subst this
          rw [Nat.mul_zero] at this
          omega
        refine ⟨mw s2 sp, sp.log, ?_⟩
        rw [if_pos (by omega : (0 : Int) < p)]
        have ed : ((p * v : Nat) : Int) / (p : Int) = (v : Int) := by
          rw [Int.natCast_mul]
          exact Int.mul_ediv_cancel_left _ (by omega)
        have em : (k : Int) * (p : Int) = ((k * p : Nat) : Int) := by rw [Int.natCast_mul]
        rw [ed, em]
        exact hK _ ⟨p + 1, m, k * p, v, _, _, by omega, rfl, by omega, hP.yes hp hv nd⟩
      · rename_i h1
        exact hK _ ⟨p + 1, m, k, x, _, _, by omega, rfl, by omega, hP.no fun z => h1 (nat_mod0.mpr z)⟩
  · rintro ρ ⟨p, m, k, r, t, u, hp, rfl, _, hP⟩
    have p101 : p = 101 := by
      have : ((101 : Int) - 2).toNat = 99 := by decide
      omega
    subst p101
    obtain ⟨mb, kb, rb, krb⟩ := hP.bounds nn
    have s1 : Sm 20 (m : Int) := Sm.nat (by omega) (by omega)
    have s2 : Sm 20 (k : Int) := Sm.nat (by omega) (by omega)
    have s3 : Sm 20 (r : Int) := Sm.nat (by omega) (by omega)
    simp only [fSeqS, fSet, fSetN, fRet, fIfS, fNext, fBreak, fCont, fNever, fBin, fCmp, fV, fN, fC, lk, lk_z, lk_s, gAdd, gSub, gMul, gDiv, gMod, gPow, gShl, gShlW, gShr, gv, gLt, gLe, gGt, gGe, gEq, gNe, gIx, fNeg, fTV, fNot, fAnd, fOr, fAndV, fOrV, fNotV, fIf, fLN, fLC, fAN, fAC, fAB, fNV, fTup, fCB, bInt, bAbs, bLen, bMax2, bMin2, bTuple, fSeq, seqOf, fCall, fCallK, fAsg, gNm, gsNil, gsCons, gTpl, gSq, fPar, fMV, fMN, setAll, fApp, fExt, fSetIx, fFrz, fForS, fRng1, fRng2, fBits, fON, fOS, fSlT, fSlL, List.set_cons_zero, List.set_cons_succ, List.length_cons, List.length_nil, endsOf, decide_eq_true_eq, true_and, and_true, at0, at1, at2, at3, at4, Bool.not_eq_true', decide_eq_false_iff_not, lg2, Int.reduceLT, ↓reduceIte]
    refine go_root (s3.le (by decide)) ?_
    have hr := rF_ok (r : Int)
    generalize rF (r : Int) = s at hr
    have ss : 0 ≤ s ∧ s ≤ r := by
      unfold Rn at hr
      split at hr
      · omega
      · have := rt_pos hr (by omega)
        have := Int.mul_le_mul_of_nonneg_left (a := 1) (b := s) (c := s) (by omega) (by omega)
        have := hr.2.1
        omega
    have sS : Sm 20 s := Sm.nat (by omega) (by omega)
    try simp only [fSeqS, fSet, fSetN, fRet, fIfS, fNext, fBreak, fCont, fNever, fBin, fCmp, fV, fN, fC, lk, lk_z, lk_s, gAdd, gSub, gMul, gDiv, gMod, gPow, gShl, gShlW, gShr, gv, gLt, gLe, gGt, gGe, gEq, gNe, gIx, fNeg, fTV, fNot, fAnd, fOr, fAndV, fOrV, fNotV, fIf, fLN, fLC, fAN, fAC, fAB, fNV, fTup, fCB, bInt, bAbs, bLen, bMax2, bMin2, bTuple, fSeq, seqOf, fCall, fCallK, fAsg, gNm, gsNil, gsCons, gTpl, gSq, fPar, fMV, fMN, setAll, fApp, fExt, fSetIx, fFrz, fForS, fRng1, fRng2, fBits, fON, fOS, fSlT, fSlL, List.set_cons_zero, List.set_cons_succ, List.length_cons, List.length_nil, endsOf, decide_eq_true_eq, true_and, and_true, at0, at1, at2, at3, at4, Bool.not_eq_true', decide_eq_false_iff_not, lg2, Int.reduceLT, ↓reduceIte]
    refine ⟨mw sS sS, ?_⟩
    have pe := pt_end hP (by omega) hr
    split
    · rename_i e
      exact ⟨mw s1 sS, hq' _ _ (pe.1 e)⟩
    · rename_i ne
      refine ⟨mw s2 s3, ?_⟩
      have em : (k : Int) * (r : Int) = ((k * r : Nat) : Int) := by rw [Int.natCast_mul]
      rw [em]
      exact hq' _ _ (pe.2 ne)
  · have := Nat.le_of_dvd (by decide) a
    have := hq.1
    omega
end T
end DL
namespace DL
namespace T
open PySem L2 PySem.Spec PyProof.Rows
local macro_rules
  | `(tactic| get_elem_tactic_extensible) => `(tactic| (repeat (first | with_reducible refine Go.lc_go ?_ | with_reducible refine Go.ln_go ?_ | ((with_reducible apply Go.v_sh); exact rfl) | ((with_reducible apply Go.n_sh); exact rfl) | ((with_reducible apply Go.n_ow); exact rfl) | ((with_reducible apply Go.ab_go); exact rfl) | ((with_reducible apply Go.app_go); exact rfl) | ((with_reducible apply Go.ext_go); exact rfl) | with_reducible refine Go.c_go ?_ | with_reducible refine Go.tup_go ?_ | with_reducible refine Go.nv_go ?_ | with_reducible refine Go.bin_go ?_ | with_reducible refine Go.slT_go ?_ | with_reducible refine Go.slL_go ?_ | with_reducible refine Go.on_go ?_ | with_reducible refine Go.os_go ?_ | with_reducible refine Go.neg_go ?_ | with_reducible refine Go.sub_go ?_ | with_reducible refine Go.addI_go ?_ | with_reducible refine Go.seqT_go ?_ | with_reducible refine Go.call_go ?_ | with_reducible refine Go.callK_go ?_ | with_reducible refine Go.cb_go ?_ | with_reducible refine Go.dict1_go ?_ | with_reducible refine Go.if_go ?_ | with_reducible refine Go.an_go ?_ | with_reducible refine Go.ac_go ?_ | with_reducible refine Go.mv_go ?_ | with_reducible refine Go.par_go ?_ | with_reducible refine Go.sq_go ?_ | with_reducible refine Go.set_go ?_ | with_reducible refine Go.setN_go ?_ | with_reducible refine Go.ret_go ?_ | with_reducible refine Go.asg_go ?_ | with_reducible refine Go.ifs_go ?_ | with_reducible refine Go.next_go ?_ | with_reducible refine Go.nm_go ?_ | with_reducible refine Go.cmp_go ?_ | with_reducible refine Go.tv_go ?_ | with_reducible refine Go.not_go ?_ | with_reducible refine Go.and_go ?_ | with_reducible refine Go.or_go ?_ | with_reducible refine Go.lenT_go ?_ | with_reducible refine Go.lenL_go ?_ | with_reducible refine Go.absI_go ?_ | with_reducible refine Go.intI_go ?_ | with_reducible refine Go.max2_go ?_ | with_reducible refine Go.min2_go ?_ | with_reducible refine Go.tupL_go ?_ | with_reducible refine Go.tupT_go ?_ | with_reducible refine Go.gv_go ?_ | with_reducible refine Go.ltI_go ?_ | with_reducible refine Go.leI_go ?_ | with_reducible refine Go.gtI_go ?_ | with_reducible refine Go.geI_go ?_ | with_reducible refine Go.eqI_go ?_ | with_reducible refine Go.neI_go ?_ | with_reducible refine Go.eqS_go ?_ | with_reducible refine Go.rng1_go ?_ | ((first | with_reducible apply Go.ixL_go | with_reducible apply Go.ixT_go); first | exact DL.at0 _ _ | exact DL.at1 _ _ _ | exact DL.at2 _ _ _ _ | exact DL.at3 _ _ _ _ _ | exact DL.at4 _ _ _ _ _ _) | ((with_reducible apply Go.frz_go); exact rfl) | ((with_reducible apply Go.frz_sh); exact rfl) | with_reducible refine Go.mn_go ?_ | with_reducible refine Go.andV_go ?_ | ((first | with_reducible apply Go.sqT_go | with_reducible apply Go.sqL_go); exact rfl) | with_reducible refine Go.gsC_go ?_ | with_reducible refine Go.gsN_go ?_ | with_reducible refine Go.ifT (by decide +kernel) ?_ | with_reducible refine Go.ifF (by decide +kernel) ?_ | with_reducible refine Go.cat_go ?_ | with_reducible refine Go.callO_go ?_ | ((with_reducible apply Go.retO_go); exact rfl) | with_reducible refine Go.retN_go ?_ | with_reducible refine Go.ifN_go ?_ | with_reducible refine Go.yes_go ?_ | with_reducible refine Go.isI_go ?_ | with_reducible refine Go.isB_go ?_ | with_reducible refine Go.isN_go ?_ | with_reducible refine Go.notN_go ?_ | with_reducible refine Go.lrev_go ?_ | with_reducible refine Go.bk_go ?_ | with_reducible refine Go.ct_go ?_ | with_reducible refine Go.rng2_go ?_ | with_reducible refine Go.orV_go ?_ | with_reducible refine Go.notV_go ?_ | ((with_reducible apply Go.extT_go); exact rfl) | with_reducible refine Go.isI2_go ?_ | with_reducible refine Go.dict2_go ?_ | with_reducible refine Go.callE_go ?_ | with_reducible refine Go.callEK_go ?_ | ((with_reducible apply Go.callX_go); exact rfl) | with_reducible refine Go.raise0_go ?_ | with_reducible refine Go.raise1_go ?_ | ((with_reducible apply Go.is1_go); exact rfl) | ((with_reducible apply Go.isT_go); exact rfl) | ((with_reducible apply Go.fld_go); exact rfl) | ((with_reducible apply Go.setIx_go); exact rfl) | unfold fForS | unfold fLc | dsimp only [seqOf, List.set_cons_zero, List.set_cons_succ, setAll, wipeE])))
theorem mod0 {a p : Int} (hp : 0 < p) (h : a % p = 0) : p * (a / p) = a := by
  have := Int.emod_add_mul_ediv a p
  omega
/-- p is 2, or odd -/
def Od (p : Nat) : Prop := p = 2 ∨ (3 ≤ p ∧ p % 2 = 1)
theorem Pt.next {p n m k r : Nat} (h : Pt (p + 1) n m k r) (o : Od p) : Pt (if p = 2 then p + 1 else p + 2) n m k r := by
  by_cases e : p = 2
  · rw [if_pos e]; exact h
  · rw [if_neg e]
    have o3 : 3 ≤ p ∧ p % 2 = 1 := by
      rcases o with z | z
      · exact absurd z e
      · exact z
    refine ⟨h.m1, h.k1, h.r1, h.e, h.kf, fun t t2 tp d => ?_, h.apart⟩
    by_cases z : t < p + 1
    · exact h.small t t2 z d
    · have : t = p + 1 := by omega
      subst this
      refine h.small 2 (by omega) (by omega) (Nat.dvd_trans ?_ d)
      exact Nat.dvd_of_mod_eq_zero (by omega)
theorem Od.next {p : Nat} (o : Od p) : Od (if p = 2 then p + 1 else p + 2) := by
  unfold Od at *
  split <;> omega
theorem r_root_parts : ∀ ss (Q : D → Prop), S_root_parts ss Q → g_root_parts (endsOf Q) (initE N_root_parts ss) := by
  rintro ss Q ⟨n, rfl, ⟨n2, n3⟩, hq⟩
  obtain ⟨n, rfl⟩ : ∃ j : Nat, n = (j : Int) := ⟨n.toNat, by omega⟩
  have hq : Q (rpD (n : Int)) := hq
  unfold rpD at hq
  simp only [N_root_parts, arI, initE, List.length_cons, List.length_nil, Nat.reduceAdd, Nat.reduceSub, List.replicate, List.cons_append, List.nil_append, List.append_nil]
  simp only [g_root_parts, fSeqS, fSet, fSetN, fRet, fIfS, fNext, fBreak, fCont, fNever, fBin, fCmp, fV, fN, fC, lk, lk_z, lk_s, gAdd, gSub, gMul, gDiv, gMod, gPow, gShl, gShlW, gShr, gv, gLt, gLe, gGt, gGe, gEq, gNe, gIx, fNeg, fTV, fNot, fAnd, fOr, fAndV, fOrV, fNotV, fIf, fLN, fLC, fAN, fAC, fAB, fNV, fTup, fCB, bInt, bAbs, bLen, bMax2, bMin2, bTuple, fSeq, seqOf, fCall, fCallK, fAsg, gNm, gsNil, gsCons, gTpl, gSq, fPar, fMV, fMN, setAll, fApp, fExt, fSetIx, fFrz, fForS, fRng1, fRng2, fBits, fON, fOS, fSlT, fSlL, List.set_cons_zero, List.set_cons_succ, List.length_cons, List.length_nil, endsOf, decide_eq_true_eq, true_and, and_true, at0, at1, at2, at3, at4, Bool.not_eq_true', decide_eq_false_iff_not, lg2, Int.reduceLT, ↓reduceIte]
  by_cases n0 : (n : Int) = 0
  · rw [if_pos n0] at hq ⊢
    exact hq
  rw [if_neg n0] at hq ⊢
  have n1 : 1 ≤ n := by omega
  have nn : n ≤ 1000001 := by omega
  have hq' : ∀ m k : Int, RP (n : Int) m k → Q (.tuple [.int m, .int k]) := fun m k h => by
    obtain ⟨e1, e2⟩ := rp_eq (by omega) h
    rw [← e1, ← e2]
    exact hq
  refine while_of (fun x ρ => ∃ (m k r p : Nat) (t u v : Sl), ρ = [iS n, iS m, iS k, iS r, iS p, t, u, v] ∧ Od p ∧ p ≤ 200 ∧ Pt p n m k r ∧ x = 202 - p) ?_ _ _ ⟨1, 1, n, 2, _, _, _, rfl, .inl rfl, by omega, ⟨by omega, by omega, n1, by simp, sqf_one, fun t t2 tp => by omega, fun q hq a _ => ?_⟩, rfl⟩
  · rintro x ρ ⟨m, k, r, p, t, u, v, rfl, od, hp2, hP, rfl⟩ K hK
    have p2 : 2 ≤ p := by rcases od with z | z <;> omega
    obtain ⟨mb, kb, rb, krb⟩ := hP.bounds nn
    have sp : Sm 8 (p : Int) := Sm.nat (by omega) (by omega)
    have s1 : Sm 20 (m : Int) := Sm.nat (by omega) (by omega)
    have s2 : Sm 20 (k : Int) := Sm.nat (by omega) (by omega)
    have s3 : Sm 20 (r : Int) := Sm.nat (by omega) (by omega)
    have cast : ((p : Int) * p * p) = ((p * p * p : Nat) : Int) := by rw [Int.natCast_mul, Int.natCast_mul]
    simp only [fSeqS, fSet, fSetN, fRet, fIfS, fNext, fBreak, fCont, fNever, fBin, fCmp, fV, fN, fC, lk, lk_z, lk_s, gAdd, gSub, gMul, gDiv, gMod, gPow, gShl, gShlW, gShr, gv, gLt, gLe, gGt, gGe, gEq, gNe, gIx, fNeg, fTV, fNot, fAnd, fOr, fAndV, fOrV, fNotV, fIf, fLN, fLC, fAN, fAC, fAB, fNV, fTup, fCB, bInt, bAbs, bLen, bMax2, bMin2, bTuple, fSeq, seqOf, fCall, fCallK, fAsg, gNm, gsNil, gsCons, gTpl, gSq, fPar, fMV, fMN, setAll, fApp, fExt, fSetIx, fFrz, fForS, fRng1, fRng2, fBits, fON, fOS, fSlT, fSlL, List.set_cons_zero, List.set_cons_succ, List.length_cons, List.length_nil, endsOf, decide_eq_true_eq, true_and, and_true, at0, at1, at2, at3, at4, Bool.not_eq_true', decide_eq_false_iff_not, lg2, Int.reduceLT, ↓reduceIte]
    refine ⟨mw sp sp, mw (sp.mul sp) sp, ?_⟩
    split
    · rename_i h3
      rw [cast] at h3
      have h3 : p * p * p ≤ r := by omega
      have p100 : p ≤ 100 := by
        apply Classical.byContradiction
        intro c
        have a1 := Nat.mul_le_mul (by omega : 101 ≤ p) (by omega : 101 ≤ p)
        have a2 := Nat.mul_le_mul a1 (by omega : 101 ≤ p)
        omega
      -- the inner loop
      refine while_of (fun x ρ => ∃ (o r' : Nat), ρ = [iS n, iS m, iS k, iS r', iS p, iS o, u, v] ∧ 1 ≤ r' ∧ p ^ o * r' = r ∧ x = r') ?_ _ _ ⟨0, r, rfl, hP.r1, by simp, rfl⟩
      rintro x ρ ⟨o, r', rfl, hr', he, rfl⟩ K2 hK2
      simp only [fSeqS, fSet, fSetN, fRet, fIfS, fNext, fBreak, fCont, fNever, fBin, fCmp, fV, fN, fC, lk, lk_z, lk_s, gAdd, gSub, gMul, gDiv, gMod, gPow, gShl, gShlW, gShr, gv, gLt, gLe, gGt, gGe, gEq, gNe, gIx, fNeg, fTV, fNot, fAnd, fOr, fAndV, fOrV, fNotV, fIf, fLN, fLC, fAN, fAC, fAB, fNV, fTup, fCB, bInt, bAbs, bLen, bMax2, bMin2, bTuple, fSeq, seqOf, fCall, fCallK, fAsg, gNm, gsNil, gsCons, gTpl, gSq, fPar, fMV, fMN, setAll, fApp, fExt, fSetIx, fFrz, fForS, fRng1, fRng2, fBits, fON, fOS, fSlT, fSlL, List.set_cons_zero, List.set_cons_succ, List.length_cons, List.length_nil, endsOf, decide_eq_true_eq, true_and, and_true, at0, at1, at2, at3, at4, Bool.not_eq_true', decide_eq_false_iff_not, lg2, Int.reduceLT, ↓reduceIte]
      rw [if_pos (by omega : (0 : Int) < p)]
      split
      · rename_i hm
        obtain ⟨w, ew⟩ := nat_mod0.mp hm
        subst ew
        have hw : 1 ≤ w := by
          apply Classical.byContradiction
          intro z
          have : w = 0 := by omega
          subst this
          rw [Nat.mul_zero] at hr'
          omega
        refine ⟨sp.log, ?_⟩
        rw [if_pos (by omega : (0 : Int) < p)]
        have ed : ((p * w : Nat) : Int) / (p : Int) = (w : Int) := by
          rw [Int.natCast_mul]
          exact Int.mul_ediv_cancel_left _ (by omega)
        rw [ed]
        refine hK2 _ _ ?_ ⟨o + 1, w, rfl, hw, ?_, rfl⟩
        · have := Nat.mul_le_mul_right w p2
          omega
        · rw [Nat.pow_succ, Nat.mul_assoc]; exact he
      · rename_i hm
        have nd : ¬ p ∣ x := fun z => hm (nat_mod0.mpr z)
        subst he
        have st := hP.step p2 hr' nd
        have ob : o < 21 := by
          apply Classical.byContradiction
          intro c
          have a1 : 2 ^ 21 ≤ p ^ o := Nat.le_trans (Nat.pow_le_pow_left p2 21) (Nat.pow_le_pow_right (by omega) (by omega))
          have a2 := Nat.mul_le_mul a1 hr'
          omega
        have half : ((o : Int) / 2).toNat = o / 2 := by omega
        refine ⟨by omega, by omega, ?_⟩
        rw [half]
        show (fFor _ _ _ _) _
        refine for_of (fun ds ρ => ∃ (j : Nat) (u : Sl), ρ = [iS n, iS ((m * p ^ j : Nat) : Int), iS k, iS x, iS p, iS o, u, v] ∧ j + ds.length = o / 2) ?_ ?_ _ _ ⟨0, u, by rw [Nat.pow_zero, Nat.mul_one], by rw [rng_len]; omega⟩
        · rintro d ds ρ ⟨j, u, rfl, hj⟩ K3 hK3
          rw [List.length_cons] at hj
          simp only [fSeqS, fSet, fSetN, fRet, fIfS, fNext, fBreak, fCont, fNever, fBin, fCmp, fV, fN, fC, lk, lk_z, lk_s, gAdd, gSub, gMul, gDiv, gMod, gPow, gShl, gShlW, gShr, gv, gLt, gLe, gGt, gGe, gEq, gNe, gIx, fNeg, fTV, fNot, fAnd, fOr, fAndV, fOrV, fNotV, fIf, fLN, fLC, fAN, fAC, fAB, fNV, fTup, fCB, bInt, bAbs, bLen, bMax2, bMin2, bTuple, fSeq, seqOf, fCall, fCallK, fAsg, gNm, gsNil, gsCons, gTpl, gSq, fPar, fMV, fMN, setAll, fApp, fExt, fSetIx, fFrz, fForS, fRng1, fRng2, fBits, fON, fOS, fSlT, fSlL, List.set_cons_zero, List.set_cons_succ, List.length_cons, List.length_nil, endsOf, decide_eq_true_eq, true_and, and_true, at0, at1, at2, at3, at4, Bool.not_eq_true', decide_eq_false_iff_not, lg2, Int.reduceLT, ↓reduceIte]
          have sj : Sm 60 ((m * p ^ j : Nat) : Int) := by
            have : m * p ^ j ≤ m * p ^ (o / 2) := Nat.mul_le_mul_left _ (Nat.pow_le_pow_right (by omega) (by omega))
            have := (st.bounds nn).1
            exact Sm.nat (by omega) (by omega)
          refine ⟨mw sj sp, hK3 _ ⟨j + 1, .sh d, ?_, by omega⟩⟩
          rw [Nat.pow_succ, ← Nat.mul_assoc, Int.natCast_mul (m * p ^ j) p]
        · rintro ρ ⟨j, u, rfl, hj⟩
          have hj : j = o / 2 := by simpa using hj
          subst hj
          simp only [fSeqS, fSet, fSetN, fRet, fIfS, fNext, fBreak, fCont, fNever, fBin, fCmp, fV, fN, fC, lk, lk_z, lk_s, gAdd, gSub, gMul, gDiv, gMod, gPow, gShl, gShlW, gShr, gv, gLt, gLe, gGt, gGe, gEq, gNe, gIx, fNeg, fTV, fNot, fAnd, fOr, fAndV, fOrV, fNotV, fIf, fLN, fLC, fAN, fAC, fAB, fNV, fTup, fCB, bInt, bAbs, bLen, bMax2, bMin2, bTuple, fSeq, seqOf, fCall, fCallK, fAsg, gNm, gsNil, gsCons, gTpl, gSq, fPar, fMV, fMN, setAll, fApp, fExt, fSetIx, fFrz, fForS, fRng1, fRng2, fBits, fON, fOS, fSlT, fSlL, List.set_cons_zero, List.set_cons_succ, List.length_cons, List.length_nil, endsOf, decide_eq_true_eq, true_and, and_true, at0, at1, at2, at3, at4, Bool.not_eq_true', decide_eq_false_iff_not, lg2, Int.reduceLT, ↓reduceIte]
          have e2 : ((o : Int) % 2 = 1) ↔ o % 2 = 1 := by omega
          have nx := st.next od
          have on := od.next
          have le : (if p = 2 then p + 1 else p + 2) ≤ 200 := by split <;> omega
          have gt : 202 - (if p = 2 then p + 1 else p + 2) < 202 - p := by split <;> omega
          have fin : ∀ k' : Nat, k' = (if o % 2 = 1 then k * p else k) → if (p : Int) = 2 then K [iS n, iS ((m * p ^ (o / 2) : Nat) : Int), iS k', iS x, iS ((p : Int) + 1), iS o, u, v] else K [iS n, iS ((m * p ^ (o / 2) : Nat) : Int), iS k', iS x, iS ((p : Int) + 2), iS o, u, v] := fun k' ek => by
            subst ek
            by_cases z : p = 2
            · rw [if_pos (by omega)]
              rw [if_pos z] at nx on le gt
              exact hK _ _ gt ⟨_, _, _, p + 1, _, _, _, rfl, on, le, nx, rfl⟩
            · rw [if_neg (by omega)]
              rw [if_neg z] at nx on le gt
              exact hK _ _ gt ⟨_, _, _, p + 2, _, _, _, rfl, on, le, nx, rfl⟩
          split
          · rename_i z
            have z := e2.mp z
            refine ⟨mw s2 sp, ?_⟩
            have em : (k : Int) * (p : Int) = ((k * p : Nat) : Int) := by rw [Int.natCast_mul]
            rw [em]
            exact fin _ (by rw [if_pos z])
          · rename_i z
            exact fin k (by rw [if_neg fun y => z (e2.mpr y)])
    · rename_i h3
      rw [cast] at h3
      refine go_root (s3.le (by decide)) ?_
      have hr := rF_ok (r : Int)
      generalize rF (r : Int) = s at hr
      have ss : 0 ≤ s ∧ s ≤ r := by
        unfold Rn at hr
        split at hr
        · omega
        · have := rt_pos hr (by omega)
          have := Int.mul_le_mul_of_nonneg_left (a := 1) (b := s) (c := s) (by omega) (by omega)
          have := hr.2.1
          omega
      have sS : Sm 20 s := Sm.nat (by omega) (by omega)
      try simp only [fSeqS, fSet, fSetN, fRet, fIfS, fNext, fBreak, fCont, fNever, fBin, fCmp, fV, fN, fC, lk, lk_z, lk_s, gAdd, gSub, gMul, gDiv, gMod, gPow, gShl, gShlW, gShr, gv, gLt, gLe, gGt, gGe, gEq, gNe, gIx, fNeg, fTV, fNot, fAnd, fOr, fAndV, fOrV, fNotV, fIf, fLN, fLC, fAN, fAC, fAB, fNV, fTup, fCB, bInt, bAbs, bLen, bMax2, bMin2, bTuple, fSeq, seqOf, fCall, fCallK, fAsg, gNm, gsNil, gsCons, gTpl, gSq, fPar, fMV, fMN, setAll, fApp, fExt, fSetIx, fFrz, fForS, fRng1, fRng2, fBits, fON, fOS, fSlT, fSlL, List.set_cons_zero, List.set_cons_succ, List.length_cons, List.length_nil, endsOf, decide_eq_true_eq, true_and, and_true, at0, at1, at2, at3, at4, Bool.not_eq_true', decide_eq_false_iff_not, lg2, Int.reduceLT, ↓reduceIte]
      refine ⟨mw sS sS, ?_⟩
      have pe := pt_end hP (by omega) hr
      split
      · rename_i e
        exact ⟨mw s1 sS, hq' _ _ (pe.1 e)⟩
      · rename_i ne
        refine ⟨mw s2 s3, ?_⟩
        have em : (k : Int) * (r : Int) = ((k * r : Nat) : Int) := by rw [Int.natCast_mul]
        rw [em]
        exact hq' _ _ (pe.2 ne)
  · have := Nat.le_of_dvd (by decide) a
    have := hq.1
    omega
end T
end DL
namespace DL
namespace T
open PySem L2 PySem.Spec PyProof.Rows
local macro_rules
  | `(tactic| get_elem_tactic_extensible) => `(tactic| (repeat (first | with_reducible refine Go.lc_go ?_ | with_reducible refine Go.ln_go ?_ | ((with_reducible apply Go.v_sh); exact rfl) | ((with_reducible apply Go.n_sh); exact rfl) | ((with_reducible apply Go.n_ow); exact rfl) | ((with_reducible apply Go.ab_go); exact rfl) | ((with_reducible apply Go.app_go); exact rfl) | ((with_reducible apply Go.ext_go); exact rfl) | with_reducible refine Go.c_go ?_ | with_reducible refine Go.tup_go ?_ | with_reducible refine Go.nv_go ?_ | with_reducible refine Go.bin_go ?_ | with_reducible refine Go.slT_go ?_ | with_reducible refine Go.slL_go ?_ | with_reducible refine Go.on_go ?_ | with_reducible refine Go.os_go ?_ | with_reducible refine Go.neg_go ?_ | with_reducible refine Go.sub_go ?_ | with_reducible refine Go.addI_go ?_ | with_reducible refine Go.seqT_go ?_ | with_reducible refine Go.call_go ?_ | with_reducible refine Go.callK_go ?_ | with_reducible refine Go.cb_go ?_ | with_reducible refine Go.dict1_go ?_ | with_reducible refine Go.if_go ?_ | with_reducible refine Go.an_go ?_ | with_reducible refine Go.ac_go ?_ | with_reducible refine Go.mv_go ?_ | with_reducible refine Go.par_go ?_ | with_reducible refine Go.sq_go ?_ | with_reducible refine Go.set_go ?_ | with_reducible refine Go.setN_go ?_ | with_reducible refine Go.ret_go ?_ | with_reducible refine Go.asg_go ?_ | with_reducible refine Go.ifs_go ?_ | with_reducible refine Go.next_go ?_ | with_reducible refine Go.nm_go ?_ | with_reducible refine Go.cmp_go ?_ | with_reducible refine Go.tv_go ?_ | with_reducible refine Go.not_go ?_ | with_reducible refine Go.and_go ?_ | with_reducible refine Go.or_go ?_ | with_reducible refine Go.lenT_go ?_ | with_reducible refine Go.lenL_go ?_ | with_reducible refine Go.absI_go ?_ | with_reducible refine Go.intI_go ?_ | with_reducible refine Go.max2_go ?_ | with_reducible refine Go.min2_go ?_ | with_reducible refine Go.tupL_go ?_ | with_reducible refine Go.tupT_go ?_ | with_reducible refine Go.gv_go ?_ | with_reducible refine Go.ltI_go ?_ | with_reducible refine Go.leI_go ?_ | with_reducible refine Go.gtI_go ?_ | with_reducible refine Go.geI_go ?_ | with_reducible refine Go.eqI_go ?_ | with_reducible refine Go.neI_go ?_ | with_reducible refine Go.eqS_go ?_ | with_reducible refine Go.rng1_go ?_ | ((first | with_reducible apply Go.ixL_go | with_reducible apply Go.ixT_go); first | exact DL.at0 _ _ | exact DL.at1 _ _ _ | exact DL.at2 _ _ _ _ | exact DL.at3 _ _ _ _ _ | exact DL.at4 _ _ _ _ _ _) | ((with_reducible apply Go.frz_go); exact rfl) | ((with_reducible apply Go.frz_sh); exact rfl) | with_reducible refine Go.mn_go ?_ | with_reducible refine Go.andV_go ?_ | ((first | with_reducible apply Go.sqT_go | with_reducible apply Go.sqL_go); exact rfl) | with_reducible refine Go.gsC_go ?_ | with_reducible refine Go.gsN_go ?_ | with_reducible refine Go.ifT (by decide +kernel) ?_ | with_reducible refine Go.ifF (by decide +kernel) ?_ | with_reducible refine Go.cat_go ?_ | with_reducible refine Go.callO_go ?_ | ((with_reducible apply Go.retO_go); exact rfl) | with_reducible refine Go.retN_go ?_ | with_reducible refine Go.ifN_go ?_ | with_reducible refine Go.yes_go ?_ | with_reducible refine Go.isI_go ?_ | with_reducible refine Go.isB_go ?_ | with_reducible refine Go.isN_go ?_ | with_reducible refine Go.notN_go ?_ | with_reducible refine Go.lrev_go ?_ | with_reducible refine Go.bk_go ?_ | with_reducible refine Go.ct_go ?_ | with_reducible refine Go.rng2_go ?_ | with_reducible refine Go.orV_go ?_ | with_reducible refine Go.notV_go ?_ | ((with_reducible apply Go.extT_go); exact rfl) | with_reducible refine Go.isI2_go ?_ | with_reducible refine Go.dict2_go ?_ | with_reducible refine Go.callE_go ?_ | with_reducible refine Go.callEK_go ?_ | ((with_reducible apply Go.callX_go); exact rfl) | with_reducible refine Go.raise0_go ?_ | with_reducible refine Go.raise1_go ?_ | ((with_reducible apply Go.is1_go); exact rfl) | ((with_reducible apply Go.isT_go); exact rfl) | ((with_reducible apply Go.fld_go); exact rfl) | ((with_reducible apply Go.setIx_go); exact rfl) | unfold fForS | unfold fLc | dsimp only [seqOf, List.set_cons_zero, List.set_cons_succ, setAll, wipeE])))
theorem one_mul_le {m k : Int} (hm : 1 ≤ m) (hk : 1 ≤ k) : m ≤ m * k ∧ k ≤ m * k := by
  have a := Int.mul_le_mul_of_nonneg_left hk (by omega : 0 ≤ m)
  have b := Int.mul_le_mul_of_nonneg_right hm (by omega : 0 ≤ k)
  omega
theorem RP.bd {n m k : Int} (h : RP n m k) (hn : n ≤ 1000001) : m ≤ 1000001 ∧ k ≤ 1000001 := by
  obtain ⟨h1, h2, h3, _⟩ := h
  have a := one_mul_le h1 h1
  have b := one_mul_le (by omega : 1 ≤ m * m) h2
  omega
theorem sm20 {n : Int} (h0 : 0 ≤ n) (h1 : n ≤ 1000001) : Sm 20 n := by
  unfold Sm
  omega
theorem r_surd_of : ∀ ss (Q : D → Prop), S_surd_of ss Q → g_surd_of (endsOf Q) (initE N_surd_of ss) := by
  rintro ss Q ⟨s, rfl, ⟨h1, h2, h3, h4, h5, h6⟩, hq⟩
  have hq : Q (ofS s).D := hq
  unfold ofS at hq
  simp only [N_surd_of, ar4, initE, List.length_cons, List.length_nil, Nat.reduceAdd, Nat.reduceSub, List.replicate, List.cons_append, List.nil_append, List.append_nil]
  unfold g_surd_of
  have z : ∀ {k : Nat}, Sm k (0 : Int) := fun {k} => by
    unfold Sm
    exact Nat.pow_pos (by decide)
  get_elem_tactic_extensible
  refine ⟨s.d, rfl, ⟨h5, h6⟩, ?_⟩
  unfold rpD
  by_cases d0 : s.d = 0
  · rw [if_pos d0] at hq ⊢
    get_elem_tactic_extensible
    refine Go.mulI_go (mw h2 (Sm.nat (k := 1) (by decide) (by decide))) ?_
    get_elem_tactic_extensible
    rw [Int.mul_zero, Int.add_zero]
    exact go_lowest ⟨s.a, 0, s.c, 0⟩ ⟨h4, h1.le (by decide), z, h3.le (by decide)⟩ hq
  · rw [if_neg d0] at hq ⊢
    have hr := rpp_ok (n := s.d) (by omega)
    obtain ⟨b1, b2⟩ := hr.bd h6
    have sm := sm20 (by have := hr.m1; omega) b1
    get_elem_tactic_extensible
    refine Go.ifd (fun e => ?_) (fun e => ?_)
    · rw [if_pos e] at hq
      get_elem_tactic_extensible
      refine Go.mulI_go (mw h2 sm) ?_
      get_elem_tactic_extensible
      exact go_lowest ⟨s.a + s.b * rpm s.d, 0, s.c, 0⟩ ⟨h4, ((h1.le (l := 80) (by decide)).add (h2.mul sm)).le (by decide), z, h3.le (by decide)⟩ hq
    · rw [if_neg e] at hq
      get_elem_tactic_extensible
      refine Go.mulI_go (mw h2 sm) ?_
      get_elem_tactic_extensible
      exact go_lowest ⟨s.a, s.b * rpm s.d, s.c, rpk s.d⟩ ⟨h4, h1.le (by decide), (h2.mul sm).le (by decide), h3.le (by decide)⟩ hq
theorem nrmZ_b0 (a c d : Int) : nrmZ a 0 c d = nrmZ a 0 c 0 := by
  unfold nrmZ nrm
  simp
theorem r__law_own_of : ∀ ss (Q : D → Prop), S__law_own_of ss Q → g__law_own_of (endsOf Q) (initE N__law_own_of ss) := by
  rintro ss Q ⟨s, rfl, ⟨h1, h2, h3, h4, h5, h6⟩, hq⟩
  have hq : Q (ofS s).D := hq
  unfold ofS at hq
  simp only [N__law_own_of, ar4, initE, List.length_cons, List.length_nil, Nat.reduceAdd, Nat.reduceSub, List.replicate, List.cons_append, List.nil_append, List.append_nil]
  unfold g__law_own_of
  have z : ∀ {k : Nat}, Sm k (0 : Int) := fun {k} => by
    unfold Sm
    exact Nat.pow_pos (by decide)
  get_elem_tactic_extensible
  refine Go.ifd (fun e => ?_) (fun e => ?_)
  · get_elem_tactic_extensible
    refine go__law_surd ⟨s.a, 0, s.c, 0⟩ ⟨h4, h1.le (by decide), z, h3.le (by decide)⟩ ?_
    show Q (nrmZ s.a 0 s.c 0).D
    rw [e, Int.zero_mul, Int.add_zero, nrmZ_b0 _ _ (rpk s.d)] at hq
    simpa using hq
  get_elem_tactic_extensible
  refine Go.ifd (fun e2 => ?_) (fun d0 => ?_)
  · get_elem_tactic_extensible
    refine go__law_surd ⟨s.a, 0, s.c, 0⟩ ⟨h4, h1.le (by decide), z, h3.le (by decide)⟩ ?_
    rw [if_pos e2] at hq
    exact hq
  rw [if_neg d0] at hq
  have hr := rpp_ok (n := s.d) (by omega)
  obtain ⟨b1, b2⟩ := hr.bd h6
  have sm := sm20 (by have := hr.m1; omega) b1
  get_elem_tactic_extensible
  refine ⟨s.d, rfl, ⟨by omega, h6⟩, ?_⟩
  get_elem_tactic_extensible
  refine Go.ifd (fun e => ?_) (fun e => ?_)
  · rw [if_pos e] at hq
    get_elem_tactic_extensible
    refine Go.mulI_go (mw h2 sm) ?_
    get_elem_tactic_extensible
    exact go__law_surd ⟨s.a + s.b * rpm s.d, 0, s.c, 0⟩ ⟨h4, ((h1.le (l := 80) (by decide)).add (h2.mul sm)).le (by decide), z, h3.le (by decide)⟩ hq
  · rw [if_neg e] at hq
    get_elem_tactic_extensible
    refine Go.mulI_go (mw h2 sm) ?_
    get_elem_tactic_extensible
    exact go__law_surd ⟨s.a, s.b * rpm s.d, s.c, rpk s.d⟩ ⟨h4, h1.le (by decide), (h2.mul sm).le (by decide), h3.le (by decide)⟩ hq
theorem norm_ne {a b n : Int} (hn : SF n) (hb : b ≠ 0) : a * a - b * b * n ≠ 0 := by
  intro e
  obtain ⟨n2, _, nf⟩ := hn
  obtain ⟨n, rfl⟩ : ∃ j : Nat, n = (j : Int) := ⟨n.toNat, by omega⟩
  have e2 : a.natAbs * a.natAbs * 1 = b.natAbs * b.natAbs * n := by
    have : ((a.natAbs * a.natAbs * 1 : Nat) : Int) = ((b.natAbs * b.natAbs * n : Nat) : Int) := by
      rw [Int.natCast_mul, Int.natCast_mul, Int.natCast_mul, Int.natCast_mul, Int.natAbs_mul_self', Int.natAbs_mul_self']
      omega
    exact Int.ofNat.inj this
  have b1 : 1 ≤ b.natAbs := by omega
  have a1 : 1 ≤ a.natAbs := by
    apply Classical.byContradiction
    intro z
    have : a.natAbs = 0 := by omega
    rw [this] at e2
    have := Nat.mul_pos (Nat.mul_pos b1 b1) (by omega : 0 < n)
    omega
  have := (rp_nat a1 b1 e2 (fun t ht d => by
    have := Nat.le_of_dvd (by decide) d
    have := Nat.mul_le_mul ht ht
    omega) fun t ht d => nf t (by omega) (by rw [← Int.natCast_mul]; exact Int.natCast_dvd_natCast.mpr d)).2
  omega
theorem back_ok {s : S4} {n : Int} (hn : SF n) (hf : Fl n s) (hz : ¬ (s.a = 0 ∧ s.b = 0)) : s.a * s.a - s.b * s.b * s.d ≠ 0 := by
  rcases hf with ⟨h1, h2⟩ | ⟨h1, h2⟩
  · have ha : s.a ≠ 0 := fun z => hz ⟨z, h2⟩
    rw [h2, Int.zero_mul, Int.zero_mul, Int.sub_zero]
    exact Int.mul_ne_zero ha ha
  · rw [h1]
    exact norm_ne hn h2
theorem r_surd_back : ∀ ss Q E, S_surd_back ss Q E → g_surd_back (fun x _ => E x) (endsOf Q) (initE N_surd_back ss) := by
  rintro ss Q E ⟨s, rfl, ⟨h, n, hn, hf⟩, he, hq⟩
  simp only [N_surd_back, arS, D4, initE, List.length_cons, List.length_nil, Nat.reduceAdd, Nat.reduceSub, List.replicate, List.cons_append, List.nil_append, List.append_nil]
  unfold g_surd_back
  get_elem_tactic_extensible
  have go : ¬ (s.a = 0 ∧ s.b = 0) → gMul (.int s.c) (.int s.a) fun d =>
    fAC (fBin gMul (fNeg (fN 3)) (fN 2))
      (fAC (fBin gSub (fBin gMul (fN 1) (fN 1)) (fBin gMul (fBin gMul (fN 2) (fN 2)) (fN 4))) (fAC (fV 4) fAN))
      [Sl.sh (.tuple [.int s.a, .int s.b, .int s.c, .int s.d]), iS s.a, iS s.b, iS s.c, iS s.d]
      fun ss => S_lowest (Sl.sh d :: ss) Q := fun nz => by
    refine Go.mulI_go (mw h.c h.a) ?_
    get_elem_tactic_extensible
    refine Go.mulI_go (mw h.c.neg h.b) ?_
    get_elem_tactic_extensible
    refine Go.mulI_go (mw h.a h.a) ?_
    get_elem_tactic_extensible
    refine Go.mulI_go (mw h.b h.b) ?_
    get_elem_tactic_extensible
    refine Go.mulI_go (mw (h.b.mul h.b) h.d) ?_
    get_elem_tactic_extensible
    exact go_lowest ⟨s.c * s.a, -s.c * s.b, s.a * s.a - s.b * s.b * s.d, s.d⟩ ⟨back_ok hn hf nz, (h.c.mul h.a).le (by decide), (h.c.neg.mul h.b).le (by decide), (((h.a.mul h.a).le (l := 4020) (by decide)).sub ((h.b.mul h.b).mul h.d)).le (by decide)⟩ (hq nz)
  refine Go.ifd (fun ea => ?_) (fun ea => ?_)
  · refine Go.ifd (fun eb => ?_) (fun eb => ?_)
    · get_elem_tactic_extensible
      exact he ⟨ea, eb⟩
    · get_elem_tactic_extensible
      exact go fun z => eb z.2
  · get_elem_tactic_extensible
    exact go fun z => ea z.1
theorem r__law_refused : ∀ x Q, S__law_refused x Q → g__law_refused (endsOf Q) (initE N__law_refused [.ex x]) := by
  rintro x Q ⟨rfl, hq⟩
  simp only [N__law_refused, initE, List.length_cons, List.length_nil, Nat.reduceAdd, Nat.reduceSub, List.replicate, List.cons_append, List.nil_append, List.append_nil]
  unfold g__law_refused
  get_elem_tactic_extensible
  refine ⟨by unfold most; decide, ?_⟩
  get_elem_tactic_extensible
  exact hq
theorem go_draw {n : Int} {Q : D → Prop} (h : 0 < n) (hn : n.natAbs.log2 < 9000) (hq : ∀ r : Int, 0 ≤ r → r < n → Q (.int r)) : S__law_draw [.bg, iS n] Q := ⟨n, rfl, h, hn, hq⟩
theorem lg_small {n : Int} (h0 : 0 ≤ n) (h : n < 1099511627776) : n.natAbs.log2 < 9000 := Sm.log (k := 40) (Sm.nat h0 h)
theorem r__law_pick : ∀ ss (Q : D → Prop), S__law_pick ss Q → g__law_pick (endsOf Q) (initE N__law_pick ss) := by
  rintro ss Q ⟨ds, rfl, ⟨hne, hl⟩, hq⟩
  have hq' := fun d (hd : d ∈ ds) => hq d hd
  have pos : 0 < ds.length := List.length_pos_iff.mpr hne
  simp only [N__law_pick, initE, List.length_cons, List.length_nil, Nat.reduceAdd, Nat.reduceSub, List.replicate, List.cons_append, List.nil_append, List.append_nil]
  simp only [g__law_pick, fSeqS, fSet, fSetN, fRet, fIfS, fNext, fBreak, fCont, fNever, fBin, fCmp, fV, fN, fC, lk, lk_z, lk_s, gAdd, gSub, gMul, gDiv, gMod, gPow, gShl, gShlW, gShr, gv, gLt, gLe, gGt, gGe, gEq, gNe, gIx, fNeg, fTV, fNot, fAnd, fOr, fAndV, fOrV, fNotV, fIf, fLN, fLC, fAN, fAC, fAB, fNV, fTup, fCB, bInt, bAbs, bLen, bMax2, bMin2, bTuple, fSeq, seqOf, fCall, fCallK, fAsg, gNm, gsNil, gsCons, gTpl, gSq, fPar, fMV, fMN, setAll, fApp, fExt, fSetIx, fFrz, fForS, fRng1, fRng2, fBits, fON, fOS, fSlT, fSlL, List.set_cons_zero, List.set_cons_succ, List.length_cons, List.length_nil, endsOf, decide_eq_true_eq, true_and, and_true, at0, at1, at2, at3, at4, Bool.not_eq_true', decide_eq_false_iff_not, lg2, Int.reduceLT, ↓reduceIte]
  refine go_draw (by omega) (lg_small (by omega) (by omega)) fun r h0 h1 => ?_
  obtain ⟨j, rfl⟩ : ∃ j : Nat, r = (j : Int) := ⟨r.toNat, by omega⟩
  have hj : j < ds.length := by omega
  have e : atI ds ((j : Nat) : Int) = some ds[j] := atI_nat (List.getElem?_eq_getElem hj)
  simp only [fSeqS, fSet, fSetN, fRet, fIfS, fNext, fBreak, fCont, fNever, fBin, fCmp, fV, fN, fC, lk, lk_z, lk_s, gAdd, gSub, gMul, gDiv, gMod, gPow, gShl, gShlW, gShr, gv, gLt, gLe, gGt, gGe, gEq, gNe, gIx, fNeg, fTV, fNot, fAnd, fOr, fAndV, fOrV, fNotV, fIf, fLN, fLC, fAN, fAC, fAB, fNV, fTup, fCB, bInt, bAbs, bLen, bMax2, bMin2, bTuple, fSeq, seqOf, fCall, fCallK, fAsg, gNm, gsNil, gsCons, gTpl, gSq, fPar, fMV, fMN, setAll, fApp, fExt, fSetIx, fFrz, fForS, fRng1, fRng2, fBits, fON, fOS, fSlT, fSlL, List.set_cons_zero, List.set_cons_succ, List.length_cons, List.length_nil, endsOf, decide_eq_true_eq, true_and, and_true, at0, at1, at2, at3, at4, Bool.not_eq_true', decide_eq_false_iff_not, lg2, Int.reduceLT, ↓reduceIte, e]
  exact hq' _ (List.getElem_mem hj)
theorem go_pick {ds : List D} {Q : D → Prop} (h1 : ds ≠ []) (h2 : ds.length < 1000) (hq : ∀ d ∈ ds, Q d) : S__law_pick [.bg, .sh (.list ds)] Q := ⟨ds, rfl, ⟨h1, h2⟩, hq⟩
theorem pw {k : Nat} (h : k ≤ 1000) : CPow 10 ((k : Nat) : Int) := ⟨by omega, by omega, by decide⟩
theorem pw8 : CPow 10 8 := pw (k := 8) (by decide)
theorem pw4 : CPow 10 4 := pw (k := 4) (by decide)
theorem pw12 : CPow 10 12 := pw (k := 12) (by decide)
theorem pw6 : CPow 10 6 := pw (k := 6) (by decide)
theorem tp4 : (10 : Int) ^ (4 : Int).toNat = 10000 := by decide
theorem tp6 : (10 : Int) ^ (6 : Int).toNat = 1000000 := by decide
theorem tp8 : (10 : Int) ^ (8 : Int).toNat = 100000000 := by decide
theorem tp12 : (10 : Int) ^ (12 : Int).toNat = 1000000000000 := by decide
theorem r__law_great : ∀ ss (Q : D → Prop), S__law_great ss Q → g__law_great (endsOf Q) (initE N__law_great ss) := by
  rintro ss Q ⟨n, rfl, hn, hq⟩
  have hq' := fun r h0 h1 => hq r ⟨h0, h1⟩
  simp only [N__law_great, initE, List.length_cons, List.length_nil, Nat.reduceAdd, Nat.reduceSub, List.replicate, List.cons_append, List.nil_append, List.append_nil]
  simp only [g__law_great, fSeqS, fSet, fSetN, fRet, fIfS, fNext, fBreak, fCont, fNever, fBin, fCmp, fV, fN, fC, lk, lk_z, lk_s, gAdd, gSub, gMul, gDiv, gMod, gPow, gShl, gShlW, gShr, gv, gLt, gLe, gGt, gGe, gEq, gNe, gIx, fNeg, fTV, fNot, fAnd, fOr, fAndV, fOrV, fNotV, fIf, fLN, fLC, fAN, fAC, fAB, fNV, fTup, fCB, bInt, bAbs, bLen, bMax2, bMin2, bTuple, fSeq, seqOf, fCall, fCallK, fAsg, gNm, gsNil, gsCons, gTpl, gSq, fPar, fMV, fMN, setAll, fApp, fExt, fSetIx, fFrz, fForS, fRng1, fRng2, fBits, fON, fOS, fSlT, fSlL, List.set_cons_zero, List.set_cons_succ, List.length_cons, List.length_nil, endsOf, decide_eq_true_eq, true_and, and_true, at0, at1, at2, at3, at4, Bool.not_eq_true', decide_eq_false_iff_not, lg2, Int.reduceLT, ↓reduceIte, pw8, tp8]
  refine ⟨by decide, by decide, ?_⟩
  refine for_of (fun ds ρ => ∃ (f : Int) (t : Sl), ρ = [.bg, iS n, iS f, t] ∧ Sm (200 - 40 * ds.length) f ∧ ds.length ≤ 4) ?_ ?_ _ _ ⟨0, .un, rfl, ?_, by rw [rng_len]; decide⟩
  · rintro d ds ρ ⟨f, t, rfl, hf, hl⟩ K hK
    rw [List.length_cons] at hf hl
    simp only [fSeqS, fSet, fSetN, fRet, fIfS, fNext, fBreak, fCont, fNever, fBin, fCmp, fV, fN, fC, lk, lk_z, lk_s, gAdd, gSub, gMul, gDiv, gMod, gPow, gShl, gShlW, gShr, gv, gLt, gLe, gGt, gGe, gEq, gNe, gIx, fNeg, fTV, fNot, fAnd, fOr, fAndV, fOrV, fNotV, fIf, fLN, fLC, fAN, fAC, fAB, fNV, fTup, fCB, bInt, bAbs, bLen, bMax2, bMin2, bTuple, fSeq, seqOf, fCall, fCallK, fAsg, gNm, gsNil, gsCons, gTpl, gSq, fPar, fMV, fMN, setAll, fApp, fExt, fSetIx, fFrz, fForS, fRng1, fRng2, fBits, fON, fOS, fSlT, fSlL, List.set_cons_zero, List.set_cons_succ, List.length_cons, List.length_nil, endsOf, decide_eq_true_eq, true_and, and_true, at0, at1, at2, at3, at4, Bool.not_eq_true', decide_eq_false_iff_not, lg2, Int.reduceLT, ↓reduceIte, pw8, tp8]
    have s8 : Sm 27 100000000 := Sm.nat (by decide) (by decide)
    refine ⟨mw hf s8, go_draw (by decide) (lg_small (by decide) (by decide)) fun r h0 h1 => ?_⟩
    simp only [fSeqS, fSet, fSetN, fRet, fIfS, fNext, fBreak, fCont, fNever, fBin, fCmp, fV, fN, fC, lk, lk_z, lk_s, gAdd, gSub, gMul, gDiv, gMod, gPow, gShl, gShlW, gShr, gv, gLt, gLe, gGt, gGe, gEq, gNe, gIx, fNeg, fTV, fNot, fAnd, fOr, fAndV, fOrV, fNotV, fIf, fLN, fLC, fAN, fAC, fAB, fNV, fTup, fCB, bInt, bAbs, bLen, bMax2, bMin2, bTuple, fSeq, seqOf, fCall, fCallK, fAsg, gNm, gsNil, gsCons, gTpl, gSq, fPar, fMV, fMN, setAll, fApp, fExt, fSetIx, fFrz, fForS, fRng1, fRng2, fBits, fON, fOS, fSlT, fSlL, List.set_cons_zero, List.set_cons_succ, List.length_cons, List.length_nil, endsOf, decide_eq_true_eq, true_and, and_true, at0, at1, at2, at3, at4, Bool.not_eq_true', decide_eq_false_iff_not, lg2, Int.reduceLT, ↓reduceIte]
    refine hK _ ⟨_, _, rfl, ?_, by omega⟩
    have sr : Sm 27 r := Sm.nat h0 (by omega)
    refine Sm.le (Sm.add (hf.mul s8) (sr.le (l := 200 - 40 * (ds.length + 1) + 27) (by omega))) (by omega)
  · rintro ρ ⟨f, t, rfl, hf, _⟩
    simp only [fSeqS, fSet, fSetN, fRet, fIfS, fNext, fBreak, fCont, fNever, fBin, fCmp, fV, fN, fC, lk, lk_z, lk_s, gAdd, gSub, gMul, gDiv, gMod, gPow, gShl, gShlW, gShr, gv, gLt, gLe, gGt, gGe, gEq, gNe, gIx, fNeg, fTV, fNot, fAnd, fOr, fAndV, fOrV, fNotV, fIf, fLN, fLC, fAN, fAC, fAB, fNV, fTup, fCB, bInt, bAbs, bLen, bMax2, bMin2, bTuple, fSeq, seqOf, fCall, fCallK, fAsg, gNm, gsNil, gsCons, gTpl, gSq, fPar, fMV, fMN, setAll, fApp, fExt, fSetIx, fFrz, fForS, fRng1, fRng2, fBits, fON, fOS, fSlT, fSlL, List.set_cons_zero, List.set_cons_succ, List.length_cons, List.length_nil, endsOf, decide_eq_true_eq, true_and, and_true, at0, at1, at2, at3, at4, Bool.not_eq_true', decide_eq_false_iff_not, lg2, Int.reduceLT, ↓reduceIte]
    rw [if_pos hn]
    exact hq' _ (Int.emod_nonneg f (by omega)) (Int.emod_lt_of_pos f hn)
  · rw [rng_len]
    exact Sm.nat (by decide) (by decide)
theorem go_great {n : Int} {Q : D → Prop} (h : 0 < n) (hq : ∀ r : Int, 0 ≤ r → r < n → Q (.int r)) : S__law_great [.bg, iS n] Q := ⟨n, rfl, h, fun r hr => hq r hr.1 hr.2⟩
theorem r__law_integer : ∀ ss (Q : D → Prop), S__law_integer ss Q → g__law_integer (endsOf Q) (initE N__law_integer ss) := by
  rintro ss Q ⟨_, rfl, _, hq⟩
  have hq' : ∀ i : Int, -1000000000000 ≤ i → i ≤ 1000000000000 → Q (.int i) := fun i h0 h1 => hq i ⟨h0, h1⟩
  simp only [N__law_integer, arB, initE, List.length_cons, List.length_nil, Nat.reduceAdd, Nat.reduceSub, List.replicate, List.cons_append, List.nil_append, List.append_nil]
  simp only [g__law_integer, fSeqS, fSet, fSetN, fRet, fIfS, fNext, fBreak, fCont, fNever, fBin, fCmp, fV, fN, fC, lk, lk_z, lk_s, gAdd, gSub, gMul, gDiv, gMod, gPow, gShl, gShlW, gShr, gv, gLt, gLe, gGt, gGe, gEq, gNe, gIx, fNeg, fTV, fNot, fAnd, fOr, fAndV, fOrV, fNotV, fIf, fLN, fLC, fAN, fAC, fAB, fNV, fTup, fCB, bInt, bAbs, bLen, bMax2, bMin2, bTuple, fSeq, seqOf, fCall, fCallK, fAsg, gNm, gsNil, gsCons, gTpl, gSq, fPar, fMV, fMN, setAll, fApp, fExt, fSetIx, fFrz, fForS, fRng1, fRng2, fBits, fON, fOS, fSlT, fSlL, List.set_cons_zero, List.set_cons_succ, List.length_cons, List.length_nil, endsOf, decide_eq_true_eq, true_and, and_true, at0, at1, at2, at3, at4, Bool.not_eq_true', decide_eq_false_iff_not, lg2, Int.reduceLT, ↓reduceIte, pw4, pw8, pw12, tp4, tp8, tp12]
  refine go_pick (by simp) (by simp) fun d hd => ?_
  obtain ⟨n, rfl, n0, n1⟩ : ∃ n : Int, d = .int n ∧ 1 ≤ n ∧ n ≤ 1000000000000 := by
    simp only [List.mem_cons, List.not_mem_nil, or_false] at hd
    rcases hd with rfl | rfl | rfl | rfl | rfl | rfl | rfl | rfl <;> exact ⟨_, rfl, by decide, by decide⟩
  try simp only [fSeqS, fSet, fSetN, fRet, fIfS, fNext, fBreak, fCont, fNever, fBin, fCmp, fV, fN, fC, lk, lk_z, lk_s, gAdd, gSub, gMul, gDiv, gMod, gPow, gShl, gShlW, gShr, gv, gLt, gLe, gGt, gGe, gEq, gNe, gIx, fNeg, fTV, fNot, fAnd, fOr, fAndV, fOrV, fNotV, fIf, fLN, fLC, fAN, fAC, fAB, fNV, fTup, fCB, bInt, bAbs, bLen, bMax2, bMin2, bTuple, fSeq, seqOf, fCall, fCallK, fAsg, gNm, gsNil, gsCons, gTpl, gSq, fPar, fMV, fMN, setAll, fApp, fExt, fSetIx, fFrz, fForS, fRng1, fRng2, fBits, fON, fOS, fSlT, fSlL, List.set_cons_zero, List.set_cons_succ, List.length_cons, List.length_nil, endsOf, decide_eq_true_eq, true_and, and_true, at0, at1, at2, at3, at4, Bool.not_eq_true', decide_eq_false_iff_not, lg2, Int.reduceLT, ↓reduceIte]
  refine go_great (by omega) fun r h0 h1 => ?_
  try simp only [fSeqS, fSet, fSetN, fRet, fIfS, fNext, fBreak, fCont, fNever, fBin, fCmp, fV, fN, fC, lk, lk_z, lk_s, gAdd, gSub, gMul, gDiv, gMod, gPow, gShl, gShlW, gShr, gv, gLt, gLe, gGt, gGe, gEq, gNe, gIx, fNeg, fTV, fNot, fAnd, fOr, fAndV, fOrV, fNotV, fIf, fLN, fLC, fAN, fAC, fAB, fNV, fTup, fCB, bInt, bAbs, bLen, bMax2, bMin2, bTuple, fSeq, seqOf, fCall, fCallK, fAsg, gNm, gsNil, gsCons, gTpl, gSq, fPar, fMV, fMN, setAll, fApp, fExt, fSetIx, fFrz, fForS, fRng1, fRng2, fBits, fON, fOS, fSlT, fSlL, List.set_cons_zero, List.set_cons_succ, List.length_cons, List.length_nil, endsOf, decide_eq_true_eq, true_and, and_true, at0, at1, at2, at3, at4, Bool.not_eq_true', decide_eq_false_iff_not, lg2, Int.reduceLT, ↓reduceIte]
  refine go_draw (by decide) (by decide) fun x _ _ => ?_
  try simp only [fSeqS, fSet, fSetN, fRet, fIfS, fNext, fBreak, fCont, fNever, fBin, fCmp, fV, fN, fC, lk, lk_z, lk_s, gAdd, gSub, gMul, gDiv, gMod, gPow, gShl, gShlW, gShr, gv, gLt, gLe, gGt, gGe, gEq, gNe, gIx, fNeg, fTV, fNot, fAnd, fOr, fAndV, fOrV, fNotV, fIf, fLN, fLC, fAN, fAC, fAB, fNV, fTup, fCB, bInt, bAbs, bLen, bMax2, bMin2, bTuple, fSeq, seqOf, fCall, fCallK, fAsg, gNm, gsNil, gsCons, gTpl, gSq, fPar, fMV, fMN, setAll, fApp, fExt, fSetIx, fFrz, fForS, fRng1, fRng2, fBits, fON, fOS, fSlT, fSlL, List.set_cons_zero, List.set_cons_succ, List.length_cons, List.length_nil, endsOf, decide_eq_true_eq, true_and, and_true, at0, at1, at2, at3, at4, Bool.not_eq_true', decide_eq_false_iff_not, lg2, Int.reduceLT, ↓reduceIte]
  split
  · refine go_draw (by decide) (by decide) fun y _ _ => ?_
    simp only [fSeqS, fSet, fSetN, fRet, fIfS, fNext, fBreak, fCont, fNever, fBin, fCmp, fV, fN, fC, lk, lk_z, lk_s, gAdd, gSub, gMul, gDiv, gMod, gPow, gShl, gShlW, gShr, gv, gLt, gLe, gGt, gGe, gEq, gNe, gIx, fNeg, fTV, fNot, fAnd, fOr, fAndV, fOrV, fNotV, fIf, fLN, fLC, fAN, fAC, fAB, fNV, fTup, fCB, bInt, bAbs, bLen, bMax2, bMin2, bTuple, fSeq, seqOf, fCall, fCallK, fAsg, gNm, gsNil, gsCons, gTpl, gSq, fPar, fMV, fMN, setAll, fApp, fExt, fSetIx, fFrz, fForS, fRng1, fRng2, fBits, fON, fOS, fSlT, fSlL, List.set_cons_zero, List.set_cons_succ, List.length_cons, List.length_nil, endsOf, decide_eq_true_eq, true_and, and_true, at0, at1, at2, at3, at4, Bool.not_eq_true', decide_eq_false_iff_not, lg2, Int.reduceLT, ↓reduceIte]
    split
    · exact hq' _ (by decide) (by decide)
    · exact hq' _ (by decide) (by decide)
  · refine go_draw (by decide) (by decide) fun y _ _ => ?_
    simp only [fSeqS, fSet, fSetN, fRet, fIfS, fNext, fBreak, fCont, fNever, fBin, fCmp, fV, fN, fC, lk, lk_z, lk_s, gAdd, gSub, gMul, gDiv, gMod, gPow, gShl, gShlW, gShr, gv, gLt, gLe, gGt, gGe, gEq, gNe, gIx, fNeg, fTV, fNot, fAnd, fOr, fAndV, fOrV, fNotV, fIf, fLN, fLC, fAN, fAC, fAB, fNV, fTup, fCB, bInt, bAbs, bLen, bMax2, bMin2, bTuple, fSeq, seqOf, fCall, fCallK, fAsg, gNm, gsNil, gsCons, gTpl, gSq, fPar, fMV, fMN, setAll, fApp, fExt, fSetIx, fFrz, fForS, fRng1, fRng2, fBits, fON, fOS, fSlT, fSlL, List.set_cons_zero, List.set_cons_succ, List.length_cons, List.length_nil, endsOf, decide_eq_true_eq, true_and, and_true, at0, at1, at2, at3, at4, Bool.not_eq_true', decide_eq_false_iff_not, lg2, Int.reduceLT, ↓reduceIte]
    split
    · exact hq' _ (by omega) (by omega)
    · exact hq' _ (by omega) (by omega)
theorem go_integer {Q : D → Prop} (hq : ∀ i : Int, -1000000000000 ≤ i → i ≤ 1000000000000 → Q (.int i)) : S__law_integer [.bg] Q := ⟨(), rfl, trivial, fun i hi => hq i hi.1 hi.2⟩
theorem s40 {i : Int} (h0 : -1000000000000 ≤ i) (h1 : i ≤ 1000000000000) : Sm 40 i := by
  unfold Sm
  omega
theorem r__law_own_bag : ∀ ss (Q : D → Prop), S__law_own_bag ss Q → g__law_own_bag (endsOf Q) (initE N__law_own_bag ss) := by
  rintro ss Q ⟨rfl, hq⟩
  simp only [N__law_own_bag, initE, List.length_cons, List.length_nil, Nat.reduceAdd, Nat.reduceSub, List.replicate, List.cons_append, List.nil_append, List.append_nil]
  unfold g__law_own_bag
  refine seq_go ?_
  simp only [fSeqS, fSet, fSetN, fRet, fIfS, fNext, fBreak, fCont, fNever, fBin, fCmp, fV, fN, fC, lk, lk_z, lk_s, gAdd, gSub, gMul, gDiv, gMod, gPow, gShl, gShlW, gShr, gv, gLt, gLe, gGt, gGe, gEq, gNe, gIx, fNeg, fTV, fNot, fAnd, fOr, fAndV, fOrV, fNotV, fIf, fLN, fLC, fAN, fAC, fAB, fNV, fTup, fCB, bInt, bAbs, bLen, bMax2, bMin2, bTuple, fSeq, seqOf, fCall, fCallK, fAsg, gNm, gsNil, gsCons, gTpl, gSq, fPar, fMV, fMN, setAll, fApp, fExt, fSetIx, fFrz, fForS, fRng1, fRng2, fBits, fON, fOS, fSlT, fSlL, List.set_cons_zero, List.set_cons_succ, List.length_cons, List.length_nil, endsOf, decide_eq_true_eq, true_and, and_true, at0, at1, at2, at3, at4, Bool.not_eq_true', decide_eq_false_iff_not, lg2, Int.reduceLT, ↓reduceIte, fLc, fScr, wipeE]
  intro ms hml
  refine ⟨by rw [List.length_map]; exact hml, ?_⟩
  refine lc_of (fun ds K => ∃ m : List Int, ds = m.map PyData.int ∧ ∀ cs : List Int, cs.length ≤ m.length → (∀ x ∈ cs, 0 ≤ x) → K (cs.map PyData.int)) ?_ ?_ _ _ ⟨ms, rfl, ?_⟩
  · rintro d ds K ⟨m, e, hK⟩ L hL
    cases m with
    | nil => cases e
    | cons i m =>
      cases e
      simp only [fSeqS, fSet, fSetN, fRet, fIfS, fNext, fBreak, fCont, fNever, fBin, fCmp, fV, fN, fC, lk, lk_z, lk_s, gAdd, gSub, gMul, gDiv, gMod, gPow, gShl, gShlW, gShr, gv, gLt, gLe, gGt, gGe, gEq, gNe, gIx, fNeg, fTV, fNot, fAnd, fOr, fAndV, fOrV, fNotV, fIf, fLN, fLC, fAN, fAC, fAB, fNV, fTup, fCB, bInt, bAbs, bLen, bMax2, bMin2, bTuple, fSeq, seqOf, fCall, fCallK, fAsg, gNm, gsNil, gsCons, gTpl, gSq, fPar, fMV, fMN, setAll, fApp, fExt, fSetIx, fFrz, fForS, fRng1, fRng2, fBits, fON, fOS, fSlT, fSlL, List.set_cons_zero, List.set_cons_succ, List.length_cons, List.length_nil, endsOf, decide_eq_true_eq, true_and, and_true, at0, at1, at2, at3, at4, Bool.not_eq_true', decide_eq_false_iff_not, lg2, Int.reduceLT, ↓reduceIte, fYes]
      refine hL _ ⟨m, rfl, fun cs hl h => hK ((if i < 0 then -i else i) :: cs) (by simp only [List.length_cons]; omega) fun x hx => ?_⟩
      rcases List.mem_cons.mp hx with rfl | hx
      · split <;> omega
      · exact h x hx
  · rintro K ⟨m, e, hK⟩
    cases m with
    | nil => exact hK [] (Nat.le_refl _) fun x hx => by cases hx
    | cons q m => cases e
  intro cs hcl hcs
  have hcl : cs.length ≤ 4000000 := Nat.le_trans hcl hml
  refine for_of (fun ds ρ => ∃ (c : List Int) (m : Int) (s : Sl), ds = c.map PyData.int ∧ ρ = [.bg, .sh (.list (cs.map PyData.int)), s, iS m] ∧ 0 ≤ m ∧ m < 2147483647) ?_ ?_ _ _ ⟨cs, _, _, rfl, rfl, by omega, by rw [List.length_map]; omega⟩
  · rintro d ds ρ ⟨c, m, s, e, rfl, m0, m1⟩ K hK
    cases c with
    | nil => cases e
    | cons x c =>
      cases e
      have sm : Sm 31 m := Sm.nat m0 (by omega)
      have sk : Sm 17 69621 := Sm.nat (by decide) (by decide)
      simp only [fSeqS, fSet, fSetN, fRet, fIfS, fNext, fBreak, fCont, fNever, fBin, fCmp, fV, fN, fC, lk, lk_z, lk_s, gAdd, gSub, gMul, gDiv, gMod, gPow, gShl, gShlW, gShr, gv, gLt, gLe, gGt, gGe, gEq, gNe, gIx, fNeg, fTV, fNot, fAnd, fOr, fAndV, fOrV, fNotV, fIf, fLN, fLC, fAN, fAC, fAB, fNV, fTup, fCB, bInt, bAbs, bLen, bMax2, bMin2, bTuple, fSeq, seqOf, fCall, fCallK, fAsg, gNm, gsNil, gsCons, gTpl, gSq, fPar, fMV, fMN, setAll, fApp, fExt, fSetIx, fFrz, fForS, fRng1, fRng2, fBits, fON, fOS, fSlT, fSlL, List.set_cons_zero, List.set_cons_succ, List.length_cons, List.length_nil, endsOf, decide_eq_true_eq, true_and, and_true, at0, at1, at2, at3, at4, Bool.not_eq_true', decide_eq_false_iff_not, lg2, Int.reduceLT, ↓reduceIte]
      have r0 := Int.emod_nonneg x (b := 2147483629) (by decide)
      refine ⟨mw sm sk, hK _ ⟨c, _, _, rfl, rfl, Int.emod_nonneg _ (by decide), Int.emod_lt_of_pos _ (by decide)⟩⟩
  · rintro ρ ⟨c, m, s, _, rfl, m0, m1⟩
    simp only [fSeqS, fSet, fSetN, fRet, fIfS, fNext, fBreak, fCont, fNever, fBin, fCmp, fV, fN, fC, lk, lk_z, lk_s, gAdd, gSub, gMul, gDiv, gMod, gPow, gShl, gShlW, gShr, gv, gLt, gLe, gGt, gGe, gEq, gNe, gIx, fNeg, fTV, fNot, fAnd, fOr, fAndV, fOrV, fNotV, fIf, fLN, fLC, fAN, fAC, fAB, fNV, fTup, fCB, bInt, bAbs, bLen, bMax2, bMin2, bTuple, fSeq, seqOf, fCall, fCallK, fAsg, gNm, gsNil, gsCons, gTpl, gSq, fPar, fMV, fMN, setAll, fApp, fExt, fSetIx, fFrz, fForS, fRng1, fRng2, fBits, fON, fOS, fSlT, fSlL, List.set_cons_zero, List.set_cons_succ, List.length_cons, List.length_nil, endsOf, decide_eq_true_eq, true_and, and_true, at0, at1, at2, at3, at4, Bool.not_eq_true', decide_eq_false_iff_not, lg2, Int.reduceLT, ↓reduceIte, fLRev]
    have := hq cs.reverse m (fun x hx => hcs x (List.mem_reverse.mp hx)) m0 m1
    rwa [List.map_reverse] at this
end T
end DL
namespace DL
namespace T
open PySem L2 PySem.Spec PyProof.Rows
local macro_rules
  | `(tactic| get_elem_tactic_extensible) => `(tactic| (repeat (first | with_reducible refine Go.lc_go ?_ | with_reducible refine Go.ln_go ?_ | ((with_reducible apply Go.v_sh); exact rfl) | ((with_reducible apply Go.n_sh); exact rfl) | ((with_reducible apply Go.n_ow); exact rfl) | ((with_reducible apply Go.ab_go); exact rfl) | ((with_reducible apply Go.app_go); exact rfl) | ((with_reducible apply Go.ext_go); exact rfl) | with_reducible refine Go.c_go ?_ | with_reducible refine Go.tup_go ?_ | with_reducible refine Go.nv_go ?_ | with_reducible refine Go.bin_go ?_ | with_reducible refine Go.slT_go ?_ | with_reducible refine Go.slL_go ?_ | with_reducible refine Go.on_go ?_ | with_reducible refine Go.os_go ?_ | with_reducible refine Go.neg_go ?_ | with_reducible refine Go.sub_go ?_ | with_reducible refine Go.addI_go ?_ | with_reducible refine Go.seqT_go ?_ | with_reducible refine Go.call_go ?_ | with_reducible refine Go.callK_go ?_ | with_reducible refine Go.cb_go ?_ | with_reducible refine Go.dict1_go ?_ | with_reducible refine Go.if_go ?_ | with_reducible refine Go.an_go ?_ | with_reducible refine Go.ac_go ?_ | with_reducible refine Go.mv_go ?_ | with_reducible refine Go.par_go ?_ | with_reducible refine Go.sq_go ?_ | with_reducible refine Go.set_go ?_ | with_reducible refine Go.setN_go ?_ | with_reducible refine Go.ret_go ?_ | with_reducible refine Go.asg_go ?_ | with_reducible refine Go.ifs_go ?_ | with_reducible refine Go.next_go ?_ | with_reducible refine Go.nm_go ?_ | with_reducible refine Go.cmp_go ?_ | with_reducible refine Go.tv_go ?_ | with_reducible refine Go.not_go ?_ | with_reducible refine Go.and_go ?_ | with_reducible refine Go.or_go ?_ | with_reducible refine Go.lenT_go ?_ | with_reducible refine Go.lenL_go ?_ | with_reducible refine Go.absI_go ?_ | with_reducible refine Go.intI_go ?_ | with_reducible refine Go.max2_go ?_ | with_reducible refine Go.min2_go ?_ | with_reducible refine Go.tupL_go ?_ | with_reducible refine Go.tupT_go ?_ | with_reducible refine Go.gv_go ?_ | with_reducible refine Go.ltI_go ?_ | with_reducible refine Go.leI_go ?_ | with_reducible refine Go.gtI_go ?_ | with_reducible refine Go.geI_go ?_ | with_reducible refine Go.eqI_go ?_ | with_reducible refine Go.neI_go ?_ | with_reducible refine Go.eqS_go ?_ | with_reducible refine Go.rng1_go ?_ | ((first | with_reducible apply Go.ixL_go | with_reducible apply Go.ixT_go); first | exact DL.at0 _ _ | exact DL.at1 _ _ _ | exact DL.at2 _ _ _ _ | exact DL.at3 _ _ _ _ _ | exact DL.at4 _ _ _ _ _ _) | ((with_reducible apply Go.frz_go); exact rfl) | ((with_reducible apply Go.frz_sh); exact rfl) | with_reducible refine Go.mn_go ?_ | with_reducible refine Go.andV_go ?_ | ((first | with_reducible apply Go.sqT_go | with_reducible apply Go.sqL_go); exact rfl) | with_reducible refine Go.gsC_go ?_ | with_reducible refine Go.gsN_go ?_ | with_reducible refine Go.ifT (by decide +kernel) ?_ | with_reducible refine Go.ifF (by decide +kernel) ?_ | with_reducible refine Go.cat_go ?_ | with_reducible refine Go.callO_go ?_ | ((with_reducible apply Go.retO_go); exact rfl) | with_reducible refine Go.retN_go ?_ | with_reducible refine Go.ifN_go ?_ | with_reducible refine Go.yes_go ?_ | with_reducible refine Go.isI_go ?_ | with_reducible refine Go.isB_go ?_ | with_reducible refine Go.isN_go ?_ | with_reducible refine Go.notN_go ?_ | with_reducible refine Go.lrev_go ?_ | with_reducible refine Go.bk_go ?_ | with_reducible refine Go.ct_go ?_ | with_reducible refine Go.rng2_go ?_ | with_reducible refine Go.orV_go ?_ | with_reducible refine Go.notV_go ?_ | ((with_reducible apply Go.extT_go); exact rfl) | with_reducible refine Go.isI2_go ?_ | with_reducible refine Go.dict2_go ?_ | with_reducible refine Go.callE_go ?_ | with_reducible refine Go.callEK_go ?_ | ((with_reducible apply Go.callX_go); exact rfl) | with_reducible refine Go.raise0_go ?_ | with_reducible refine Go.raise1_go ?_ | ((with_reducible apply Go.is1_go); exact rfl) | ((with_reducible apply Go.isT_go); exact rfl) | ((with_reducible apply Go.fld_go); exact rfl) | ((with_reducible apply Go.setIx_go); exact rfl) | unfold fForS | unfold fLc | dsimp only [seqOf, List.set_cons_zero, List.set_cons_succ, setAll, wipeE])))
theorem errS_no {x y z w : D} (h : (isInt x && (isInt y && (isInt z && isInt w))) = false) : errS (.tuple [x, y, z, w]) = .str "form" := by
  cases x with
  | int a =>
    cases y with
    | int b =>
      cases z with
      | int c =>
        cases w with
        | int e => rw [isInt_int, isInt_int, isInt_int, isInt_int] at h; cases h
        | _ => rfl
      | _ => rfl
    | _ => rfl
  | _ => rfl
theorem errS_len {ds : List D} (h : ds.length ≠ 4) : errS (.tuple ds) = .str "form" := by
  unfold errS
  split
  · rename_i he
    injection he with he
    rw [he] at h
    exact absurd rfl h
  · rfl
theorem errS_other {d : D} (h : ∀ ds, d ≠ .tuple ds) : errS d = .str "form" := by
  cases d <;> first | rfl | exact absurd rfl (h _)
/-- the greatest of three -/
theorem max3 {x y z m : Int} (h1 : m ∈ [x, y, z]) (h2 : ∀ w ∈ [x, y, z], w ≤ m) : x ≤ m ∧ y ≤ m ∧ z ≤ m ∧ (m = x ∨ m = y ∨ m = z) := by
  refine ⟨h2 x (by simp), h2 y (by simp), h2 z (by simp), ?_⟩
  simpa using h1
theorem big_iff {a b c m : Int} (h1 : m ∈ [(if a < 0 then -a else a), (if b < 0 then -b else b), (if c < 0 then -c else c)]) (h2 : ∀ w ∈ [(if a < 0 then -a else a), (if b < 0 then -b else b), (if c < 0 then -c else c)], w ≤ m) :
    (1000000000000 < m) ↔ (1000000000000 < a.natAbs ∨ 1000000000000 < b.natAbs ∨ 1000000000000 < c.natAbs) := by
  obtain ⟨q1, q2, q3, q4⟩ := max3 h1 h2
  rw [abs_gcd] at q1 q4
  rw [abs_gcd] at q2 q4
  rw [abs_gcd] at q3 q4
  omega
theorem bls4 (p q r s : Bool) : asBls [.bool p, .bool q, .bool r, .bool s] = some [p, q, r, s] := rfl
theorem ints3 (p q r : Int) : asInts [.int p, .int q, .int r] = some [p, q, r] := rfl
theorem all4 (p q r s : Bool) : ([p, q, r, s] : List Bool).all id = (p && (q && (r && s))) := by simp
theorem any4 (p q r s : Bool) : ([p, q, r, s] : List Bool).any id = (p || (q || (r || s))) := by simp
theorem ints_of {x y z w : D} (h : (isInt x && (isInt y && (isInt z && isInt w))) = true) : ∃ a b c e : Int, x = .int a ∧ y = .int b ∧ z = .int c ∧ w = .int e := by
  simp only [Bool.and_eq_true] at h
  obtain ⟨a, rfl⟩ := isInt_of h.1
  obtain ⟨b, rfl⟩ := isInt_of h.2.1
  obtain ⟨c, rfl⟩ := isInt_of h.2.2.1
  obtain ⟨e, rfl⟩ := isInt_of h.2.2.2
  exact ⟨a, b, c, e, rfl, rfl, rfl, rfl⟩
/-- the last steps of both -/
theorem err_end {a b c d : Int} {Q : D → Prop} (hq : Q (err4 a b c d)) (h1 : ¬ (1000000000000 < a.natAbs ∨ 1000000000000 < b.natAbs ∨ 1000000000000 < c.natAbs ∨ 1000000 < d)) (h2 : ¬ (c < 1 ∨ 1 < g3 a b c)) : Q (if b = 0 ∧ d = 0 then .none else if b = 0 ∨ d < 2 ∨ 1 < rpm d then .str "root" else .none) := by
  unfold err4 at hq
  rw [if_neg h1, if_neg h2] at hq
  exact hq
theorem neB_go {p q : Bool} {J : Bool → Prop} (h : J (!decide (p = q))) : gNe (.bool p) (.bool q) J := h
theorem neB_eq (p q : Prop) [Decidable p] [Decidable q] : (!decide (decide p = decide q)) = decide (¬ (p ↔ q)) := by
  by_cases hp : p <;> by_cases hq : q <;> simp [hp, hq]
theorem r_surd_error : ∀ ss (Q : D → Prop), S_surd_error ss Q → g_surd_error (endsOf Q) (initE N_surd_error ss) := by
  rintro ss Q ⟨d, rfl, _, hq⟩
  have hq : Q (errS d) := hq
  simp only [N_surd_error, arD, initE, List.length_cons, List.length_nil, Nat.reduceAdd, Nat.reduceSub, List.replicate, List.cons_append, List.nil_append, List.append_nil]
  unfold g_surd_error
  get_elem_tactic_extensible
  refine go_is_tuple ?_
  get_elem_tactic_extensible
  by_cases ht : tup4 d = true
  · have e : ∃ x y z w, d = .tuple [x, y, z, w] := by
      cases d with
      | tuple ds =>
        match ds, ht with
        | [x, y, z, w], _ => exact ⟨x, y, z, w, rfl⟩
        | [], h => cases h
        | [_], h => cases h
        | [_, _], h => cases h
        | [_, _, _], h => cases h
        | _ :: _ :: _ :: _ :: _ :: _, h => simp [tup4] at h
      | _ => cases ht
    obtain ⟨x, y, z, w, rfl⟩ := e
    rw [ht]
    get_elem_tactic_extensible
    refine ⟨by unfold most; show 4 ≤ _; decide, ?_⟩
    refine lc_map (α := D) (f := fun d => d) (F := fun d => .bool (isInt d)) [x, y, z, w] (fun d _ K h => ?_) _ ?_
    · get_elem_tactic_extensible
      exact go_is_integer h
    get_elem_tactic_extensible
    unfold bAll
    dsimp only [blsOf]
    rw [show List.map (fun d => PyData.bool (isInt d)) [x, y, z, w] = [.bool (isInt x), .bool (isInt y), .bool (isInt z), .bool (isInt w)] from rfl, bls4]
    dsimp only
    rw [all4]
    by_cases hi : (isInt x && (isInt y && (isInt z && isInt w))) = true
    · rw [hi]
      obtain ⟨a, b, c, e, rfl, rfl, rfl, rfl⟩ := ints_of hi
      have hq : Q (err4 a b c e) := hq
      get_elem_tactic_extensible
      unfold bMaxL
      dsimp only [intsOf]
      rw [ints3]
      refine ⟨by show 0 < 3; decide, fun m h1 h2 => ?_⟩
      have big := big_iff h1 h2
      get_elem_tactic_extensible
      refine Go.ifd (fun h3 => ?_) (fun h3 => ?_)
      · get_elem_tactic_extensible
        unfold err4 at hq
        rw [if_pos (by have := big.mp h3; omega)] at hq
        exact hq
      get_elem_tactic_extensible
      refine Go.ifd (fun h4 => ?_) (fun h4 => ?_)
      · get_elem_tactic_extensible
        unfold err4 at hq
        rw [if_pos (by omega)] at hq
        exact hq
      have n1 : ¬ (1000000000000 < a.natAbs ∨ 1000000000000 < b.natAbs ∨ 1000000000000 < c.natAbs ∨ 1000000 < e) := fun z => by
        by_cases z2 : 1000000 < e
        · exact h4 z2
        · exact h3 (big.mpr (by omega))
      get_elem_tactic_extensible
      have part : (c < 1 ∨ 1 < g3 a b c) → Q (.str "part") := fun z => by
        unfold err4 at hq
        rw [if_neg n1, if_pos z] at hq
        exact hq
      refine Go.ifd (fun h5 => ?_) (fun h5 => ?_)
      · get_elem_tactic_extensible
        exact part (.inl h5)
      get_elem_tactic_extensible
      have aa : ∀ i : Int, 0 ≤ (if i < 0 then -i else i) := fun i => by split <;> omega
      refine go_common (aa _) (aa _) ?_
      get_elem_tactic_extensible
      refine go_common (by omega) (by omega) ?_
      get_elem_tactic_extensible
      rw [g3_abs a b c (by omega)]
      refine Go.ifd (fun h6 => ?_) (fun h6 => ?_)
      · get_elem_tactic_extensible
        exact part (.inr h6)
      have fin := err_end hq n1 (by omega)
      get_elem_tactic_extensible
      refine neB_go ?_
      rw [neB_eq]
      have root : ¬ (b = 0 ∧ e = 0) → (b = 0 ∨ e < 2 ∨ 1 < rpm e) → Q (.str "root") := fun z1 z2 => by
        rw [if_neg z1, if_pos z2] at fin
        exact fin
      refine Go.ifd (fun h7 => ?_) (fun h7 => ?_)
      · get_elem_tactic_extensible
        exact root (by omega) (by omega)
      get_elem_tactic_extensible
      refine Go.ifd (fun h8 => ?_) (fun h8 => ?_)
      · get_elem_tactic_extensible
        exact root (by omega) (by omega)
      get_elem_tactic_extensible
      refine Go.ifd (fun h9 => ?_) (fun h9 => ?_)
      · get_elem_tactic_extensible
        exact root (by omega) (by omega)
      get_elem_tactic_extensible
      refine Go.ifd (fun h10 => ?_) (fun h10 => ?_)
      · get_elem_tactic_extensible
        refine ⟨e, rfl, ⟨by omega, by omega⟩, ?_⟩
        unfold rpD
        rw [if_neg (by omega)]
        get_elem_tactic_extensible
        refine Go.ifd (fun h11 => ?_) (fun h11 => ?_)
        · get_elem_tactic_extensible
          exact root (by omega) (.inr (.inr h11))
        · get_elem_tactic_extensible
          rw [if_neg (by omega), if_neg (by rintro (z | z | z) <;> first | omega | exact h11 z)] at fin
          exact fin
      · get_elem_tactic_extensible
        rw [if_pos (by omega)] at fin
        exact fin
    · have hi : (isInt x && (isInt y && (isInt z && isInt w))) = false := by simpa using hi
      rw [errS_no hi] at hq
      rw [hi]
      get_elem_tactic_extensible
      exact hq
  · have ht : tup4 d = false := by simpa using ht
    have e : errS d = .str "form" := by
      by_cases h : ∃ ds, d = .tuple ds
      · obtain ⟨ds, rfl⟩ := h
        refine errS_len fun z => ?_
        have : (ds.length == 4) = false := ht
        rw [z] at this
        cases this
      · exact errS_other fun ds z => h ⟨ds, z⟩
    rw [e] at hq
    rw [ht]
    get_elem_tactic_extensible
    exact hq
theorem pow12_go {J : D → Prop} (h : J (.int 1000000000000)) : gPow (.int 10) (.int 12) J := ⟨pw12, by rw [tp12]; exact h⟩
theorem pow6_go {J : D → Prop} (h : J (.int 1000000)) : gPow (.int 10) (.int 6) J := ⟨pw6, by rw [tp6]; exact h⟩
theorem pow8_go {J : D → Prop} (h : J (.int 100000000)) : gPow (.int 10) (.int 8) J := ⟨pw8, by rw [tp8]; exact h⟩
theorem isI_and (d : D) (K : D → Prop) (h : K (.bool (!isInt d))) : if isB (tyN d) "bool" = true then K (.bool true) else K (.bool (!isB (tyN d) "int")) := by
  show if isB (tyN d) "bool" = true then K (.bool true) else K (.bool (!isB (tyN d) "int"))
  unfold isInt at h
  generalize isB (tyN d) "int" = x at h ⊢
  generalize isB (tyN d) "bool" = y at h ⊢
  cases x <;> cases y <;> exact h
theorem r__law_own_error : ∀ ss (Q : D → Prop), S__law_own_error ss Q → g__law_own_error (endsOf Q) (initE N__law_own_error ss) := by
  rintro ss Q ⟨d, rfl, _, hq⟩
  have hq : Q (errS d) := hq
  simp only [N__law_own_error, arD, initE, List.length_cons, List.length_nil, Nat.reduceAdd, Nat.reduceSub, List.replicate, List.cons_append, List.nil_append, List.append_nil]
  unfold g__law_own_error
  get_elem_tactic_extensible
  by_cases ht : isB (tyN d) "tuple" = true
  · obtain ⟨ds, rfl⟩ := isTup_of ht
    rw [ht]
    get_elem_tactic_extensible
    refine Go.ifdn (fun h => ?_) (fun h => ?_)
    · get_elem_tactic_extensible
      rw [errS_len (by omega)] at hq
      exact hq
    obtain ⟨x, y, z, w, rfl⟩ : ∃ x y z w, ds = [x, y, z, w] := by
      match ds, h with
      | [x, y, z, w], _ => exact ⟨x, y, z, w, rfl⟩
      | [], h => simp at h
      | [_], h => simp at h
      | [_, _], h => simp at h
      | [_, _, _], h => simp at h
      | _ :: _ :: _ :: _ :: _ :: r, h => simp only [List.length_cons] at h; omega
    get_elem_tactic_extensible
    refine ⟨by unfold most; show 4 ≤ _; decide, ?_⟩
    refine lc_map (α := D) (f := fun d => d) (F := fun d => .bool (!isInt d)) [x, y, z, w] (fun d _ K h => ?_) _ ?_
    · get_elem_tactic_extensible
      refine isI_and d K h
    get_elem_tactic_extensible
    unfold bAny
    dsimp only [blsOf]
    rw [show List.map (fun d => PyData.bool (!isInt d)) [x, y, z, w] = [.bool (!isInt x), .bool (!isInt y), .bool (!isInt z), .bool (!isInt w)] from rfl, bls4]
    dsimp only
    rw [any4]
    by_cases hi : (isInt x && (isInt y && (isInt z && isInt w))) = true
    · rw [show (!isInt x || (!isInt y || (!isInt z || !isInt w))) = !(isInt x && (isInt y && (isInt z && isInt w))) by simp only [Bool.not_and], hi]
      obtain ⟨a, b, c, e, rfl, rfl, rfl, rfl⟩ := ints_of hi
      have hq : Q (err4 a b c e) := hq
      get_elem_tactic_extensible
      unfold bMaxL
      dsimp only [intsOf]
      rw [ints3]
      refine ⟨by show 0 < 3; decide, fun m h1 h2 => ?_⟩
      have big := big_iff h1 h2
      get_elem_tactic_extensible
      refine pow12_go ?_
      get_elem_tactic_extensible
      refine Go.ifd (fun h3 => ?_) (fun h3 => ?_)
      · get_elem_tactic_extensible
        unfold err4 at hq
        rw [if_pos (by have := big.mp h3; omega)] at hq
        exact hq
      get_elem_tactic_extensible
      refine pow6_go ?_
      get_elem_tactic_extensible
      refine Go.ifd (fun h4 => ?_) (fun h4 => ?_)
      · get_elem_tactic_extensible
        unfold err4 at hq
        rw [if_pos (by omega)] at hq
        exact hq
      have n1 : ¬ (1000000000000 < a.natAbs ∨ 1000000000000 < b.natAbs ∨ 1000000000000 < c.natAbs ∨ 1000000 < e) := fun z => by
        by_cases z2 : 1000000 < e
        · exact h4 z2
        · exact h3 (big.mpr (by omega))
      get_elem_tactic_extensible
      have part : (c < 1 ∨ 1 < g3 a b c) → Q (.str "part") := fun z => by
        unfold err4 at hq
        rw [if_neg n1, if_pos z] at hq
        exact hq
      refine Go.ifd (fun h5 => ?_) (fun h5 => ?_)
      · get_elem_tactic_extensible
        exact part (.inl h5)
      get_elem_tactic_extensible
      refine go__law_common ?_
      get_elem_tactic_extensible
      refine go__law_common ?_
      get_elem_tactic_extensible
      have eg : ((Int.gcd ((Int.gcd a b : Nat) : Int) c : Nat) : Int) = g3 a b c := rfl
      rw [eg]
      refine Go.ifd (fun h6 => ?_) (fun h6 => ?_)
      · get_elem_tactic_extensible
        exact part (.inr h6)
      have fin := err_end hq n1 (by omega)
      get_elem_tactic_extensible
      have root : ¬ (b = 0 ∧ e = 0) → (b = 0 ∨ e < 2 ∨ 1 < rpm e) → Q (.str "root") := fun z1 z2 => by
        rw [if_neg z1, if_pos z2] at fin
        exact fin
      have none : (b = 0 ∧ e = 0) → Q .none := fun z => by
        rw [if_pos z] at fin
        exact fin
      have tail : ¬ (b = 0 ∧ e = 0) → (fSeqS (fIfS (fOr (fCmp gEq (fN 3) (fC (.int 0))) (fOr (fCmp gLt (fN 5) (fC (.int 2))) (fCmp gGt (fBin gIx (fCall S__law_parts (fAC (fV 5) fAN)) (fC (.int 0))) (fC (.int 1))))) (fRet (fC (.str "root"))) fNext) (fRet (fC .none))) (endsOf Q) [Sl.sh (.tuple [.int a, .int b, .int c, .int e]), Sl.un, iS a, iS b, iS c, iS e] := fun nz => by
        get_elem_tactic_extensible
        refine Go.ifd (fun h7 => ?_) (fun h7 => ?_)
        · get_elem_tactic_extensible
          exact root nz (.inl h7)
        get_elem_tactic_extensible
        refine Go.ifd (fun h8 => ?_) (fun h8 => ?_)
        · get_elem_tactic_extensible
          exact root nz (.inr (.inl h8))
        get_elem_tactic_extensible
        refine ⟨e, rfl, ⟨by omega, by omega⟩, ?_⟩
        get_elem_tactic_extensible
        refine Go.ifd (fun h9 => ?_) (fun h9 => ?_)
        · get_elem_tactic_extensible
          exact root nz (.inr (.inr h9))
        · get_elem_tactic_extensible
          rw [if_neg nz, if_neg (by rintro (z | z | z) <;> first | exact h7 z | exact h8 z | exact h9 z)] at fin
          exact fin
      refine Go.ifd (fun h7 => ?_) (fun h7 => ?_)
      · refine Go.ifd (fun h8 => ?_) (fun h8 => ?_)
        · get_elem_tactic_extensible
          exact none ⟨h7, h8⟩
        · exact tail fun z => h8 z.2
      · exact tail fun z => h7 z.1
    · have hi : (isInt x && (isInt y && (isInt z && isInt w))) = false := by simpa using hi
      rw [errS_no hi] at hq
      rw [show (!isInt x || (!isInt y || (!isInt z || !isInt w))) = !(isInt x && (isInt y && (isInt z && isInt w))) by simp only [Bool.not_and], hi]
      get_elem_tactic_extensible
      exact hq
  · have ht : isB (tyN d) "tuple" = false := by simpa using ht
    rw [errS_other (isTup_not ht)] at hq
    rw [ht]
    get_elem_tactic_extensible
    exact hq
end T
end DL
namespace DL
namespace T
open PySem L2 PySem.Spec PyProof.Rows
local macro_rules
  | `(tactic| get_elem_tactic_extensible) => `(tactic| (repeat (first | with_reducible refine Go.lc_go ?_ | with_reducible refine Go.ln_go ?_ | ((with_reducible apply Go.v_sh); exact rfl) | ((with_reducible apply Go.n_sh); exact rfl) | ((with_reducible apply Go.n_ow); exact rfl) | ((with_reducible apply Go.ab_go); exact rfl) | ((with_reducible apply Go.app_go); exact rfl) | ((with_reducible apply Go.ext_go); exact rfl) | with_reducible refine Go.c_go ?_ | with_reducible refine Go.tup_go ?_ | with_reducible refine Go.nv_go ?_ | with_reducible refine Go.bin_go ?_ | with_reducible refine Go.slT_go ?_ | with_reducible refine Go.slL_go ?_ | with_reducible refine Go.on_go ?_ | with_reducible refine Go.os_go ?_ | with_reducible refine Go.neg_go ?_ | with_reducible refine Go.sub_go ?_ | with_reducible refine Go.addI_go ?_ | with_reducible refine Go.seqT_go ?_ | with_reducible refine Go.call_go ?_ | with_reducible refine Go.callK_go ?_ | with_reducible refine Go.cb_go ?_ | with_reducible refine Go.dict1_go ?_ | with_reducible refine Go.if_go ?_ | with_reducible refine Go.an_go ?_ | with_reducible refine Go.ac_go ?_ | with_reducible refine Go.mv_go ?_ | with_reducible refine Go.par_go ?_ | with_reducible refine Go.sq_go ?_ | with_reducible refine Go.set_go ?_ | with_reducible refine Go.setN_go ?_ | with_reducible refine Go.ret_go ?_ | with_reducible refine Go.asg_go ?_ | with_reducible refine Go.ifs_go ?_ | with_reducible refine Go.next_go ?_ | with_reducible refine Go.nm_go ?_ | with_reducible refine Go.cmp_go ?_ | with_reducible refine Go.tv_go ?_ | with_reducible refine Go.not_go ?_ | with_reducible refine Go.and_go ?_ | with_reducible refine Go.or_go ?_ | with_reducible refine Go.lenT_go ?_ | with_reducible refine Go.lenL_go ?_ | with_reducible refine Go.absI_go ?_ | with_reducible refine Go.intI_go ?_ | with_reducible refine Go.max2_go ?_ | with_reducible refine Go.min2_go ?_ | with_reducible refine Go.tupL_go ?_ | with_reducible refine Go.tupT_go ?_ | with_reducible refine Go.gv_go ?_ | with_reducible refine Go.ltI_go ?_ | with_reducible refine Go.leI_go ?_ | with_reducible refine Go.gtI_go ?_ | with_reducible refine Go.geI_go ?_ | with_reducible refine Go.eqI_go ?_ | with_reducible refine Go.neI_go ?_ | with_reducible refine Go.eqS_go ?_ | with_reducible refine Go.rng1_go ?_ | ((first | with_reducible apply Go.ixL_go | with_reducible apply Go.ixT_go); first | exact DL.at0 _ _ | exact DL.at1 _ _ _ | exact DL.at2 _ _ _ _ | exact DL.at3 _ _ _ _ _ | exact DL.at4 _ _ _ _ _ _) | ((with_reducible apply Go.frz_go); exact rfl) | ((with_reducible apply Go.frz_sh); exact rfl) | with_reducible refine Go.mn_go ?_ | with_reducible refine Go.andV_go ?_ | ((first | with_reducible apply Go.sqT_go | with_reducible apply Go.sqL_go); exact rfl) | with_reducible refine Go.gsC_go ?_ | with_reducible refine Go.gsN_go ?_ | with_reducible refine Go.ifT (by decide +kernel) ?_ | with_reducible refine Go.ifF (by decide +kernel) ?_ | with_reducible refine Go.cat_go ?_ | with_reducible refine Go.callO_go ?_ | ((with_reducible apply Go.retO_go); exact rfl) | with_reducible refine Go.retN_go ?_ | with_reducible refine Go.ifN_go ?_ | with_reducible refine Go.yes_go ?_ | with_reducible refine Go.isI_go ?_ | with_reducible refine Go.isB_go ?_ | with_reducible refine Go.isN_go ?_ | with_reducible refine Go.notN_go ?_ | with_reducible refine Go.lrev_go ?_ | with_reducible refine Go.bk_go ?_ | with_reducible refine Go.ct_go ?_ | with_reducible refine Go.rng2_go ?_ | with_reducible refine Go.orV_go ?_ | with_reducible refine Go.notV_go ?_ | ((with_reducible apply Go.extT_go); exact rfl) | with_reducible refine Go.isI2_go ?_ | with_reducible refine Go.dict2_go ?_ | with_reducible refine Go.callE_go ?_ | with_reducible refine Go.callEK_go ?_ | ((with_reducible apply Go.callX_go); exact rfl) | with_reducible refine Go.raise0_go ?_ | with_reducible refine Go.raise1_go ?_ | ((with_reducible apply Go.is1_go); exact rfl) | ((with_reducible apply Go.isT_go); exact rfl) | ((with_reducible apply Go.fld_go); exact rfl) | ((with_reducible apply Go.setIx_go); exact rfl) | unfold fForS | unfold fLc | dsimp only [seqOf, List.set_cons_zero, List.set_cons_succ, setAll, wipeE])))
theorem SwA.nil {n w : Nat} : SwA n w [] := ⟨rfl, by simp [PyData.depthAll], by simp [PyData.shownAll]⟩
theorem SwA.cons {n w v : Nat} {d : D} {ds : List D} (h : Sw n w d) (k : SwA n v ds) : SwA n (w + 2 + v) (d :: ds) :=
  ⟨by simp [showWAll, h.sh, k.sh], by have := h.dp; have := k.dp; simp only [PyData.depthAll]; omega, by have := h.wt; have := k.wt; simp only [PyData.shownAll, List.map_cons, List.sum_cons, List.length_cons]; omega⟩
theorem SwA.le {n w m v : Nat} {d : List D} (h : SwA n w d) (a : n ≤ m) (b : w ≤ v) : SwA m v d := ⟨h.sh, Nat.le_trans h.dp a, Nat.le_trans h.wt b⟩
theorem SwA.all {n w : Nat} : ∀ {ds : List D}, (∀ d ∈ ds, Sw n w d) → SwA n (ds.length * (w + 2)) ds
  | [], _ => SwA.nil
  | d :: ds, h => (SwA.cons (h d List.mem_cons_self) (SwA.all fun e he => h e (List.mem_cons_of_mem _ he))).le (Nat.le_refl _) (by rw [List.length_cons, Nat.succ_mul]; omega)
theorem Sw.le {n w m v : Nat} {d : D} (h : Sw n w d) (a : n ≤ m) (b : w ≤ v) : Sw m v d := ⟨h.sh, Nat.le_trans h.dp a, Nat.le_trans h.wt b⟩
theorem Sw.list {n w : Nat} {ds : List D} (h : SwA n w ds) : Sw (n + 1) (w + 3) (.list ds) :=
  ⟨by simp [showW, h.sh], by have := h.dp; simp only [PyData.depth]; omega, by
    have := h.wt
    have := listText_len_le (PyData.shownAll ds)
    simp only [PyData.shown]
    omega⟩
theorem Sw.tup {n w : Nat} {ds : List D} (h : SwA n w ds) : Sw (n + 1) (w + 3) (.tuple ds) :=
  ⟨by simp [showW, h.sh], by have := h.dp; simp only [PyData.depth]; omega, by
    have := h.wt
    have := tupleText_len_le (PyData.shownAll ds)
    simp only [PyData.shown]
    omega⟩
theorem Sw.int {k : Nat} {i : Int} (h : Sm k i) (h1 : 1 ≤ k := by omega) (h2 : k ≤ 12900 := by omega) : Sw 0 (k + 1) (.int i) := by
  have hl := log2_lt (by omega) h
  have e := int_text_length_le (by omega) hl
  refine ⟨?_, by simp [PyData.depth], ?_⟩
  · simp only [showW, decide_eq_true_eq]
    exact Nat.lt_of_lt_of_le hl h2
  · simp only [PyData.shown]
    rw [PySem.ofString_length]
    omega
theorem Sw.str {x : Str} {w : Nat} (h : (PyData.shown (.str x)).length ≤ w := by decide +kernel) : Sw 0 w (.str x) := ⟨rfl, by simp [PyData.depth], h⟩
theorem Sw.bool (b : Bool) : Sw 0 5 (.bool b) := ⟨rfl, by simp [PyData.depth], by cases b <;> decide⟩
theorem Sw.none : Sw 0 4 .none := ⟨rfl, by simp [PyData.depth], by decide⟩
/-- a surd -/
theorem Sw.s4 {m : Nat} {s : S4} (h : Bd m s) (hm : 20 ≤ m) (h2 : m ≤ 12900) : Sw 1 (4 * (m + 3) + 3) s.D := by
  rw [D4]
  have n : SwA 0 (m + 1 + 2 + (m + 1 + 2 + (m + 1 + 2 + (m + 1 + 2 + 0)))) [PyData.int s.a, .int s.b, .int s.c, .int s.d] := .cons (Sw.int h.a) (.cons (Sw.int h.b) (.cons (Sw.int h.c) (.cons (Sw.int (h.d.le hm)) .nil)))
  exact (Sw.tup n).le (Nat.le_refl _) (by omega)
theorem lay4 (s : S4) : s.D.canLay0 = true := rfl
theorem nrmZ_bd {m : Nat} {a b c d : Int} (ha : Sm m a) (hb : Sm m b) (hc : Sm m c) (c0 : c ≠ 0) (d0 : 0 ≤ d) (hd : Sm 20 d) : Bd m (nrmZ a b c d) := by
  unfold nrmZ
  split
  · exact nrm_bd ha.neg hb.neg hc.neg (by omega) d0 hd
  · exact nrm_bd ha hb hc (by omega) d0 hd
theorem sm0 {k : Nat} : Sm k (0 : Int) := by
  unfold Sm
  exact Nat.pow_pos (by decide)
theorem of_bd {s : S4} (h : okOf s) : Bd 90 (ofS s) := by
  obtain ⟨h1, h2, h3, h4, h5, h6⟩ := h
  unfold ofS
  split
  · exact nrmZ_bd (h1.le (by decide)) sm0 (h3.le (by decide)) h4 (by decide) sm0
  · have hr := rpp_ok (n := s.d) (by omega)
    obtain ⟨b1, b2⟩ := hr.bd h6
    have sm := sm20 (by have := hr.m1; omega) b1
    have sk := sm20 (by have := hr.k1; omega) b2
    split
    · exact nrmZ_bd (((h1.le (l := 80) (by decide)).add (h2.mul sm)).le (by decide)) sm0 (h3.le (by decide)) h4 (by decide) sm0
    · exact nrmZ_bd (h1.le (by decide)) ((h2.mul sm).le (by decide)) (h3.le (by decide)) h4 (by have := hr.k1; omega) sk
theorem back_bd {s : S4} (h : okBack s) (hz : ¬ (s.a = 0 ∧ s.b = 0)) : Bd 4021 (backS s) := by
  obtain ⟨h, n, hn, hf⟩ := h
  exact nrmZ_bd ((h.c.mul h.a).le (by decide)) ((h.c.neg.mul h.b).le (by decide)) (((h.a.mul h.a).le (l := 4020) (by decide)).sub ((h.b.mul h.b).mul h.d)) (back_ok hn hf hz) h.d0 h.d
theorem told_sw {d : D} {w : Nat} (h : Sw 1 w d) : Sw 20 (w + 20) (told d) := by
  have t : Sw 1 6 (PyData.str "told") := (Sw.str (x := "told") (w := 6)).le (by omega) (by omega)
  exact (Sw.tup (SwA.cons t (SwA.cons h SwA.nil)) (w := 6 + 2 + (w + 2 + 0))).le (by omega) (by omega)
theorem err_sw (d : D) : Sw 1 10 (errS d) ∧ (errS d).canLay0 = true := by
  have e : errS d = .none ∨ ∃ x : Str, x ∈ (["form", "great", "part", "root"] : List Str) ∧ errS d = .str x := by
    unfold errS
    split
    · unfold err4
      split
      · exact .inr ⟨_, by simp, rfl⟩
      · split
        · exact .inr ⟨_, by simp, rfl⟩
        · split
          · exact .inl rfl
          · split
            · exact .inr ⟨_, by simp, rfl⟩
            · exact .inl rfl
    · exact .inr ⟨_, by simp, rfl⟩
  rcases e with e | ⟨x, hx, e⟩
  · rw [e]; exact ⟨Sw.none.le (by omega) (by omega), rfl⟩
  · rw [e]
    simp only [List.mem_cons, List.not_mem_nil, or_false] at hx
    rcases hx with rfl | rfl | rfl | rfl <;> exact ⟨(Sw.str (w := 10)).le (by omega) (by omega), by decide +kernel⟩
theorem told_lay {d : D} (h : d.canLay0 = true) : (told d).canLay0 = true := by
  simp [told, PyData.canLay0, PyData.canLayAll0, h]
  decide +kernel
theorem val_ok {q : Ask} (h : q.ok) : Sw 20 200000 q.val ∧ q.val.canLay0 = true := by
  have big : ∀ {m : Nat} {s : S4}, Bd m s → 20 ≤ m → m ≤ 12900 → Sw 20 200000 (told s.D) ∧ (told s.D).canLay0 = true := fun hb a b => ⟨(told_sw (Sw.s4 hb a b)).le (by omega) (by omega), told_lay (lay4 _)⟩
  cases q with
  | of s => exact big (of_bd h) (by decide) (by decide)
  | sum s t => exact big (h.1.sum h.2.1) (by decide) (by decide)
  | times s t => exact big (h.1.mul h.2.1) (by decide) (by decide)
  | turned s => exact big (Bd.neg h) (by decide) (by decide)
  | other s =>
    have h : Bd 4000 s := h
    exact big (s := othS s) ⟨h.a, h.b.neg, h.c, h.c0, h.d0, h.d⟩ (by decide) (by decide)
  | back s =>
    show Sw 20 200000 (if s.a = 0 ∧ s.b = 0 then refD "Unfit" else told (backS s).D) ∧ (if s.a = 0 ∧ s.b = 0 then refD "Unfit" else told (backS s).D).canLay0 = true
    by_cases z : s.a = 0 ∧ s.b = 0
    · rw [if_pos z]
      refine ⟨⟨by decide +kernel, by decide +kernel, by decide +kernel⟩, by decide +kernel⟩
    · rw [if_neg z]
      exact big (back_bd h z) (by decide) (by decide)
  | error d =>
    obtain ⟨e1, e2⟩ := err_sw d
    exact ⟨(told_sw e1).le (by omega) (by omega), told_lay e2⟩
theorem r__law_like : ∀ ss (Q : D → Prop), S__law_like ss Q → g__law_like (endsOf Q) (initE N__law_like ss) := by
  rintro ss Q ⟨d, rfl, ⟨h, hl⟩, hq⟩
  have hq : Q (.bool true) := hq
  simp only [N__law_like, initE, List.length_cons, List.length_nil, Nat.reduceAdd, Nat.reduceSub, List.replicate, List.cons_append, List.nil_append, List.append_nil]
  unfold g__law_like
  get_elem_tactic_extensible
  have hs : SeqAt.shaped d = true := by
    unfold SeqAt.shaped
    rw [hl, Bool.true_and, decide_eq_true_eq]
    have := h.dp
    omega
  have eq : ∀ J : Bool → Prop, J true → gEq d d J := fun J q => by
    have gen : SeqAt.shaped d = true ∧ SeqAt.shaped d = true ∧ J (PyData.eqv d d) := ⟨hs, hs, by rw [SeqAt.eqv_refl d hl]; exact q⟩
    cases d with
    | int i => show J (decide (i = i)); simpa using q
    | str i => show J (decide (i = i)); simpa using q
    | bool i => show J (decide (i = i)); simpa using q
    | none => exact gen
    | list ds => exact gen
    | tuple ds => exact gen
    | dict ds => exact gen
  refine eq _ ?_
  get_elem_tactic_extensible
  have rp : ∀ J : D → Prop, J (.str d.shown) → bReprW [d] J := fun J q => ⟨h.sh, by rw [sizeLine_eq]; exact Nat.le_trans h.wt (by decide), Nat.le_trans h.dp (by decide), q⟩
  refine rp _ ?_
  get_elem_tactic_extensible
  refine rp _ ?_
  get_elem_tactic_extensible
  rw [decide_eq_true rfl]
  exact hq
theorem go_like {d : D} {Q : D → Prop} (h : Sw 20 200000 d) (hl : d.canLay0 = true) (hq : Q (.bool true)) : S__law_like [.sh d, .sh d] Q := ⟨d, rfl, ⟨h, hl⟩, hq⟩
end T
end DL
namespace DL
namespace T
open PySem L2 PySem.Spec PyProof.Rows
local macro_rules
  | `(tactic| get_elem_tactic_extensible) => `(tactic| (repeat (first | with_reducible refine Go.lc_go ?_ | with_reducible refine Go.ln_go ?_ | ((with_reducible apply Go.v_sh); exact rfl) | ((with_reducible apply Go.n_sh); exact rfl) | ((with_reducible apply Go.n_ow); exact rfl) | ((with_reducible apply Go.ab_go); exact rfl) | ((with_reducible apply Go.app_go); exact rfl) | ((with_reducible apply Go.ext_go); exact rfl) | with_reducible refine Go.c_go ?_ | with_reducible refine Go.tup_go ?_ | with_reducible refine Go.nv_go ?_ | with_reducible refine Go.bin_go ?_ | with_reducible refine Go.slT_go ?_ | with_reducible refine Go.slL_go ?_ | with_reducible refine Go.on_go ?_ | with_reducible refine Go.os_go ?_ | with_reducible refine Go.neg_go ?_ | with_reducible refine Go.sub_go ?_ | with_reducible refine Go.addI_go ?_ | with_reducible refine Go.seqT_go ?_ | with_reducible refine Go.call_go ?_ | with_reducible refine Go.callK_go ?_ | with_reducible refine Go.cb_go ?_ | with_reducible refine Go.dict1_go ?_ | with_reducible refine Go.if_go ?_ | with_reducible refine Go.an_go ?_ | with_reducible refine Go.ac_go ?_ | with_reducible refine Go.mv_go ?_ | with_reducible refine Go.par_go ?_ | with_reducible refine Go.sq_go ?_ | with_reducible refine Go.set_go ?_ | with_reducible refine Go.setN_go ?_ | with_reducible refine Go.ret_go ?_ | with_reducible refine Go.asg_go ?_ | with_reducible refine Go.ifs_go ?_ | with_reducible refine Go.next_go ?_ | with_reducible refine Go.nm_go ?_ | with_reducible refine Go.cmp_go ?_ | with_reducible refine Go.tv_go ?_ | with_reducible refine Go.not_go ?_ | with_reducible refine Go.and_go ?_ | with_reducible refine Go.or_go ?_ | with_reducible refine Go.lenT_go ?_ | with_reducible refine Go.lenL_go ?_ | with_reducible refine Go.absI_go ?_ | with_reducible refine Go.intI_go ?_ | with_reducible refine Go.max2_go ?_ | with_reducible refine Go.min2_go ?_ | with_reducible refine Go.tupL_go ?_ | with_reducible refine Go.tupT_go ?_ | with_reducible refine Go.gv_go ?_ | with_reducible refine Go.ltI_go ?_ | with_reducible refine Go.leI_go ?_ | with_reducible refine Go.gtI_go ?_ | with_reducible refine Go.geI_go ?_ | with_reducible refine Go.eqI_go ?_ | with_reducible refine Go.neI_go ?_ | with_reducible refine Go.eqS_go ?_ | with_reducible refine Go.rng1_go ?_ | ((first | with_reducible apply Go.ixL_go | with_reducible apply Go.ixT_go); first | exact DL.at0 _ _ | exact DL.at1 _ _ _ | exact DL.at2 _ _ _ _ | exact DL.at3 _ _ _ _ _ | exact DL.at4 _ _ _ _ _ _) | ((with_reducible apply Go.frz_go); exact rfl) | ((with_reducible apply Go.frz_sh); exact rfl) | with_reducible refine Go.mn_go ?_ | with_reducible refine Go.andV_go ?_ | ((first | with_reducible apply Go.sqT_go | with_reducible apply Go.sqL_go); exact rfl) | with_reducible refine Go.gsC_go ?_ | with_reducible refine Go.gsN_go ?_ | with_reducible refine Go.ifT (by decide +kernel) ?_ | with_reducible refine Go.ifF (by decide +kernel) ?_ | with_reducible refine Go.cat_go ?_ | with_reducible refine Go.callO_go ?_ | ((with_reducible apply Go.retO_go); exact rfl) | with_reducible refine Go.retN_go ?_ | with_reducible refine Go.ifN_go ?_ | with_reducible refine Go.yes_go ?_ | with_reducible refine Go.isI_go ?_ | with_reducible refine Go.isB_go ?_ | with_reducible refine Go.isN_go ?_ | with_reducible refine Go.notN_go ?_ | with_reducible refine Go.lrev_go ?_ | with_reducible refine Go.bk_go ?_ | with_reducible refine Go.ct_go ?_ | with_reducible refine Go.rng2_go ?_ | with_reducible refine Go.orV_go ?_ | with_reducible refine Go.notV_go ?_ | ((with_reducible apply Go.extT_go); exact rfl) | with_reducible refine Go.isI2_go ?_ | with_reducible refine Go.dict2_go ?_ | with_reducible refine Go.callE_go ?_ | with_reducible refine Go.callEK_go ?_ | ((with_reducible apply Go.callX_go); exact rfl) | with_reducible refine Go.raise0_go ?_ | with_reducible refine Go.raise1_go ?_ | ((with_reducible apply Go.is1_go); exact rfl) | ((with_reducible apply Go.isT_go); exact rfl) | ((with_reducible apply Go.fld_go); exact rfl) | ((with_reducible apply Go.setIx_go); exact rfl) | unfold fForS | unfold fLc | dsimp only [seqOf, List.set_cons_zero, List.set_cons_succ, setAll, wipeE])))
theorem sf_of (n : Nat) (h2 : 2 ≤ n) (h3 : n ≤ 1000001) (h : ((List.range 999).all fun i => n % ((i + 2) * (i + 2)) != 0) = true) : SF (n : Int) := by
  refine ⟨by omega, by omega, fun t ht d => ?_⟩
  obtain ⟨j, rfl⟩ : ∃ j : Nat, t = ((j + 2 : Nat) : Int) := ⟨t.toNat - 2, by omega⟩
  have d2 : (j + 2) * (j + 2) ∣ n := Int.natCast_dvd_natCast.mp (by rw [Int.natCast_mul]; exact d)
  have le := Nat.le_of_dvd (by omega) d2
  have j9 : j < 999 := by
    apply Classical.byContradiction
    intro c
    have := Nat.mul_le_mul (by omega : 1001 ≤ j + 2) (by omega : 1001 ≤ j + 2)
    omega
  have := List.all_eq_true.mp h j (List.mem_range.mpr j9)
  rw [Nat.mod_eq_zero_of_dvd d2] at this
  exact absurd this (by decide)
theorem sfs : ∀ n ∈ ([2, 3, 5, 6, 7, 10, 11, 13, 21, 30, 999997, 999983, 510510, 30030, 110891, 10007, 9797, 10403] : List Nat), SF (n : Int) := by
  have key : (([2, 3, 5, 6, 7, 10, 11, 13, 21, 30, 999997, 999983, 510510, 30030, 110891, 10007, 9797, 10403] : List Nat).all fun n => decide (2 ≤ n) && decide (n ≤ 1000001) && ((List.range 999).all fun i => n % ((i + 2) * (i + 2)) != 0)) = true := by decide +kernel
  intro n hn
  have := List.all_eq_true.mp key n hn
  simp only [Bool.and_eq_true, decide_eq_true_eq] at this
  exact sf_of n this.1.1 this.1.2 this.2
theorem sfi (n : Nat) (h : n ∈ ([2, 3, 5, 6, 7, 10, 11, 13, 21, 30, 999997, 999983, 510510, 30030, 110891, 10007, 9797, 10403] : List Nat) := by decide) : SF (n : Int) := sfs n h
theorem r__law_square_free : ∀ ss (Q : D → Prop), S__law_square_free ss Q → g__law_square_free (endsOf Q) (initE N__law_square_free ss) := by
  rintro ss Q ⟨_, rfl, _, hq⟩
  have hq' : ∀ n : Int, SF n → Q (.int n) := fun n h => hq n h
  simp only [N__law_square_free, arB, initE, List.length_cons, List.length_nil, Nat.reduceAdd, Nat.reduceSub, List.replicate, List.cons_append, List.nil_append, List.append_nil]
  simp only [g__law_square_free, fSeqS, fSet, fSetN, fRet, fIfS, fNext, fBreak, fCont, fNever, fBin, fCmp, fV, fN, fC, lk, lk_z, lk_s, gAdd, gSub, gMul, gDiv, gMod, gPow, gShl, gShlW, gShr, gv, gLt, gLe, gGt, gGe, gEq, gNe, gIx, fNeg, fTV, fNot, fAnd, fOr, fAndV, fOrV, fNotV, fIf, fLN, fLC, fAN, fAC, fAB, fNV, fTup, fCB, bInt, bAbs, bLen, bMax2, bMin2, bTuple, fSeq, seqOf, fCall, fCallK, fAsg, gNm, gsNil, gsCons, gTpl, gSq, fPar, fMV, fMN, setAll, fApp, fExt, fSetIx, fFrz, fForS, fRng1, fRng2, fBits, fON, fOS, fSlT, fSlL, List.set_cons_zero, List.set_cons_succ, List.length_cons, List.length_nil, endsOf, decide_eq_true_eq, true_and, and_true, at0, at1, at2, at3, at4, Bool.not_eq_true', decide_eq_false_iff_not, lg2, Int.reduceLT, ↓reduceIte, pw6, tp6]
  refine go_draw (by decide) (by decide) fun w _ _ => ?_
  simp only [fSeqS, fSet, fSetN, fRet, fIfS, fNext, fBreak, fCont, fNever, fBin, fCmp, fV, fN, fC, lk, lk_z, lk_s, gAdd, gSub, gMul, gDiv, gMod, gPow, gShl, gShlW, gShr, gv, gLt, gLe, gGt, gGe, gEq, gNe, gIx, fNeg, fTV, fNot, fAnd, fOr, fAndV, fOrV, fNotV, fIf, fLN, fLC, fAN, fAC, fAB, fNV, fTup, fCB, bInt, bAbs, bLen, bMax2, bMin2, bTuple, fSeq, seqOf, fCall, fCallK, fAsg, gNm, gsNil, gsCons, gTpl, gSq, fPar, fMV, fMN, setAll, fApp, fExt, fSetIx, fFrz, fForS, fRng1, fRng2, fBits, fON, fOS, fSlT, fSlL, List.set_cons_zero, List.set_cons_succ, List.length_cons, List.length_nil, endsOf, decide_eq_true_eq, true_and, and_true, at0, at1, at2, at3, at4, Bool.not_eq_true', decide_eq_false_iff_not, lg2, Int.reduceLT, ↓reduceIte]
  have l9 : (9 : Int).natAbs.log2 < 9000 := by decide
  have c1 : CMulW 97 101 := mw (k := 20) (l := 20) (Sm.nat (by decide) (by decide)) (Sm.nat (by decide) (by decide))
  have c2 : CMulW 101 103 := mw (k := 20) (l := 20) (Sm.nat (by decide) (by decide)) (Sm.nat (by decide) (by decide))
  split
  · refine go_pick (by simp) (by simp) fun d hd => ?_
    simp only [List.mem_cons, List.not_mem_nil, or_false] at hd
    rcases hd with rfl | rfl | rfl | rfl | rfl | rfl | rfl | rfl | rfl | rfl
    · exact hq' _ (sfi 2)
    · exact hq' _ (sfi 3)
    · exact hq' _ (sfi 5)
    · exact hq' _ (sfi 6)
    · exact hq' _ (sfi 7)
    · exact hq' _ (sfi 10)
    · exact hq' _ (sfi 11)
    · exact hq' _ (sfi 13)
    · exact hq' _ (sfi 21)
    · exact hq' _ (sfi 30)
  · split
    · refine ⟨l9, c1, c2, ?_⟩
      refine go_pick (by simp) (by simp) fun d hd => ?_
      simp only [List.mem_cons, List.not_mem_nil, or_false] at hd
      rcases hd with rfl | rfl | rfl | rfl | rfl | rfl | rfl | rfl
      · exact hq' _ (sfi 999997)
      · exact hq' _ (sfi 999983)
      · exact hq' _ (sfi 510510)
      · exact hq' _ (sfi 30030)
      · exact hq' _ (sfi 110891)
      · exact hq' _ (sfi 10007)
      · exact hq' _ (sfi 9797)
      · exact hq' _ (sfi 10403)
    · refine go_draw (by decide) (by decide) fun x x0 x1 => ?_
      simp only [fSeqS, fSet, fSetN, fRet, fIfS, fNext, fBreak, fCont, fNever, fBin, fCmp, fV, fN, fC, lk, lk_z, lk_s, gAdd, gSub, gMul, gDiv, gMod, gPow, gShl, gShlW, gShr, gv, gLt, gLe, gGt, gGe, gEq, gNe, gIx, fNeg, fTV, fNot, fAnd, fOr, fAndV, fOrV, fNotV, fIf, fLN, fLC, fAN, fAC, fAB, fNV, fTup, fCB, bInt, bAbs, bLen, bMax2, bMin2, bTuple, fSeq, seqOf, fCall, fCallK, fAsg, gNm, gsNil, gsCons, gTpl, gSq, fPar, fMV, fMN, setAll, fApp, fExt, fSetIx, fFrz, fForS, fRng1, fRng2, fBits, fON, fOS, fSlT, fSlL, List.set_cons_zero, List.set_cons_succ, List.length_cons, List.length_nil, endsOf, decide_eq_true_eq, true_and, and_true, at0, at1, at2, at3, at4, Bool.not_eq_true', decide_eq_false_iff_not, lg2, Int.reduceLT, ↓reduceIte]
      refine ⟨2 + x, rfl, ⟨by omega, by omega⟩, ?_⟩
      have hr := rpp_ok (n := 2 + x) (by omega)
      obtain ⟨b1, b2⟩ := hr.bd (by omega)
      try simp only [fSeqS, fSet, fSetN, fRet, fIfS, fNext, fBreak, fCont, fNever, fBin, fCmp, fV, fN, fC, lk, lk_z, lk_s, gAdd, gSub, gMul, gDiv, gMod, gPow, gShl, gShlW, gShr, gv, gLt, gLe, gGt, gGe, gEq, gNe, gIx, fNeg, fTV, fNot, fAnd, fOr, fAndV, fOrV, fNotV, fIf, fLN, fLC, fAN, fAC, fAB, fNV, fTup, fCB, bInt, bAbs, bLen, bMax2, bMin2, bTuple, fSeq, seqOf, fCall, fCallK, fAsg, gNm, gsNil, gsCons, gTpl, gSq, fPar, fMV, fMN, setAll, fApp, fExt, fSetIx, fFrz, fForS, fRng1, fRng2, fBits, fON, fOS, fSlT, fSlL, List.set_cons_zero, List.set_cons_succ, List.length_cons, List.length_nil, endsOf, decide_eq_true_eq, true_and, and_true, at0, at1, at2, at3, at4, Bool.not_eq_true', decide_eq_false_iff_not, lg2, Int.reduceLT, ↓reduceIte]
      split
      · exact hq' (rpk (2 + x)) ⟨by omega, b2, hr.f⟩
      · exact hq' _ (sfi 2)
theorem go_square_free {Q : D → Prop} (hq : ∀ n : Int, SF n → Q (.int n)) : S__law_square_free [.bg] Q := ⟨(), rfl, trivial, fun n hn => hq n hn⟩
theorem primes_ok : ∀ p ∈ ([2, 3, 5, 7, 11, 13, 29, 31, 37, 97, 101, 103, 127, 331, 499, 503, 701, 991, 997] : List Int), 2 ≤ p ∧ p ≤ 997 := by decide
theorem r__law_any_root : ∀ ss (Q : D → Prop), S__law_any_root ss Q → g__law_any_root (endsOf Q) (initE N__law_any_root ss) := by
  rintro ss Q ⟨_, rfl, _, hq⟩
  have hq' : ∀ n : Int, 0 ≤ n → n ≤ 1000001 → Q (.int n) := fun n h1 h2 => hq n ⟨h1, h2⟩
  simp only [N__law_any_root, arB, initE, List.length_cons, List.length_nil, Nat.reduceAdd, Nat.reduceSub, List.replicate, List.cons_append, List.nil_append, List.append_nil]
  unfold g__law_any_root
  get_elem_tactic_extensible
  refine go_draw (by decide) (by decide) fun w _ _ => ?_
  get_elem_tactic_extensible
  refine Go.ifd (fun _ => ?_) (fun _ => ?_)
  · get_elem_tactic_extensible
    exact go_square_free fun n hn => hq' n (by have := hn.1; omega) hn.2.1
  get_elem_tactic_extensible
  refine Go.ifd (fun _ => ?_) (fun _ => ?_)
  · get_elem_tactic_extensible
    refine pow6_go ?_
    get_elem_tactic_extensible
    exact go_draw (by decide) (by decide) fun r r0 r1 => hq' r r0 (by omega)
  get_elem_tactic_extensible
  refine Go.ifd (fun _ => ?_) (fun _ => ?_)
  · get_elem_tactic_extensible
    refine go_pick (by simp) (by simp) fun d hd => ?_
    obtain ⟨p, rfl, p2, p3⟩ : ∃ p : Int, d = .int p ∧ 2 ≤ p ∧ p ≤ 997 := by
      have : d ∈ ([2, 3, 5, 7, 11, 13, 29, 31, 37, 97, 101, 103, 127, 331, 499, 503, 701, 991, 997] : List Int).map PyData.int := hd
      obtain ⟨p, hp, rfl⟩ := List.mem_map.mp this
      obtain ⟨h1, h2⟩ := primes_ok p hp
      exact ⟨p, rfl, h1, h2⟩
    have sp : Sm 10 p := Sm.nat (by omega) (by omega)
    have pp : 4 ≤ p * p := by
      have := Int.mul_le_mul p2 p2 (by omega) (by omega)
      omega
    have pq : p * p ≤ 994009 := by
      have := Int.mul_le_mul p3 p3 (by omega) (by omega)
      omega
    get_elem_tactic_extensible
    refine Go.mulI_go (mw sp sp) ?_
    get_elem_tactic_extensible
    refine pow6_go ?_
    get_elem_tactic_extensible
    refine Go.mulI_go (mw sp sp) ?_
    refine Go.divI_go (lg_small (by omega) (by omega)) (by omega) ?_
    get_elem_tactic_extensible
    have q1 : 1 ≤ 1000000 / (p * p) := Int.le_ediv_of_mul_le (by omega) (by omega)
    have q2 : p * p * (1000000 / (p * p)) ≤ 1000000 := Int.mul_ediv_self_le (by omega)
    generalize p * p = k at *
    generalize 1000000 / k = m at *
    have m2 : m ≤ 1000000 := by
      have := Int.mul_le_mul_of_nonneg_right (a := 1) (b := k) (c := m) (by omega) (by omega)
      omega
    refine go_draw (by omega) (lg_small (by omega) (by omega)) fun r r0 r1 => ?_
    get_elem_tactic_extensible
    have s1 : Sm 21 k := Sm.nat (by omega) (by omega)
    have s2 : Sm 21 (1 + r) := Sm.nat (by omega) (by omega)
    refine Go.mulI_go (mw s1 s2) ?_
    have a1 := Int.mul_le_mul_of_nonneg_left (a := 1 + r) (b := m) (c := k) (by omega) (by omega)
    have a2 := Int.mul_nonneg (a := k) (b := 1 + r) (by omega) (by omega)
    exact hq' _ a2 (by omega)
  get_elem_tactic_extensible
  refine Go.ifd (fun _ => ?_) (fun _ => ?_)
  · get_elem_tactic_extensible
    refine go_draw (by decide) (by decide) fun x x0 x1 => ?_
    get_elem_tactic_extensible
    refine go_draw (by decide) (by decide) fun y y0 y1 => ?_
    get_elem_tactic_extensible
    refine go_pick (by simp) (by simp) fun d hd => ?_
    obtain ⟨p, rfl, p1, p2⟩ : ∃ p : Int, d = .int p ∧ 1 ≤ p ∧ p ≤ 1000 := by
      simp only [List.mem_cons, List.not_mem_nil, or_false] at hd
      rcases hd with rfl | rfl
      · exact ⟨_, rfl, by omega, by omega⟩
      · exact ⟨_, rfl, by omega, by omega⟩
    get_elem_tactic_extensible
    refine ⟨⟨by decide, by decide, by omega⟩, ?_⟩
    have e : p ^ (2 : Int).toNat = p * p := by
      show p ^ 2 = p * p
      rw [Int.pow_succ, Int.pow_succ, Int.pow_zero, Int.one_mul]
    rw [e]
    have a1 := Int.mul_le_mul p2 p2 (by omega) (by omega)
    have a2 := Int.mul_nonneg (a := p) (b := p) (by omega) (by omega)
    exact hq' _ a2 (by omega)
  get_elem_tactic_extensible
  refine pow6_go ?_
  get_elem_tactic_extensible
  refine pow6_go ?_
  get_elem_tactic_extensible
  refine go_pick (by simp) (by simp) fun d hd => ?_
  have : d ∈ ([0, 1, 2, 4, 8, 9, 12, 18, 1000000, 999998, 999999, 994009, 982802, 999983] : List Int).map PyData.int := hd
  obtain ⟨p, hp, rfl⟩ := List.mem_map.mp this
  have key : ∀ p ∈ ([0, 1, 2, 4, 8, 9, 12, 18, 1000000, 999998, 999999, 994009, 982802, 999983] : List Int), 0 ≤ p ∧ p ≤ 1000001 := by decide
  exact hq' p (key p hp).1 (key p hp).2
theorem go_any_root {Q : D → Prop} (hq : ∀ n : Int, 0 ≤ n → n ≤ 1000001 → Q (.int n)) : S__law_any_root [.bg] Q := ⟨(), rfl, trivial, fun n hn => hq n hn.1 hn.2⟩
theorem nrm_fl {a b c d n : Int} (h0 : 0 < c) (h : b ≠ 0 → d = n) : Fl n (nrm a b c d) := by
  by_cases hb : b = 0
  · refine .inl ⟨?_, ?_⟩
    · show (if b ≠ 0 then d else 0) = 0
      rw [if_neg (by omega)]
    · show b / g3 a b c = 0
      rw [hb, Int.zero_ediv]
  · refine .inr ⟨?_, ?_⟩
    · show (if b ≠ 0 then d else 0) = n
      rw [if_pos hb]; exact h hb
    · show b / g3 a b c ≠ 0
      have g := g3_pos (a := a) (b := b) h0
      have dv : g3 a b c ∣ b := by
        unfold g3
        exact Int.dvd_trans (Int.gcd_dvd_left ..) (Int.gcd_dvd_right ..)
      obtain ⟨k, e⟩ := dv
      intro z
      have : b / g3 a b c = k := Int.ediv_eq_of_eq_mul_right (by omega) e
      rw [this] at z
      rw [z, Int.mul_zero] at e
      exact hb e
theorem nrmZ_fl {a b c d n : Int} (h0 : c ≠ 0) (h : b ≠ 0 → d = n) : Fl n (nrmZ a b c d) := by
  unfold nrmZ
  split
  · exact nrm_fl (by omega) fun z => h (by omega)
  · exact nrm_fl (by omega) h
theorem r__law_handed : ∀ ss (Q : D → Prop), S__law_handed ss Q → g__law_handed (endsOf Q) (initE N__law_handed ss) := by
  rintro ss Q ⟨n, rfl, hn, hq⟩
  have hq' : ∀ s : S4, Bd 41 s → Fl n s → Q s.D := fun s h k => hq s ⟨h, k⟩
  simp only [N__law_handed, initE, List.length_cons, List.length_nil, Nat.reduceAdd, Nat.reduceSub, List.replicate, List.cons_append, List.nil_append, List.append_nil]
  unfold g__law_handed
  get_elem_tactic_extensible
  refine go_integer fun i i0 i1 => ?_
  get_elem_tactic_extensible
  have c0 : 0 < (if (if i < 0 then -i else i) > 1 then (if i < 0 then -i else i) else 1) := by split <;> omega
  have c1 : (if (if i < 0 then -i else i) > 1 then (if i < 0 then -i else i) else 1) ≤ 1000000000000 := by split <;> (try split) <;> omega
  generalize (if (if i < 0 then -i else i) > 1 then (if i < 0 then -i else i) else 1) = c at c0 c1
  refine go_draw (by decide) (by decide) fun y _ _ => ?_
  get_elem_tactic_extensible
  have fin : ∀ a b : Int, -1000000000000 ≤ a → a ≤ 1000000000000 → -1000000000000 ≤ b → b ≤ 1000000000000 → S__law_surd [iS a, iS b, iS c, iS n] Q := fun a b a0 a1 b0 b1 =>
    go__law_surd ⟨a, b, c, n⟩ ⟨by show c ≠ 0; omega, (s40 a0 a1).le (by decide), (s40 b0 b1).le (by decide), (s40 (by omega) c1).le (by decide)⟩ (hq' _ ((nrmZ_bd (s40 a0 a1) (s40 b0 b1) (s40 (by omega) c1) (by omega) (by have := hn.1; omega) hn.sm).le (by decide)) (nrmZ_fl (by show c ≠ 0; omega) fun _ => rfl))
  refine Go.ifd (fun _ => ?_) (fun _ => ?_)
  · get_elem_tactic_extensible
    refine go_integer fun a a0 a1 => ?_
    get_elem_tactic_extensible
    exact fin a 0 a0 a1 (by decide) (by decide)
  · get_elem_tactic_extensible
    refine go_integer fun b b0 b1 => ?_
    get_elem_tactic_extensible
    refine go_integer fun a a0 a1 => ?_
    get_elem_tactic_extensible
    exact fin a b a0 a1 b0 b1
/-- the root of both -/
theorem mx_root {n : Int} {s t : S4} (hn : SF n) (hs : Fl n s) (ht : Fl n t) : (if s.d > 0 then s.d else t.d) = mx s.d t.d := by
  have := hn.1
  unfold mx
  rcases hs with ⟨h1, _⟩ | ⟨h1, _⟩ <;> rcases ht with ⟨h2, _⟩ | ⟨h2, _⟩ <;> rw [h1, h2] <;> simp <;> omega
theorem root_go {n : Int} {s t : S4} (hn : SF n) (hs : Fl n s) (ht : Fl n t) {ρ : Env} {K : D → Prop} (e1 : lk ρ 5 = iS s.d) (e2 : lk ρ 9 = iS t.d) (h : K (.int (mx s.d t.d))) : if decide (0 < s.d) = true then fV 5 ρ K else fV 9 ρ K := by
  have e := mx_root hn hs ht
  refine Go.ifd (fun z => ?_) (fun z => ?_)
  · refine Go.v_sh e1 ?_
    rw [if_pos z] at e
    rw [e]; exact h
  · refine Go.v_sh e2 ?_
    rw [if_neg z] at e
    rw [e]; exact h
theorem r__law_due : ∀ ss (Q : D → Prop), S__law_due ss Q → g__law_due (endsOf Q) (initE N__law_due ss) := by
  rintro ss Q ⟨q, rfl, h, hq⟩
  simp only [N__law_due, initE, List.length_cons, List.length_nil, Nat.reduceAdd, Nat.reduceSub, List.replicate, List.cons_append, List.nil_append, List.append_nil]
  unfold g__law_due
  cases q with
  | of s =>
    have h : okOf s := h
    have hq : Q (told (ofS s).D) := hq
    dsimp only [Ask.word, Ask.row]
    get_elem_tactic_extensible
    exact ⟨s, rfl, h, hq⟩
  | error d =>
    have hq : Q (told (errS d)) := hq
    dsimp only [Ask.word, Ask.row]
    get_elem_tactic_extensible
    unfold q__law_due_9
    get_elem_tactic_extensible
    exact ⟨d, rfl, trivial, hq⟩
  | turned s =>
    have hq : Q (told (negS s).D) := hq
    dsimp only [Ask.word, Ask.row, D4]
    get_elem_tactic_extensible
    unfold q__law_due_9
    get_elem_tactic_extensible
    unfold q__law_due_8
    get_elem_tactic_extensible
    unfold q__law_due_7
    get_elem_tactic_extensible
    exact hq
  | other s =>
    have hq : Q (told (othS s).D) := hq
    dsimp only [Ask.word, Ask.row, D4]
    get_elem_tactic_extensible
    unfold q__law_due_9
    get_elem_tactic_extensible
    unfold q__law_due_8
    get_elem_tactic_extensible
    unfold q__law_due_7
    get_elem_tactic_extensible
    unfold q__law_due_6
    get_elem_tactic_extensible
    exact hq
  | back s =>
    obtain ⟨h, n, hn, hf⟩ : okBack s := h
    have hq : Q (if s.a = 0 ∧ s.b = 0 then refD "Unfit" else told (backS s).D) := hq
    dsimp only [Ask.word, Ask.row, D4]
    get_elem_tactic_extensible
    unfold q__law_due_9
    get_elem_tactic_extensible
    unfold q__law_due_8
    get_elem_tactic_extensible
    unfold q__law_due_7
    get_elem_tactic_extensible
    unfold q__law_due_6
    get_elem_tactic_extensible
    unfold q__law_due_5
    get_elem_tactic_extensible
    have go : ¬ (s.a = 0 ∧ s.b = 0) → q__law_due_4 (endsOf Q) [.sh (.str "back"), .sh (.list [.tuple [.int s.a, .int s.b, .int s.c, .int s.d]]), iS s.a, iS s.b, iS s.c, iS s.d, .un, .un, .un, .un, .un] := fun nz => by
      rw [if_neg nz] at hq
      unfold q__law_due_4
      get_elem_tactic_extensible
      refine Go.mulI_go (mw h.a h.c) ?_
      get_elem_tactic_extensible
      refine Go.mulI_go (mw h.b.neg h.c) ?_
      get_elem_tactic_extensible
      refine Go.mulI_go (mw h.a h.a) ?_
      get_elem_tactic_extensible
      refine Go.mulI_go (mw h.b h.b) ?_
      get_elem_tactic_extensible
      refine Go.mulI_go (mw (h.b.mul h.b) h.d) ?_
      get_elem_tactic_extensible
      refine go__law_surd ⟨s.a * s.c, -s.b * s.c, s.a * s.a - s.b * s.b * s.d, s.d⟩ ⟨back_ok hn hf nz, (h.a.mul h.c).le (by decide), (h.b.neg.mul h.c).le (by decide), (((h.a.mul h.a).le (l := 4020) (by decide)).sub ((h.b.mul h.b).mul h.d)).le (by decide)⟩ ?_
      have e : backS s = nrmZ (s.a * s.c) (-s.b * s.c) (s.a * s.a - s.b * s.b * s.d) s.d := by
        unfold backS
        rw [Int.mul_comm s.c s.a, show -s.c * s.b = -s.b * s.c by rw [Int.neg_mul, Int.neg_mul, Int.mul_comm]]
      rw [e] at hq
      exact hq
    refine Go.ifd (fun ea => ?_) (fun ea => ?_)
    · refine Go.ifd (fun eb => ?_) (fun eb => ?_)
      · get_elem_tactic_extensible
        rw [if_pos ⟨ea, eb⟩] at hq
        exact hq
      · exact go fun z => eb z.2
    · exact go fun z => ea z.1
  | sum s t =>
    obtain ⟨h, k, n, hn, hs, ht⟩ : ok2 s t := h
    have hq : Q (told (sumS s t).D) := hq
    dsimp only [Ask.word, Ask.row, D4]
    get_elem_tactic_extensible
    unfold q__law_due_9
    get_elem_tactic_extensible
    unfold q__law_due_8
    get_elem_tactic_extensible
    unfold q__law_due_7
    get_elem_tactic_extensible
    unfold q__law_due_6
    get_elem_tactic_extensible
    unfold q__law_due_5
    get_elem_tactic_extensible
    unfold q__law_due_4
    get_elem_tactic_extensible
    unfold q__law_due_3
    get_elem_tactic_extensible
    unfold q__law_due_2
    get_elem_tactic_extensible
    obtain ⟨d0, d1⟩ := mx_ok h.d0 h.d k.d0 k.d
    have c0 : s.c * t.c ≠ 0 := by
      have := Int.mul_pos h.c0 k.c0
      omega
    refine root_go hn hs ht rfl rfl ?_
    unfold q__law_due_1
    get_elem_tactic_extensible
    refine Go.mulI_go (mw h.a k.c) ?_
    get_elem_tactic_extensible
    refine Go.mulI_go (mw k.a h.c) ?_
    get_elem_tactic_extensible
    refine Go.mulI_go (mw h.b k.c) ?_
    get_elem_tactic_extensible
    refine Go.mulI_go (mw k.b h.c) ?_
    get_elem_tactic_extensible
    refine Go.mulI_go (mw h.c k.c) ?_
    get_elem_tactic_extensible
    refine go__law_surd ⟨s.a * t.c + t.a * s.c, s.b * t.c + t.b * s.c, s.c * t.c, mx s.d t.d⟩ ⟨c0, ((h.a.mul k.c).add (k.a.mul h.c)).le (by decide), ((h.b.mul k.c).add (k.b.mul h.c)).le (by decide), (h.c.mul k.c).le (by decide)⟩ ?_
    dsimp only
    rw [nrmZ_pos (Int.mul_pos h.c0 k.c0)]
    exact hq
  | times s t =>
    obtain ⟨h, k, n, hn, hs, ht⟩ : ok2 s t := h
    have hq : Q (told (mulS s t).D) := hq
    dsimp only [Ask.word, Ask.row, D4]
    get_elem_tactic_extensible
    unfold q__law_due_9
    get_elem_tactic_extensible
    unfold q__law_due_8
    get_elem_tactic_extensible
    unfold q__law_due_7
    get_elem_tactic_extensible
    unfold q__law_due_6
    get_elem_tactic_extensible
    unfold q__law_due_5
    get_elem_tactic_extensible
    unfold q__law_due_4
    get_elem_tactic_extensible
    unfold q__law_due_3
    get_elem_tactic_extensible
    unfold q__law_due_2
    get_elem_tactic_extensible
    obtain ⟨d0, d1⟩ := mx_ok h.d0 h.d k.d0 k.d
    have c0 : s.c * t.c ≠ 0 := by
      have := Int.mul_pos h.c0 k.c0
      omega
    refine root_go hn hs ht rfl rfl ?_
    unfold q__law_due_1
    get_elem_tactic_extensible
    unfold q__law_due_0
    get_elem_tactic_extensible
    refine Go.mulI_go (mw h.a k.a) ?_
    get_elem_tactic_extensible
    refine Go.mulI_go (mw h.b k.b) ?_
    get_elem_tactic_extensible
    refine Go.mulI_go (mw (h.b.mul k.b) d1) ?_
    get_elem_tactic_extensible
    refine Go.mulI_go (mw h.a k.b) ?_
    get_elem_tactic_extensible
    refine Go.mulI_go (mw h.b k.a) ?_
    get_elem_tactic_extensible
    refine Go.mulI_go (mw h.c k.c) ?_
    get_elem_tactic_extensible
    refine go__law_surd ⟨s.a * t.a + s.b * t.b * mx s.d t.d, s.a * t.b + s.b * t.a, s.c * t.c, mx s.d t.d⟩ ⟨c0, (((h.a.mul k.a).le (l := 8020) (by decide)).add ((h.b.mul k.b).mul d1)).le (by decide), ((h.a.mul k.b).add (h.b.mul k.a)).le (by decide), (h.c.mul k.c).le (by decide)⟩ ?_
    dsimp only
    rw [nrmZ_pos (Int.mul_pos h.c0 k.c0)]
    exact hq
theorem go_due (q : Ask) {Q : D → Prop} (h : q.ok) (hq : Q q.val) : S__law_due [.sh (.str q.word), .sh q.row] Q := ⟨q, rfl, h, hq⟩
theorem go_told (q : Ask) (b : Bool) {Q : D → Prop} (h : q.ok) (hq : Q q.val) : S__law_told [.sh (.str q.word), .sh q.row, .sh (.bool b)] Q := ⟨q, b, rfl, h, hq⟩
end T
end DL
namespace DL
namespace T
open PySem L2 PySem.Spec PyProof.Rows
local macro_rules
  | `(tactic| get_elem_tactic_extensible) => `(tactic| (repeat (first | with_reducible refine Go.lc_go ?_ | with_reducible refine Go.ln_go ?_ | ((with_reducible apply Go.v_sh); exact rfl) | ((with_reducible apply Go.n_sh); exact rfl) | ((with_reducible apply Go.n_ow); exact rfl) | ((with_reducible apply Go.ab_go); exact rfl) | ((with_reducible apply Go.app_go); exact rfl) | ((with_reducible apply Go.ext_go); exact rfl) | with_reducible refine Go.c_go ?_ | with_reducible refine Go.tup_go ?_ | with_reducible refine Go.nv_go ?_ | with_reducible refine Go.bin_go ?_ | with_reducible refine Go.slT_go ?_ | with_reducible refine Go.slL_go ?_ | with_reducible refine Go.on_go ?_ | with_reducible refine Go.os_go ?_ | with_reducible refine Go.neg_go ?_ | with_reducible refine Go.sub_go ?_ | with_reducible refine Go.addI_go ?_ | with_reducible refine Go.seqT_go ?_ | with_reducible refine Go.call_go ?_ | with_reducible refine Go.callK_go ?_ | with_reducible refine Go.cb_go ?_ | with_reducible refine Go.dict1_go ?_ | with_reducible refine Go.if_go ?_ | with_reducible refine Go.an_go ?_ | with_reducible refine Go.ac_go ?_ | with_reducible refine Go.mv_go ?_ | with_reducible refine Go.par_go ?_ | with_reducible refine Go.sq_go ?_ | with_reducible refine Go.set_go ?_ | with_reducible refine Go.setN_go ?_ | with_reducible refine Go.ret_go ?_ | with_reducible refine Go.asg_go ?_ | with_reducible refine Go.ifs_go ?_ | with_reducible refine Go.next_go ?_ | with_reducible refine Go.nm_go ?_ | with_reducible refine Go.cmp_go ?_ | with_reducible refine Go.tv_go ?_ | with_reducible refine Go.not_go ?_ | with_reducible refine Go.and_go ?_ | with_reducible refine Go.or_go ?_ | with_reducible refine Go.lenT_go ?_ | with_reducible refine Go.lenL_go ?_ | with_reducible refine Go.absI_go ?_ | with_reducible refine Go.intI_go ?_ | with_reducible refine Go.max2_go ?_ | with_reducible refine Go.min2_go ?_ | with_reducible refine Go.tupL_go ?_ | with_reducible refine Go.tupT_go ?_ | with_reducible refine Go.gv_go ?_ | with_reducible refine Go.ltI_go ?_ | with_reducible refine Go.leI_go ?_ | with_reducible refine Go.gtI_go ?_ | with_reducible refine Go.geI_go ?_ | with_reducible refine Go.eqI_go ?_ | with_reducible refine Go.neI_go ?_ | with_reducible refine Go.eqS_go ?_ | with_reducible refine Go.rng1_go ?_ | ((first | with_reducible apply Go.ixL_go | with_reducible apply Go.ixT_go); first | exact DL.at0 _ _ | exact DL.at1 _ _ _ | exact DL.at2 _ _ _ _ | exact DL.at3 _ _ _ _ _ | exact DL.at4 _ _ _ _ _ _) | ((with_reducible apply Go.frz_go); exact rfl) | ((with_reducible apply Go.frz_sh); exact rfl) | with_reducible refine Go.mn_go ?_ | with_reducible refine Go.andV_go ?_ | ((first | with_reducible apply Go.sqT_go | with_reducible apply Go.sqL_go); exact rfl) | with_reducible refine Go.gsC_go ?_ | with_reducible refine Go.gsN_go ?_ | with_reducible refine Go.ifT (by decide +kernel) ?_ | with_reducible refine Go.ifF (by decide +kernel) ?_ | with_reducible refine Go.cat_go ?_ | with_reducible refine Go.callO_go ?_ | ((with_reducible apply Go.retO_go); exact rfl) | with_reducible refine Go.retN_go ?_ | with_reducible refine Go.ifN_go ?_ | with_reducible refine Go.yes_go ?_ | with_reducible refine Go.isI_go ?_ | with_reducible refine Go.isB_go ?_ | with_reducible refine Go.isN_go ?_ | with_reducible refine Go.notN_go ?_ | with_reducible refine Go.lrev_go ?_ | with_reducible refine Go.bk_go ?_ | with_reducible refine Go.ct_go ?_ | with_reducible refine Go.rng2_go ?_ | with_reducible refine Go.orV_go ?_ | with_reducible refine Go.notV_go ?_ | ((with_reducible apply Go.extT_go); exact rfl) | with_reducible refine Go.isI2_go ?_ | with_reducible refine Go.dict2_go ?_ | with_reducible refine Go.callE_go ?_ | with_reducible refine Go.callEK_go ?_ | ((with_reducible apply Go.callX_go); exact rfl) | with_reducible refine Go.raise0_go ?_ | with_reducible refine Go.raise1_go ?_ | ((with_reducible apply Go.is1_go); exact rfl) | ((with_reducible apply Go.isT_go); exact rfl) | ((with_reducible apply Go.fld_go); exact rfl) | ((with_reducible apply Go.setIx_go); exact rfl) | unfold fForS | unfold fLc | dsimp only [seqOf, List.set_cons_zero, List.set_cons_succ, setAll, wipeE])))
theorem perm1 {α : Type} (x : α) : perm [0] [x] = [x] := rfl
theorem perm2 {α : Type} (x y : α) : perm [1, 0] [x, y] = [y, x] := rfl
theorem r__law_told : ∀ ss (Q : D → Prop), S__law_told ss Q → g__law_told (endsOf Q) (initE N__law_told ss) := by
  rintro ss Q ⟨q, b, rfl, h, hq⟩
  simp only [N__law_told, initE, List.length_cons, List.length_nil, Nat.reduceAdd, Nat.reduceSub, List.replicate, List.cons_append, List.nil_append, List.append_nil]
  unfold g__law_told
  refine Go.try_go rfl ?_
  cases q with
  | of s =>
    have h : okOf s := h
    have hq : Q (told (ofS s).D) := hq
    dsimp only [Ask.word, Ask.row]
    get_elem_tactic_extensible
    cases b
    · get_elem_tactic_extensible
      exact ⟨s, rfl, h, hq⟩
    · get_elem_tactic_extensible
      exact ⟨s, rfl, h, hq⟩
  | sum s t =>
    obtain ⟨h, k, _⟩ : ok2 s t := h
    have hq : Q (told (sumS s t).D) := hq
    dsimp only [Ask.word, Ask.row]
    get_elem_tactic_extensible
    cases b
    · get_elem_tactic_extensible
      exact go_surd_sum s t h k hq
    · get_elem_tactic_extensible
      exact go_surd_sum s t h k hq
  | times s t =>
    obtain ⟨h, k, _⟩ : ok2 s t := h
    have hq : Q (told (mulS s t).D) := hq
    dsimp only [Ask.word, Ask.row]
    get_elem_tactic_extensible
    cases b
    · get_elem_tactic_extensible
      exact go_surd_times s t h k hq
    · get_elem_tactic_extensible
      exact go_surd_times s t h k hq
  | turned s =>
    have hq : Q (told (negS s).D) := hq
    dsimp only [Ask.word, Ask.row]
    get_elem_tactic_extensible
    cases b
    · get_elem_tactic_extensible
      exact go_surd_turned s hq
    · get_elem_tactic_extensible
      exact go_surd_turned s hq
  | other s =>
    have hq : Q (told (othS s).D) := hq
    dsimp only [Ask.word, Ask.row]
    get_elem_tactic_extensible
    cases b
    · get_elem_tactic_extensible
      exact ⟨s, rfl, trivial, hq⟩
    · get_elem_tactic_extensible
      exact ⟨s, rfl, trivial, hq⟩
  | error d =>
    have hq : Q (told (errS d)) := hq
    dsimp only [Ask.word, Ask.row]
    get_elem_tactic_extensible
    cases b
    · get_elem_tactic_extensible
      exact ⟨d, rfl, trivial, hq⟩
    · get_elem_tactic_extensible
      exact ⟨d, rfl, trivial, hq⟩
  | back s =>
    have h : okBack s := h
    have hq : Q (if s.a = 0 ∧ s.b = 0 then refD "Unfit" else told (backS s).D) := hq
    dsimp only [Ask.word, Ask.row]
    get_elem_tactic_extensible
    cases b
    · get_elem_tactic_extensible
      refine ⟨s, rfl, h, fun z => ?_, fun z => ?_⟩
      · rw [if_pos z] at hq
        refine Go.hand_yes (by decide +kernel) rfl ?_
        get_elem_tactic_extensible
        exact ⟨rfl, hq⟩
      · rw [if_neg z] at hq
        exact hq
    · get_elem_tactic_extensible
      refine ⟨s, rfl, h, fun z => ?_, fun z => ?_⟩
      · rw [if_pos z] at hq
        refine Go.hand_yes (by decide +kernel) rfl ?_
        get_elem_tactic_extensible
        exact ⟨rfl, hq⟩
      · rw [if_neg z] at hq
        exact hq
end T
end DL
namespace DL
namespace T
open PySem L2 PySem.Spec PyProof.Rows
local macro_rules
  | `(tactic| get_elem_tactic_extensible) => `(tactic| (repeat (first | with_reducible refine Go.lc_go ?_ | with_reducible refine Go.ln_go ?_ | ((with_reducible apply Go.v_sh); exact rfl) | ((with_reducible apply Go.n_sh); exact rfl) | ((with_reducible apply Go.n_ow); exact rfl) | ((with_reducible apply Go.ab_go); exact rfl) | ((with_reducible apply Go.app_go); exact rfl) | ((with_reducible apply Go.ext_go); exact rfl) | with_reducible refine Go.c_go ?_ | with_reducible refine Go.tup_go ?_ | with_reducible refine Go.nv_go ?_ | with_reducible refine Go.bin_go ?_ | with_reducible refine Go.slT_go ?_ | with_reducible refine Go.slL_go ?_ | with_reducible refine Go.on_go ?_ | with_reducible refine Go.os_go ?_ | with_reducible refine Go.neg_go ?_ | with_reducible refine Go.sub_go ?_ | with_reducible refine Go.addI_go ?_ | with_reducible refine Go.seqT_go ?_ | with_reducible refine Go.call_go ?_ | with_reducible refine Go.callK_go ?_ | with_reducible refine Go.cb_go ?_ | with_reducible refine Go.dict1_go ?_ | with_reducible refine Go.if_go ?_ | with_reducible refine Go.an_go ?_ | with_reducible refine Go.ac_go ?_ | with_reducible refine Go.mv_go ?_ | with_reducible refine Go.par_go ?_ | with_reducible refine Go.sq_go ?_ | with_reducible refine Go.set_go ?_ | with_reducible refine Go.setN_go ?_ | with_reducible refine Go.ret_go ?_ | with_reducible refine Go.asg_go ?_ | with_reducible refine Go.ifs_go ?_ | with_reducible refine Go.next_go ?_ | with_reducible refine Go.nm_go ?_ | with_reducible refine Go.cmp_go ?_ | with_reducible refine Go.tv_go ?_ | with_reducible refine Go.not_go ?_ | with_reducible refine Go.and_go ?_ | with_reducible refine Go.or_go ?_ | with_reducible refine Go.lenT_go ?_ | with_reducible refine Go.lenL_go ?_ | with_reducible refine Go.absI_go ?_ | with_reducible refine Go.intI_go ?_ | with_reducible refine Go.max2_go ?_ | with_reducible refine Go.min2_go ?_ | with_reducible refine Go.tupL_go ?_ | with_reducible refine Go.tupT_go ?_ | with_reducible refine Go.gv_go ?_ | with_reducible refine Go.ltI_go ?_ | with_reducible refine Go.leI_go ?_ | with_reducible refine Go.gtI_go ?_ | with_reducible refine Go.geI_go ?_ | with_reducible refine Go.eqI_go ?_ | with_reducible refine Go.neI_go ?_ | with_reducible refine Go.eqS_go ?_ | with_reducible refine Go.rng1_go ?_ | ((first | with_reducible apply Go.ixL_go | with_reducible apply Go.ixT_go); first | exact DL.at0 _ _ | exact DL.at1 _ _ _ | exact DL.at2 _ _ _ _ | exact DL.at3 _ _ _ _ _ | exact DL.at4 _ _ _ _ _ _) | ((with_reducible apply Go.frz_go); exact rfl) | ((with_reducible apply Go.frz_sh); exact rfl) | with_reducible refine Go.mn_go ?_ | with_reducible refine Go.andV_go ?_ | ((first | with_reducible apply Go.sqT_go | with_reducible apply Go.sqL_go); exact rfl) | with_reducible refine Go.gsC_go ?_ | with_reducible refine Go.gsN_go ?_ | with_reducible refine Go.ifT (by decide +kernel) ?_ | with_reducible refine Go.ifF (by decide +kernel) ?_ | with_reducible refine Go.cat_go ?_ | with_reducible refine Go.callO_go ?_ | ((with_reducible apply Go.retO_go); exact rfl) | with_reducible refine Go.retN_go ?_ | with_reducible refine Go.ifN_go ?_ | with_reducible refine Go.yes_go ?_ | with_reducible refine Go.isI_go ?_ | with_reducible refine Go.isB_go ?_ | with_reducible refine Go.isN_go ?_ | with_reducible refine Go.notN_go ?_ | with_reducible refine Go.lrev_go ?_ | with_reducible refine Go.bk_go ?_ | with_reducible refine Go.ct_go ?_ | with_reducible refine Go.rng2_go ?_ | with_reducible refine Go.orV_go ?_ | with_reducible refine Go.notV_go ?_ | ((with_reducible apply Go.extT_go); exact rfl) | with_reducible refine Go.isI2_go ?_ | with_reducible refine Go.dict2_go ?_ | with_reducible refine Go.callE_go ?_ | with_reducible refine Go.callEK_go ?_ | ((with_reducible apply Go.callX_go); exact rfl) | with_reducible refine Go.raise0_go ?_ | with_reducible refine Go.raise1_go ?_ | ((with_reducible apply Go.is1_go); exact rfl) | ((with_reducible apply Go.isT_go); exact rfl) | ((with_reducible apply Go.fld_go); exact rfl) | ((with_reducible apply Go.setIx_go); exact rfl) | unfold fForS | unfold fLc | dsimp only [seqOf, List.set_cons_zero, List.set_cons_succ, setAll, wipeE])))
def Row4 (k : Nat) (ds : List D) : Prop := ds.length = 4 ∧ ∀ d ∈ ds, It k d
theorem It.le {k l : Nat} {d : D} (h : It k d) (a : k ≤ l) : It l d := by
  rcases h with ⟨i, e, s⟩ | h
  · exact .inl ⟨i, e, s.le a⟩
  · exact .inr h
theorem it_int {k : Nat} {i : Int} (h : Sm k i) : It k (.int i) := .inl ⟨i, rfl, h⟩
theorem row4_of {k : Nat} {x y z w : D} (h1 : It k x) (h2 : It k y) (h3 : It k z) (h4 : It k w) : Row4 k [x, y, z, w] := ⟨rfl, fun d hd => by
  simp only [List.mem_cons, List.not_mem_nil, or_false] at hd
  rcases hd with rfl | rfl | rfl | rfl <;> assumption⟩
theorem row4_set {k : Nat} {ds : List D} {d : D} (h : Row4 k ds) (hd : It k d) (m : Nat) : Row4 k (ds.set m d) := ⟨by rw [List.length_set]; exact h.1, fun e he => by
  rcases List.mem_or_eq_of_mem_set he with z | z
  · exact h.2 e z
  · rw [z]; exact hd⟩
theorem ix4 {a b c d : D} {j : Int} (m : Nat) (hj : j = (m : Int)) (hm : m < 4) {K : Nat → Prop} (k : K m) : match ixN ([a, b, c, d] : List D).length j with | some m => K m | none => False := by
  subst hj
  have e : ixN ([a, b, c, d] : List D).length ((m : Nat) : Int) = some m := by
    match m, hm with
    | 0, _ => rfl
    | 1, _ => rfl
    | 2, _ => rfl
    | 3, _ => rfl
  rw [e]
  exact k
theorem pow30 : (10 : Int) ^ (30 : Int).toNat = 1000000000000000000000000000000 := by decide
theorem pow30_go {J : D → Prop} (h : J (.int 1000000000000000000000000000000)) : gPow (.int 10) (.int 30) J := ⟨⟨by decide, by decide, by decide⟩, by rw [pow30]; exact h⟩
theorem sm110 {i : Int} (h0 : -1000000000000000000000000000000 ≤ i) (h1 : i ≤ 1000000000000000000000000000000) : Sm 110 i := by
  unfold Sm
  omega
theorem r__law_bent : ∀ ss (Q : D → Prop), S__law_bent ss Q → g__law_bent (endsOf Q) (initE N__law_bent ss) := by
  rintro ss Q ⟨⟨s, k⟩, rfl, ⟨k1, k2, ha, hb, hc, hd⟩, hq⟩
  have k1 : 110 ≤ k := k1
  have k2 : k ≤ 200 := k2
  have ha : Sm k s.a := ha
  have hb : Sm k s.b := hb
  have hc : Sm k s.c := hc
  have hd : Sm k s.d := hd
  have hq : ∀ ds : List D, Row4 (k + 10) ds → Q (.list ds) := hq
  have up : ∀ {i : Int}, Sm k i → It (k + 10) (.int i) := fun h => it_int (h.le (by omega))
  have sml : ∀ {i : Int}, -1000000000000000000000000000000 ≤ i → i ≤ 1000000000000000000000000000000 → It (k + 10) (.int i) := fun h0 h1 => it_int ((sm110 h0 h1).le (by omega))
  have r0 : Row4 (k + 10) [.int s.a, .int s.b, .int s.c, .int s.d] := row4_of (up ha) (up hb) (up hc) (up hd)
  simp only [N__law_bent, D4, initE, List.length_cons, List.length_nil, Nat.reduceAdd, Nat.reduceSub, List.replicate, List.cons_append, List.nil_append, List.append_nil]
  unfold g__law_bent
  get_elem_tactic_extensible
  refine go_draw (by decide) (by decide) fun w w0 w1 => ?_
  get_elem_tactic_extensible
  refine go_draw (by decide) (by decide) fun x x0 x1 => ?_
  get_elem_tactic_extensible
  refine ⟨rfl, ?_⟩
  unfold q__law_bent_1
  get_elem_tactic_extensible
  refine Go.ifd (fun _ => ?_) (fun _ => ?_)
  · get_elem_tactic_extensible
    refine go_draw (by decide) (by decide) fun m m0 m1 => ?_
    get_elem_tactic_extensible
    unfold q__law_bent_0
    have sm : Sm 4 (2 + m) := Sm.nat (by omega) (by omega)
    get_elem_tactic_extensible
    refine Go.mulI_go (mw ha sm) ?_
    get_elem_tactic_extensible
    refine Go.mulI_go (mw hb sm) ?_
    get_elem_tactic_extensible
    refine Go.mulI_go (mw hc sm) ?_
    get_elem_tactic_extensible
    exact hq _ (row4_of (it_int ((ha.mul sm).le (by omega))) (it_int ((hb.mul sm).le (by omega))) (it_int ((hc.mul sm).le (by omega))) (up hd))
  get_elem_tactic_extensible
  refine Go.ifd (fun _ => ?_) (fun _ => ?_)
  · get_elem_tactic_extensible
    refine pow6_go ?_
    get_elem_tactic_extensible
    refine go_pick (by simp) (by simp) fun d hd2 => ?_
    have it : It (k + 10) d := by
      simp only [List.mem_cons, List.not_mem_nil, or_false] at hd2
      rcases hd2 with rfl | rfl | rfl | rfl
      · exact sml (by decide) (by decide)
      · exact sml (by decide) (by decide)
      · exact up hc.neg
      · exact it_int ((hc.sub ((sm110 (i := 1000000) (by decide) (by decide)).le (l := k) (by omega))).le (by omega))
    get_elem_tactic_extensible
    rw [show ixN ([.int s.a, .int s.b, .int s.c, .int s.d] : List D).length 2 = some 2 from rfl]
    get_elem_tactic_extensible
    exact hq _ (row4_set r0 it 2)
  have at3 : ∀ {J : Nat → Prop}, (∀ m, m < 3 → J m) → match ixN ([.int s.a, .int s.b, .int s.c, .int s.d] : List D).length x with | some m => J m | none => False := fun {J} h => ix4 x.toNat (by omega) (by omega) (h _ (by omega))
  get_elem_tactic_extensible
  refine Go.ifd (fun _ => ?_) (fun _ => ?_)
  · get_elem_tactic_extensible
    refine pow12_go ?_
    get_elem_tactic_extensible
    refine pow12_go ?_
    get_elem_tactic_extensible
    refine pow12_go ?_
    get_elem_tactic_extensible
    refine pow12_go ?_
    get_elem_tactic_extensible
    refine pow30_go ?_
    get_elem_tactic_extensible
    refine go_pick (by simp) (by simp) fun d hd2 => ?_
    have it : It (k + 10) d := by
      simp only [List.mem_cons, List.not_mem_nil, or_false] at hd2
      rcases hd2 with rfl | rfl | rfl | rfl | rfl <;> exact sml (by decide) (by decide)
    get_elem_tactic_extensible
    refine at3 fun m hm => ?_
    get_elem_tactic_extensible
    exact hq _ (row4_set r0 it m)
  get_elem_tactic_extensible
  refine Go.ifd (fun _ => ?_) (fun _ => ?_)
  · get_elem_tactic_extensible
    refine pow6_go ?_
    get_elem_tactic_extensible
    refine pow6_go ?_
    get_elem_tactic_extensible
    refine pow6_go ?_
    get_elem_tactic_extensible
    refine pow30_go ?_
    get_elem_tactic_extensible
    refine go_pick (by simp) (by simp) fun d hd2 => ?_
    have it : It (k + 10) d := by
      simp only [List.mem_cons, List.not_mem_nil, or_false] at hd2
      rcases hd2 with rfl | rfl | rfl | rfl | rfl | rfl <;> exact sml (by decide) (by decide)
    get_elem_tactic_extensible
    rw [show ixN ([.int s.a, .int s.b, .int s.c, .int s.d] : List D).length 3 = some 3 from rfl]
    get_elem_tactic_extensible
    exact hq _ (row4_set r0 it 3)
  get_elem_tactic_extensible
  refine Go.ifd (fun _ => ?_) (fun _ => ?_)
  · get_elem_tactic_extensible
    refine go_any_root fun n n0 n1 => ?_
    get_elem_tactic_extensible
    rw [show ixN ([.int s.a, .int s.b, .int s.c, .int s.d] : List D).length 3 = some 3 from rfl]
    get_elem_tactic_extensible
    exact hq _ (row4_set r0 (sml (by omega) (by omega)) 3)
  get_elem_tactic_extensible
  refine Go.ifd (fun _ => ?_) (fun _ => ?_)
  · get_elem_tactic_extensible
    refine go_pick (by simp) (by simp) fun d hd2 => ?_
    have it : It (k + 10) d := by
      simp only [List.mem_cons, List.not_mem_nil, or_false] at hd2
      rcases hd2 with rfl | rfl | rfl | rfl | rfl <;> exact sml (by decide) (by decide)
    get_elem_tactic_extensible
    refine go_pick (by simp) (by simp) fun e he => ?_
    simp only [List.mem_cons, List.not_mem_nil, or_false] at he
    rcases he with rfl | rfl
    · get_elem_tactic_extensible
      rw [show ixN ([.int s.a, .int s.b, .int s.c, .int s.d] : List D).length 1 = some 1 from rfl]
      get_elem_tactic_extensible
      exact hq _ (row4_set r0 it 1)
    · get_elem_tactic_extensible
      rw [show ixN ([.int s.a, .int s.b, .int s.c, .int s.d] : List D).length 3 = some 3 from rfl]
      get_elem_tactic_extensible
      exact hq _ (row4_set r0 it 3)
  get_elem_tactic_extensible
  refine Go.ifd (fun _ => ?_) (fun _ => ?_)
  · get_elem_tactic_extensible
    refine go_pick (by simp) (by simp) fun d hd2 => ?_
    have it : It (k + 10) d := by
      simp only [List.mem_cons, List.not_mem_nil, or_false] at hd2
      refine .inr ?_
      rcases hd2 with rfl | rfl | rfl | rfl | rfl | rfl | rfl | rfl <;> exact ⟨by decide +kernel, by decide +kernel, by decide +kernel, by decide +kernel⟩
    get_elem_tactic_extensible
    refine go_draw (by decide) (by decide) fun y y0 y1 => ?_
    get_elem_tactic_extensible
    refine ix4 y.toNat (by omega) (by omega) ?_
    get_elem_tactic_extensible
    exact hq _ (row4_set r0 it _)
  get_elem_tactic_extensible
  refine Go.ifd (fun _ => ?_) (fun _ => ?_)
  · have at3v : ∃ i : Int, atI ([.int s.a, .int s.b, .int s.c, .int s.d] : List D) x = some (.int i) ∧ Sm k i := by
      have : x = 0 ∨ x = 1 ∨ x = 2 := by omega
      rcases this with rfl | rfl | rfl
      · exact ⟨_, rfl, ha⟩
      · exact ⟨_, rfl, hb⟩
      · exact ⟨_, rfl, hc⟩
    obtain ⟨i, ei, si⟩ := at3v
    get_elem_tactic_extensible
    refine Go.ixL_go ei ?_
    get_elem_tactic_extensible
    refine at3 fun m hm => ?_
    get_elem_tactic_extensible
    exact hq _ (row4_set r0 (up si.neg) m)
  · get_elem_tactic_extensible
    refine go_draw (by decide) (by decide) fun y y0 y1 => ?_
    get_elem_tactic_extensible
    refine go_draw (by decide) (by decide) fun z z0 z1 => ?_
    get_elem_tactic_extensible
    refine go_draw (by decide) (by decide) fun u u0 u1 => ?_
    get_elem_tactic_extensible
    refine go_draw (by decide) (by decide) fun v v0 v1 => ?_
    get_elem_tactic_extensible
    exact hq _ (row4_of (sml (by omega) (by omega)) (sml (by omega) (by omega)) (sml (by omega) (by omega)) (sml (by omega) (by omega)))
theorem go_bent (s : S4) (k : Nat) {Q : D → Prop} (k1 : 110 ≤ k) (k2 : k ≤ 200) (ha : Sm k s.a) (hb : Sm k s.b) (hc : Sm k s.c) (hd : Sm k s.d) (hq : ∀ ds : List D, Row4 (k + 10) ds → Q (.list ds)) : S__law_bent [.bg, .sh s.D] Q := ⟨(s, k), rfl, ⟨k1, k2, ha, hb, hc, hd⟩, hq⟩
end T
end DL
namespace DL
namespace T
open PySem L2 PySem.Spec PyProof.Rows
local macro_rules
  | `(tactic| get_elem_tactic_extensible) => `(tactic| (repeat (first | with_reducible refine Go.lc_go ?_ | with_reducible refine Go.ln_go ?_ | ((with_reducible apply Go.v_sh); exact rfl) | ((with_reducible apply Go.n_sh); exact rfl) | ((with_reducible apply Go.n_ow); exact rfl) | ((with_reducible apply Go.ab_go); exact rfl) | ((with_reducible apply Go.app_go); exact rfl) | ((with_reducible apply Go.ext_go); exact rfl) | with_reducible refine Go.c_go ?_ | with_reducible refine Go.tup_go ?_ | with_reducible refine Go.nv_go ?_ | with_reducible refine Go.bin_go ?_ | with_reducible refine Go.slT_go ?_ | with_reducible refine Go.slL_go ?_ | with_reducible refine Go.on_go ?_ | with_reducible refine Go.os_go ?_ | with_reducible refine Go.neg_go ?_ | with_reducible refine Go.sub_go ?_ | with_reducible refine Go.addI_go ?_ | with_reducible refine Go.seqT_go ?_ | with_reducible refine Go.call_go ?_ | with_reducible refine Go.callK_go ?_ | with_reducible refine Go.cb_go ?_ | with_reducible refine Go.dict1_go ?_ | with_reducible refine Go.if_go ?_ | with_reducible refine Go.an_go ?_ | with_reducible refine Go.ac_go ?_ | with_reducible refine Go.mv_go ?_ | with_reducible refine Go.par_go ?_ | with_reducible refine Go.sq_go ?_ | with_reducible refine Go.set_go ?_ | with_reducible refine Go.setN_go ?_ | with_reducible refine Go.ret_go ?_ | with_reducible refine Go.asg_go ?_ | with_reducible refine Go.ifs_go ?_ | with_reducible refine Go.next_go ?_ | with_reducible refine Go.nm_go ?_ | with_reducible refine Go.cmp_go ?_ | with_reducible refine Go.tv_go ?_ | with_reducible refine Go.not_go ?_ | with_reducible refine Go.and_go ?_ | with_reducible refine Go.or_go ?_ | with_reducible refine Go.lenT_go ?_ | with_reducible refine Go.lenL_go ?_ | with_reducible refine Go.absI_go ?_ | with_reducible refine Go.intI_go ?_ | with_reducible refine Go.max2_go ?_ | with_reducible refine Go.min2_go ?_ | with_reducible refine Go.tupL_go ?_ | with_reducible refine Go.tupT_go ?_ | with_reducible refine Go.gv_go ?_ | with_reducible refine Go.ltI_go ?_ | with_reducible refine Go.leI_go ?_ | with_reducible refine Go.gtI_go ?_ | with_reducible refine Go.geI_go ?_ | with_reducible refine Go.eqI_go ?_ | with_reducible refine Go.neI_go ?_ | with_reducible refine Go.eqS_go ?_ | with_reducible refine Go.rng1_go ?_ | ((first | with_reducible apply Go.ixL_go | with_reducible apply Go.ixT_go); first | exact DL.at0 _ _ | exact DL.at1 _ _ _ | exact DL.at2 _ _ _ _ | exact DL.at3 _ _ _ _ _ | exact DL.at4 _ _ _ _ _ _) | ((with_reducible apply Go.frz_go); exact rfl) | ((with_reducible apply Go.frz_sh); exact rfl) | with_reducible refine Go.mn_go ?_ | with_reducible refine Go.andV_go ?_ | ((first | with_reducible apply Go.sqT_go | with_reducible apply Go.sqL_go); exact rfl) | with_reducible refine Go.gsC_go ?_ | with_reducible refine Go.gsN_go ?_ | with_reducible refine Go.ifT (by decide +kernel) ?_ | with_reducible refine Go.ifF (by decide +kernel) ?_ | with_reducible refine Go.cat_go ?_ | with_reducible refine Go.callO_go ?_ | ((with_reducible apply Go.retO_go); exact rfl) | with_reducible refine Go.retN_go ?_ | with_reducible refine Go.ifN_go ?_ | with_reducible refine Go.yes_go ?_ | with_reducible refine Go.isI_go ?_ | with_reducible refine Go.isB_go ?_ | with_reducible refine Go.isN_go ?_ | with_reducible refine Go.notN_go ?_ | with_reducible refine Go.lrev_go ?_ | with_reducible refine Go.bk_go ?_ | with_reducible refine Go.ct_go ?_ | with_reducible refine Go.rng2_go ?_ | with_reducible refine Go.orV_go ?_ | with_reducible refine Go.notV_go ?_ | ((with_reducible apply Go.extT_go); exact rfl) | with_reducible refine Go.isI2_go ?_ | with_reducible refine Go.dict2_go ?_ | with_reducible refine Go.callE_go ?_ | with_reducible refine Go.callEK_go ?_ | ((with_reducible apply Go.callX_go); exact rfl) | with_reducible refine Go.raise0_go ?_ | with_reducible refine Go.raise1_go ?_ | ((with_reducible apply Go.is1_go); exact rfl) | ((with_reducible apply Go.isT_go); exact rfl) | ((with_reducible apply Go.fld_go); exact rfl) | ((with_reducible apply Go.setIx_go); exact rfl) | unfold fForS | unfold fLc | dsimp only [seqOf, List.set_cons_zero, List.set_cons_succ, setAll, wipeE])))
/-! signs of texts -/
def Sg (x : Str) : Prop := ∀ c ∈ x.cps.toList, c < 16 ^ 8
theorem sg_app {x y : Str} (h : Sg x) (k : Sg y) : Sg (x ++ y) := fun c hc => by
  have hc : c ∈ (x.cps ++ y.cps).toList := hc
  rw [Array.toList_append] at hc
  rcases List.mem_append.mp hc with z | z
  · exact h c z
  · exact k c z
theorem sg_of (s : String) : Sg (Str.ofString s) := fun c hc => by
  rw [Str.ofString_eq_toList] at hc
  simp only [List.mem_map] at hc
  obtain ⟨ch, _, rfl⟩ := hc
  have : ch.toNat < 1114112 := by
    have := ch.valid
    unfold Char.toNat
    unfold UInt32.isValidChar Nat.isValidChar at this
    have e : ch.val.toNat = ch.val.toNat := rfl
    omega
  omega
theorem sg_join {sep : Str} (hs : Sg sep) : ∀ {ts : List Str}, (∀ t ∈ ts, Sg t) → Sg (Str.join sep ts)
  | [], _ => fun c hc => by
    have : c ∈ ([] : List Nat) := hc
    cases this
  | [x], h => h x List.mem_cons_self
  | x :: y :: r, h => sg_app (sg_app (h x List.mem_cons_self) hs) (sg_join hs fun t ht => h t (List.mem_cons_of_mem _ ht))
theorem sg_tup {ts : List Str} (h : ∀ t ∈ ts, Sg t) : Sg (tupleText ts) := by
  unfold tupleText
  refine sg_app (sg_app (sg_of _) (sg_join (sg_of _) h)) ?_
  split <;> exact sg_of _
theorem sg_int (i : Int) : Sg (PyData.shown (.int i)) := by
  simp only [PyData.shown]
  exact sg_of _
theorem sg_s4 (s : S4) : Sg (PyData.shown s.D) := by
  rw [D4]
  simp only [PyData.shown]
  refine sg_tup fun t ht => ?_
  simp only [PyData.shownAll, List.mem_cons, List.not_mem_nil, or_false] at ht
  rcases ht with rfl | rfl | rfl | rfl <;> exact sg_int _
theorem sw_str {x : Str} {w : Nat} (h : Sg x) (l : x.length ≤ w) : Sw 0 (10 * w + 2) (.str x) := by
  refine ⟨rfl, by simp [PyData.depth], ?_⟩
  have := StrLaws.reprText_len x h
  simp only [PyData.shown]
  omega
theorem sw_dict1 {n w : Nat} {x : Str} {v : D} (h : Sw n w v) (hx : (PyData.shown (.str x)).length ≤ 10) : Sw (n + 1) (w + 20) (.dict [(.str x, v)]) := by
  refine ⟨by simp [showW, showWKv, h.sh], ?_, ?_⟩
  · have := h.dp
    simp only [PyData.depth, PyData.depthKv]
    omega
  · have := h.wt
    have e := dictText_len_le (PyData.shownKv [(.str x, v)])
    simp only [PyData.shownKv, List.map_cons, List.map_nil, List.sum_cons, List.sum_nil, List.length_cons, List.length_nil, strLen_append] at e
    have e2 : ((": " : String) : Str).length = 2 := by decide +kernel
    rw [e2] at e
    simp only [PyData.shown, PyData.shownKv] at this e hx ⊢
    omega
theorem vd_tup {es : List D} (h : ∀ e ∈ es, Sw 6 1000 e) (l : es.length ≤ 6) : Vd (.tuple es) :=
  (Sw.tup (SwA.all h)).le (by omega) (by omega)
theorem vd_list {es : List D} (h : ∀ e ∈ es, Sw 6 1000 e) (l : es.length ≤ 6) : Vd (.list es) :=
  (Sw.list (SwA.all h)).le (by omega) (by omega)
theorem si {i : Int} (h : Sm 250 i) : Sw 6 1000 (.int i) := (Sw.int h).le (by omega) (by omega)
theorem s4n {s : S4} (h : Bd 60 s) : Ni 1 2411 s.D := by
  have lt : ∀ {i : Int}, Sm 60 i → Ni 0 600 (.int i) := fun h => Ni.int (Nat.lt_of_lt_of_le h (Nat.pow_le_pow_right (by decide) (by decide)))
  rw [D4]
  exact (Ni.tup (NiA.cons (lt h.a) (NiA.cons (lt h.b) (NiA.cons (lt h.c) (NiA.cons (lt (h.d.le (by decide))) (NiA.nil (w := 0)))))))
theorem all_mem4 {P : D → Prop} {x y z w : D} (h1 : P x) (h2 : P y) (h3 : P z) (h4 : P w) : ∀ d ∈ [x, y, z, w], P d := fun d hd => by
  simp only [List.mem_cons, List.not_mem_nil, or_false] at hd
  rcases hd with rfl | rfl | rfl | rfl <;> assumption
theorem s4_6 {s : S4} (h : Bd 60 s) : Sw 6 1000 s.D := (Sw.s4 h (by decide) (by decide)).le (by omega) (by omega)
theorem some_v {s : S4} (h : Bd 60 s) : ∀ d ∈ ([.list [.int s.a, .int s.b, .int s.c, .int s.d], .tuple [.int s.a, .int s.b, .int s.c], .tuple [.int s.a, .int s.b, .int s.c, .int s.d, .int 0], .tuple [s.D], .none, .bool true, .int 0, .str "", .tuple [], .dict [], .str (PyData.shown s.D),
    .tuple [.int s.a, .int s.b, .int s.c, .list [.int s.a, .int s.b, .int s.c, .int s.d]], .list [s.D], .dict [(.str "a", s.D)], .tuple [s.D, s.D, s.D, s.D]] : List D), Vd d := by
  have a := si (h.a.le (l := 250) (by decide))
  have b := si (h.b.le (l := 250) (by decide))
  have c := si (h.c.le (l := 250) (by decide))
  have e := si (h.d.le (l := 250) (by decide))
  have z : Sw 6 1000 (.int 0) := si sm0
  have d := s4_6 h
  have l4 : Sw 6 1000 (.list [.int s.a, .int s.b, .int s.c, .int s.d]) := by
    have f : ∀ {i : Int}, Sm 60 i → Sw 0 61 (.int i) := fun h => Sw.int h
    exact (Sw.list (SwA.cons (f h.a) (SwA.cons (f h.b) (SwA.cons (f h.c) (SwA.cons (f (h.d.le (by decide))) (SwA.nil (w := 0))))))).le (by omega) (by omega)
  intro x hx
  simp only [List.mem_cons, List.not_mem_nil, or_false] at hx
  rcases hx with rfl | rfl | rfl | rfl | rfl | rfl | rfl | rfl | rfl | rfl | rfl | rfl | rfl | rfl | rfl
  · exact vd_list (all_mem4 a b c e) (by simp)
  · exact vd_tup (fun y hy => by
      simp only [List.mem_cons, List.not_mem_nil, or_false] at hy
      rcases hy with rfl | rfl | rfl <;> assumption) (by simp)
  · exact vd_tup (fun y hy => by
      simp only [List.mem_cons, List.not_mem_nil, or_false] at hy
      rcases hy with rfl | rfl | rfl | rfl | rfl <;> assumption) (by simp)
  · exact vd_tup (fun y hy => by rw [List.mem_singleton.mp hy]; exact d) (by simp)
  · exact ⟨by decide +kernel, by decide +kernel, by decide +kernel⟩
  · exact ⟨by decide +kernel, by decide +kernel, by decide +kernel⟩
  · exact z.le (by omega) (by omega)
  · exact ⟨by decide +kernel, by decide +kernel, by decide +kernel⟩
  · exact ⟨by decide +kernel, by decide +kernel, by decide +kernel⟩
  · exact ⟨by decide +kernel, by decide +kernel, by decide +kernel⟩
  · exact (sw_str (w := 1000) (sg_s4 s) d.wt).le (by omega) (by omega)
  · exact vd_tup (all_mem4 a b c l4) (by simp)
  · exact vd_list (fun y hy => by rw [List.mem_singleton.mp hy]; exact d) (by simp)
  · exact (sw_dict1 (x := "a") d (by decide +kernel)).le (by omega) (by omega)
  · exact vd_tup (all_mem4 d d d d) (by simp)
theorem it_sw {k : Nat} {d : D} (h : It k d) (h1 : 1 ≤ k) (h2 : k ≤ 250) : Sw 6 1000 d := by
  rcases h with ⟨i, rfl, s⟩ | ⟨_, h⟩
  · exact si (s.le h2)
  · exact h.le (by omega) (by omega)
theorem row4_vd {k : Nat} {ds : List D} (h : Row4 k ds) (h1 : 1 ≤ k) (h2 : k ≤ 250) : Vd (.tuple ds) := vd_tup (fun e he => it_sw (h.2 e he) h1 h2) (by rw [h.1]; decide)
theorem bStr_s4 {s : S4} (h : Bd 60 s) {J : D → Prop} (q : J (.str (PyData.shown s.D))) : bStr [.tuple [.int s.a, .int s.b, .int s.c, .int s.d]] J := by
  have n := s4n h
  exact ⟨n.sh, n.nd, by rw [sizeLine_eq]; exact Nat.le_trans n.wt (by decide), Nat.le_trans n.dp (by decide), q⟩
theorem r__law_value : ∀ ss (Q : D → Prop), S__law_value ss Q → g__law_value (endsOf Q) (initE N__law_value ss) := by
  rintro ss Q ⟨⟨n, l⟩, rfl, ⟨hn, hne, hlen, hl⟩, hq⟩
  have hlen : l.length ≤ 10 := hlen
  have hq' : ∀ d : D, Vd d → Q d := fun d h => hq d h
  simp only [N__law_value, arL, initE, List.length_cons, List.length_nil, Nat.reduceAdd, Nat.reduceSub, List.replicate, List.cons_append, List.nil_append, List.append_nil]
  unfold g__law_value
  get_elem_tactic_extensible
  refine go_draw (by decide) (by decide) fun w w0 w1 => ?_
  get_elem_tactic_extensible
  refine go_pick (fun z => hne (List.map_eq_nil_iff.mp z)) (by rw [List.length_map]; omega) fun d hd => ?_
  obtain ⟨s, hs, rfl⟩ := List.mem_map.mp hd
  obtain ⟨hb, _⟩ := hl s hs
  have hb : Bd 60 s := hb.le (by decide)
  simp only [D4]
  get_elem_tactic_extensible
  refine ⟨rfl, ?_⟩
  unfold q__law_value_4
  get_elem_tactic_extensible
  refine Go.ifd (fun _ => ?_) (fun _ => ?_)
  · get_elem_tactic_extensible
    exact hq' _ ((Sw.s4 hb (by decide) (by decide)).le (by omega) (by omega))
  unfold q__law_value_3
  get_elem_tactic_extensible
  refine Go.ifd (fun _ => ?_) (fun _ => ?_)
  · get_elem_tactic_extensible
    refine go_integer fun i i0 i1 => ?_
    get_elem_tactic_extensible
    refine go_integer fun j j0 j1 => ?_
    get_elem_tactic_extensible
    refine go_integer fun k k0 k1 => ?_
    get_elem_tactic_extensible
    refine go_square_free fun m hm => ?_
    get_elem_tactic_extensible
    have c1 : Sm 250 (if (if k < 0 then -k else k) > 1 then (if k < 0 then -k else k) else 1) := by
      unfold Sm
      split <;> (try split) <;> omega
    exact hq' _ (vd_tup (all_mem4 (si ((s40 i0 i1).le (by decide))) (si ((s40 j0 j1).le (by decide))) (si c1) (si (hm.sm.le (by decide)))) (by simp))
  unfold q__law_value_2
  get_elem_tactic_extensible
  refine Go.ifd (fun _ => ?_) (fun _ => ?_)
  · have cut : cutD ([.int s.a, .int s.b, .int s.c, .int s.d] : List D) none (some 3) = [.int s.a, .int s.b, .int s.c] := rfl
    get_elem_tactic_extensible
    refine Go.addT_go (by rw [sizeLine_eq]; show 4 + 1 ≤ _; decide) ?_
    get_elem_tactic_extensible
    refine bStr_s4 hb ?_
    get_elem_tactic_extensible
    rw [cut]
    refine Go.addT_go (by rw [sizeLine_eq]; show 3 + 1 ≤ _; decide) ?_
    get_elem_tactic_extensible
    exact go_pick (by simp) (by show 15 < 1000; decide) fun d hd => hq' d (some_v hb d hd)
  unfold q__law_value_1
  get_elem_tactic_extensible
  refine go_bent s 110 (by decide) (by decide) (hb.a.le (by decide)) (hb.b.le (by decide)) (hb.c.le (by decide)) (hb.d.le (by decide)) fun ds hr => ?_
  unfold q__law_value_0
  have tail : ∀ (ds : List D) (k : Nat), Row4 k ds → 1 ≤ k → k ≤ 250 → Q (.tuple ds) := fun ds k h h1 h2 => hq' _ (row4_vd h h1 h2)
  get_elem_tactic_extensible
  refine Go.ifd (fun _ => ?_) (fun _ => ?_)
  · get_elem_tactic_extensible
    obtain ⟨x, y, z, v, rfl⟩ : ∃ x y z v, ds = [x, y, z, v] := by
      match ds, hr.1 with
      | [x, y, z, v], _ => exact ⟨x, y, z, v, rfl⟩
      | [], h => simp at h
      | [_], h => simp at h
      | [_, _], h => simp at h
      | [_, _, _], h => simp at h
      | _ :: _ :: _ :: _ :: _ :: r, h => simp only [List.length_cons] at h; omega
    refine ⟨by unfold most; show 4 ≤ _; decide, ?_⟩
    refine lc_map (α := D) (f := fun d => d) (F := fun d => .bool (isInt d)) [x, y, z, v] (fun d _ K h => ?_) _ ?_
    · get_elem_tactic_extensible
      unfold isInt at h
      cases hp : isB (tyN d) "int" with
      | true =>
        rw [hp] at h
        get_elem_tactic_extensible
        exact h
      | false =>
        rw [hp] at h
        exact h
    get_elem_tactic_extensible
    unfold bAll
    dsimp only [blsOf]
    rw [show List.map (fun d => PyData.bool (isInt d)) [x, y, z, v] = [.bool (isInt x), .bool (isInt y), .bool (isInt z), .bool (isInt v)] from rfl, bls4]
    dsimp only
    rw [all4]
    by_cases hi : (isInt x && (isInt y && (isInt z && isInt v))) = true
    · rw [hi]
      obtain ⟨a, b, c, e, rfl, rfl, rfl, rfl⟩ := ints_of hi
      have sm : ∀ {i : Int}, PyData.int i ∈ ([.int a, .int b, .int c, .int e] : List D) → Sm 120 i := fun {i} hi => by
        rcases hr.2 _ hi with ⟨j, e, h⟩ | ⟨h, _⟩
        · injection e with e; rw [e]; exact h
        · rw [isInt_int] at h; cases h
      get_elem_tactic_extensible
      exact go_bent ⟨a, b, c, e⟩ 120 (by decide) (by decide) (sm (by simp)) (sm (by simp)) (sm (by simp)) (sm (by simp)) fun ds hr => by
        get_elem_tactic_extensible
        exact tail ds 130 hr (by decide) (by decide)
    · have hi : (isInt x && (isInt y && (isInt z && isInt v))) = false := by simpa using hi
      rw [hi]
      get_elem_tactic_extensible
      exact tail _ 120 hr (by decide) (by decide)
  · get_elem_tactic_extensible
    exact tail _ 120 hr (by decide) (by decide)
theorem go_value {n : Int} {l : List S4} {Q : D → Prop} (h : Some n l) (hq : ∀ d, Vd d → Q d) : S__law_value [.bg, .sh (.list (l.map S4.D))] Q := ⟨(n, l), rfl, h, hq⟩
end T
end DL
namespace DL
namespace T
open PySem L2 PySem.Spec PyProof.Rows
local macro_rules
  | `(tactic| get_elem_tactic_extensible) => `(tactic| (repeat (first | with_reducible refine Go.lc_go ?_ | with_reducible refine Go.ln_go ?_ | ((with_reducible apply Go.v_sh); exact rfl) | ((with_reducible apply Go.n_sh); exact rfl) | ((with_reducible apply Go.n_ow); exact rfl) | ((with_reducible apply Go.ab_go); exact rfl) | ((with_reducible apply Go.app_go); exact rfl) | ((with_reducible apply Go.ext_go); exact rfl) | with_reducible refine Go.c_go ?_ | with_reducible refine Go.tup_go ?_ | with_reducible refine Go.nv_go ?_ | with_reducible refine Go.bin_go ?_ | with_reducible refine Go.slT_go ?_ | with_reducible refine Go.slL_go ?_ | with_reducible refine Go.on_go ?_ | with_reducible refine Go.os_go ?_ | with_reducible refine Go.neg_go ?_ | with_reducible refine Go.sub_go ?_ | with_reducible refine Go.addI_go ?_ | with_reducible refine Go.seqT_go ?_ | with_reducible refine Go.call_go ?_ | with_reducible refine Go.callK_go ?_ | with_reducible refine Go.cb_go ?_ | with_reducible refine Go.dict1_go ?_ | with_reducible refine Go.if_go ?_ | with_reducible refine Go.an_go ?_ | with_reducible refine Go.ac_go ?_ | with_reducible refine Go.mv_go ?_ | with_reducible refine Go.par_go ?_ | with_reducible refine Go.sq_go ?_ | with_reducible refine Go.set_go ?_ | with_reducible refine Go.setN_go ?_ | with_reducible refine Go.ret_go ?_ | with_reducible refine Go.asg_go ?_ | with_reducible refine Go.ifs_go ?_ | with_reducible refine Go.next_go ?_ | with_reducible refine Go.nm_go ?_ | with_reducible refine Go.cmp_go ?_ | with_reducible refine Go.tv_go ?_ | with_reducible refine Go.not_go ?_ | with_reducible refine Go.and_go ?_ | with_reducible refine Go.or_go ?_ | with_reducible refine Go.lenT_go ?_ | with_reducible refine Go.lenL_go ?_ | with_reducible refine Go.absI_go ?_ | with_reducible refine Go.intI_go ?_ | with_reducible refine Go.max2_go ?_ | with_reducible refine Go.min2_go ?_ | with_reducible refine Go.tupL_go ?_ | with_reducible refine Go.tupT_go ?_ | with_reducible refine Go.gv_go ?_ | with_reducible refine Go.ltI_go ?_ | with_reducible refine Go.leI_go ?_ | with_reducible refine Go.gtI_go ?_ | with_reducible refine Go.geI_go ?_ | with_reducible refine Go.eqI_go ?_ | with_reducible refine Go.neI_go ?_ | with_reducible refine Go.eqS_go ?_ | with_reducible refine Go.rng1_go ?_ | ((first | with_reducible apply Go.ixL_go | with_reducible apply Go.ixT_go); first | exact DL.at0 _ _ | exact DL.at1 _ _ _ | exact DL.at2 _ _ _ _ | exact DL.at3 _ _ _ _ _ | exact DL.at4 _ _ _ _ _ _) | ((with_reducible apply Go.frz_go); exact rfl) | ((with_reducible apply Go.frz_sh); exact rfl) | with_reducible refine Go.mn_go ?_ | with_reducible refine Go.andV_go ?_ | ((first | with_reducible apply Go.sqT_go | with_reducible apply Go.sqL_go); exact rfl) | with_reducible refine Go.gsC_go ?_ | with_reducible refine Go.gsN_go ?_ | with_reducible refine Go.ifT (by decide +kernel) ?_ | with_reducible refine Go.ifF (by decide +kernel) ?_ | with_reducible refine Go.cat_go ?_ | with_reducible refine Go.callO_go ?_ | ((with_reducible apply Go.retO_go); exact rfl) | with_reducible refine Go.retN_go ?_ | with_reducible refine Go.ifN_go ?_ | with_reducible refine Go.yes_go ?_ | with_reducible refine Go.isI_go ?_ | with_reducible refine Go.isB_go ?_ | with_reducible refine Go.isN_go ?_ | with_reducible refine Go.notN_go ?_ | with_reducible refine Go.lrev_go ?_ | with_reducible refine Go.bk_go ?_ | with_reducible refine Go.ct_go ?_ | with_reducible refine Go.rng2_go ?_ | with_reducible refine Go.orV_go ?_ | with_reducible refine Go.notV_go ?_ | ((with_reducible apply Go.extT_go); exact rfl) | with_reducible refine Go.isI2_go ?_ | with_reducible refine Go.dict2_go ?_ | with_reducible refine Go.callE_go ?_ | with_reducible refine Go.callEK_go ?_ | ((with_reducible apply Go.callX_go); exact rfl) | with_reducible refine Go.raise0_go ?_ | with_reducible refine Go.raise1_go ?_ | ((with_reducible apply Go.is1_go); exact rfl) | ((with_reducible apply Go.isT_go); exact rfl) | ((with_reducible apply Go.fld_go); exact rfl) | ((with_reducible apply Go.setIx_go); exact rfl) | unfold fForS | unfold fLc | dsimp only [seqOf, List.set_cons_zero, List.set_cons_succ, setAll, wipeE])))
def Vds (k : Nat) (ds : List D) : Prop := ds.length = k ∧ ∀ d ∈ ds, Vd d
theorem Vds.app {k m : Nat} {ds es : List D} (h : Vds k ds) (h' : Vds m es) : Vds (k + m) (ds ++ es) := ⟨by rw [List.length_append, h.1, h'.1], fun d hd => by
  rcases List.mem_append.mp hd with z | z
  · exact h.2 d z
  · exact h'.2 d z⟩
theorem Vds.nil : Vds 0 [] := ⟨rfl, fun _ h => nomatch h⟩
theorem Vds.cons {k : Nat} {d : D} {ds : List D} (h : Vd d) (h' : Vds k ds) : Vds (k + 1) (d :: ds) := ⟨by rw [List.length_cons, h'.1], fun e he => by
  rcases List.mem_cons.mp he with z | z
  · rw [z]; exact h
  · exact h'.2 e z⟩
theorem v4 {a b c d : Int} (ha : Sm 250 a) (hb : Sm 250 b) (hc : Sm 250 c) (hd : Sm 250 d) : Vd (.tuple [.int a, .int b, .int c, .int d]) := vd_tup (all_mem4 (si ha) (si hb) (si hc) (si hd)) (by simp)
theorem v4' {x y z w : D} (ha : Sw 6 1000 x) (hb : Sw 6 1000 y) (hc : Sw 6 1000 z) (hd : Sw 6 1000 w) : Vd (.tuple [x, y, z, w]) := vd_tup (all_mem4 ha hb hc hd) (by simp)
theorem sbl (b : Bool) : Sw 6 1000 (.bool b) := (Sw.bool b).le (by omega) (by omega)
theorem ext_end {k m : Nat} {ds es : List D} {J : List D → Prop} (h : Vds k ds) (h' : Vds m es) (hk : k + m ≤ 1000) (q : ∀ ds, Vds (k + m) ds → J ds) : ds.length + es.length ≤ most ∧ J (ds ++ es) := ⟨by rw [h.1, h'.1]; unfold most; omega, q _ (h.app h')⟩
theorem app_end {k : Nat} {ds : List D} {d : D} {J : List D → Prop} (h : Vds k ds) (h' : Vd d) (hk : k ≤ 1000) (q : ∀ ds, Vds (k + 1) ds → J ds) : ds.length < most ∧ J (ds ++ [d]) := ⟨by rw [h.1]; unfold most; omega, q _ (h.app (.cons h' .nil))⟩
theorem pow7_go {J : D → Prop} (h : J (.int 10000000)) : gPow (.int 10) (.int 7) J := ⟨pw (k := 7) (by decide), by rw [show (10 : Int) ^ (7 : Int).toNat = 10000000 by decide]; exact h⟩
theorem lc_self {g : GT} {e : SE} {ρ : Env} {F : D → D} (ds : List D) (h : ∀ d ∈ ds, ∀ K : D → Prop, K (F d) → g d ρ fun ρ1 => e ρ1 K) (Q : List D → Prop) (q : Q (ds.map F)) : lcRun g fYes e ρ ds Q := by
  have := lc_map (α := D) (f := fun d => d) (F := F) ds h Q q
  rwa [List.map_id'] at this
theorem r__law_each_wrong : ∀ ss (Q : D → Prop), S__law_each_wrong ss Q → g__law_each_wrong (endsOf Q) (initE N__law_each_wrong ss) := by
  rintro ss Q ⟨n, rfl, ⟨hn, hn6⟩, hq⟩
  have hq' : ∀ l : List Ask, l.length ≤ 100 → AllOk l → Q (.list (l.map Ask.D)) := fun l h1 h2 => hq l ⟨h1, h2⟩
  simp only [N__law_each_wrong, initE, List.length_cons, List.length_nil, Nat.reduceAdd, Nat.reduceSub, List.replicate, List.cons_append, List.nil_append, List.append_nil]
  unfold g__law_each_wrong
  get_elem_tactic_extensible
  refine go_draw (by decide) (by decide) fun x x0 x1 => ?_
  get_elem_tactic_extensible
  refine go_draw (by decide) (by decide) fun y y0 y1 => ?_
  get_elem_tactic_extensible
  refine go_draw (by decide) (by decide) fun z z0 z1 => ?_
  get_elem_tactic_extensible
  have sx : Sm 59 (x - 9) := by unfold Sm; omega
  have sy : Sm 59 (1 + y) := by unfold Sm; omega
  have sz : Sm 59 (1 + z) := by unfold Sm; omega
  refine go__law_surd ⟨x - 9, 1 + y, 1 + z, n⟩ ⟨by show 1 + z ≠ 0; omega, sx.le (by decide), sy.le (by decide), sz.le (by decide)⟩ ?_
  have hb : Bd 60 (nrmZ (x - 9) (1 + y) (1 + z) n) := (nrmZ_bd sx sy sz (by omega) (by have := hn.1; omega) hn.sm).le (by decide)
  dsimp only
  generalize nrmZ (x - 9) (1 + y) (1 + z) n = s at hb
  rw [D4]
  obtain ⟨a, b, c, d⟩ := s
  have sa : Sm 60 a := hb.a
  have sb : Sm 60 b := hb.b
  have sc : Sm 60 c := hb.c
  have sd : Sm 60 d := hb.d.le (by decide)
  get_elem_tactic_extensible
  unfold q__law_each_wrong_11
  get_elem_tactic_extensible
  refine go_draw (by decide) (by decide) fun m m0 m1 => ?_
  get_elem_tactic_extensible
  refine pow12_go ?_
  get_elem_tactic_extensible
  refine go_pick (by simp) (by simp) fun f hf => ?_
  obtain ⟨f, rfl⟩ : ∃ b : Bool, f = .bool b := by
    simp only [List.mem_cons, List.not_mem_nil, or_false] at hf
    rcases hf with rfl | rfl <;> exact ⟨_, rfl⟩
  get_elem_tactic_extensible
  refine ⟨rfl, ?_⟩
  have smm : Sm 60 (2 + m) := by unfold Sm; omega
  have sbe : Sm 60 (1000000000000 + 1) := by unfold Sm; omega
  unfold q__law_each_wrong_10
  get_elem_tactic_extensible
  refine go_pick (by simp) (by simp) fun g hg => ?_
  obtain ⟨g, rfl, sg⟩ : ∃ i : Int, g = .int i ∧ Sm 60 i := by
    simp only [List.mem_cons, List.not_mem_nil, or_false] at hg
    rcases hg with rfl | rfl <;> exact ⟨_, rfl, by unfold Sm; decide⟩
  get_elem_tactic_extensible
  refine go_pick (by simp) (by simp) fun p hp => ?_
  obtain ⟨p, rfl, p2, p3⟩ : ∃ q : Int, p = .int q ∧ 2 ≤ q ∧ q ≤ 997 := by
    simp only [List.mem_cons, List.not_mem_nil, or_false] at hp
    rcases hp with rfl | rfl | rfl | rfl | rfl | rfl | rfl | rfl | rfl | rfl <;> exact ⟨_, rfl, by decide, by decide⟩
  get_elem_tactic_extensible
  refine ⟨rfl, ?_⟩
  unfold q__law_each_wrong_9
  have sp : Sm 10 p := Sm.nat (by omega) (by omega)
  have pp : 4 ≤ p * p := by
    have := Int.mul_le_mul p2 p2 (by omega) (by omega)
    omega
  have pq : p * p ≤ 994009 := by
    have := Int.mul_le_mul p3 p3 (by omega) (by omega)
    omega
  get_elem_tactic_extensible
  refine Go.mulI_go (mw sp sp) ?_
  get_elem_tactic_extensible
  refine pow6_go ?_
  get_elem_tactic_extensible
  refine Go.mulI_go (mw sp sp) ?_
  refine Go.divI_go (lg_small (by omega) (by omega)) (by omega) ?_
  get_elem_tactic_extensible
  have q1 : 1 ≤ 1000000 / (p * p) := Int.le_ediv_of_mul_le (by omega) (by omega)
  have q2 : p * p * (1000000 / (p * p)) ≤ 1000000 := Int.mul_ediv_self_le (by omega)
  generalize hk : p * p = k at *
  generalize 1000000 / k = w at *
  have w2 : w ≤ 1000000 := by
    have := Int.mul_le_mul_of_nonneg_right (a := 1) (b := k) (c := w) (by omega) (by omega)
    omega
  refine go_draw (by omega) (lg_small (by omega) (by omega)) fun r r0 r1 => ?_
  get_elem_tactic_extensible
  have s1 : Sm 21 k := Sm.nat (by omega) (by omega)
  have s2 : Sm 21 (1 + r) := Sm.nat (by omega) (by omega)
  refine Go.mulI_go (mw s1 s2) ?_
  have a1 := Int.mul_le_mul_of_nonneg_left (a := 1 + r) (b := w) (c := k) (by omega) (by omega)
  have a2 := Int.mul_nonneg (a := k) (b := 1 + r) (by omega) (by omega)
  have ssq : Sm 60 (k * (1 + r)) := by unfold Sm; omega
  generalize k * (1 + r) = q at ssq
  clear a1 a2 s1 s2 w2 q1 q2 pp pq hk
  have up : ∀ {i : Int}, Sm 60 i → Sm 250 i := fun h => h.le (by decide)
  have mu : ∀ {i j : Int}, Sm 60 i → Sm 60 j → Sm 250 (i * j) := fun h k => (h.mul k).le (by decide)
  unfold q__law_each_wrong_8
  get_elem_tactic_extensible
  refine Go.mulI_go (mw sg sbe) ?_
  get_elem_tactic_extensible
  refine Go.mulI_go (mw sg sbe) ?_
  get_elem_tactic_extensible
  have v0 : Vds 5 [.tuple [.int a, .int b, .int c, .int d], .tuple [.int (g * (1000000000000 + 1)), .int b, .int c, .int d], .tuple [.int a, .int (g * (1000000000000 + 1)), .int c, .int d], .tuple [.int a, .int b, .int (1000000000000 + 1), .int d], .tuple [.int a, .int b, .int (-(1000000000000 + 1)), .int d]] :=
    .cons (v4 (up sa) (up sb) (up sc) (up sd)) (.cons (v4 (mu sg sbe) (up sb) (up sc) (up sd)) (.cons (v4 (up sa) (mu sg sbe) (up sc) (up sd)) (.cons (v4 (up sa) (up sb) (up sbe) (up sd)) (.cons (v4 (up sa) (up sb) (up sbe.neg) (up sd)) .nil))))
  generalize ([.tuple [.int a, .int b, .int c, .int d], .tuple [.int (g * (1000000000000 + 1)), .int b, .int c, .int d], .tuple [.int a, .int (g * (1000000000000 + 1)), .int c, .int d], .tuple [.int a, .int b, .int (1000000000000 + 1), .int d], .tuple [.int a, .int b, .int (-(1000000000000 + 1)), .int d]] : List D) = l0 at v0
  unfold q__law_each_wrong_7
  get_elem_tactic_extensible
  have len : ∀ {k : Nat} {ds es : List D}, Vds k (ds ++ es) → k ≤ 1000 → ds.length + es.length ≤ most := fun h hk => by
    have := h.1
    rw [List.length_append] at this
    unfold most
    omega
  have se : ∀ {i : Int}, -1000000000000000000000000000000 ≤ i → i ≤ 1000000000000000000000000000000 → Sm 250 i := fun h0 h1 => (sm110 h0 h1).le (by decide)
  have z0 : Sm 250 (0 : Int) := sm0
  have o1 : Sm 250 (1 : Int) := se (by decide) (by decide)
  refine pow6_go ?_
  get_elem_tactic_extensible
  refine Go.mulI_go (mw sa smm) ?_
  get_elem_tactic_extensible
  refine Go.mulI_go (mw sb smm) ?_
  get_elem_tactic_extensible
  refine Go.mulI_go (mw sc smm) ?_
  get_elem_tactic_extensible
  have v1 := v0.app (.cons (v4 (d := 1000000 + 1) (up sa) (up sb) (up sc) (se (by decide) (by decide))) (.cons (v4 (mu sa smm) (mu sb smm) (mu sc smm) (up sd)) (.cons (v4 (up sa) (up sb) z0 (up sd)) (.cons (v4 (up sa) (up sb) (up sc.neg) (up sd)) .nil))))
  refine ⟨len v1 (by decide), ?_⟩
  unfold q__law_each_wrong_6
  get_elem_tactic_extensible
  have v2 := v1.app (.cons (v4 (up sa) (up sb) (up sc) z0) (.cons (v4 (up sa) (up sb) (up sc) o1) (.cons (v4 (up sa) (up sb) (up sc) (up sd.neg)) (.cons (v4 (up sa) (up sb) (up sc) (up ssq)) (.cons (v4 z0 z0 o1 (up sd)) (.cons (v4 z0 z0 (up smm) z0) .nil))))))
  refine ⟨len v2 (by decide), ?_⟩
  unfold q__law_each_wrong_5
  get_elem_tactic_extensible
  have v3 := v2.app (.cons (v4' (sbl f) (si (up sb)) (si (up sc)) (si (up sd))) (.cons (v4' (si (up sa)) (sbl f) (si (up sc)) (si (up sd))) (.cons (v4' (si (up sa)) (si (up sb)) (sbl true) (si (up sd))) (.cons (v4' (si o1) (si z0) (si o1) (sbl f)) (.cons (vd_list (all_mem4 (si (up sa)) (si (up sb)) (si (up sc)) (si (up sd))) (by simp)) (.cons (vd_tup (es := [.int a, .int b, .int c]) (fun y hy => by
    simp only [List.mem_cons, List.not_mem_nil, or_false] at hy
    rcases hy with rfl | rfl | rfl
    · exact si (up sa)
    · exact si (up sb)
    · exact si (up sc)) (by simp)) .nil))))))
  refine ⟨len v3 (by decide), ?_⟩
  unfold q__law_each_wrong_4
  get_elem_tactic_extensible
  have nc : Ni 0 600 (.int c) := Ni.int (Nat.lt_of_lt_of_le sc (Nat.pow_le_pow_right (by decide) (by decide)))
  refine Go.strI_go ?_ nc.sh
  get_elem_tactic_extensible
  refine pow12_go ?_
  get_elem_tactic_extensible
  refine Go.mulI_go (mw sg (sm110 (by decide) (by decide))) ?_
  get_elem_tactic_extensible
  refine pow12_go ?_
  get_elem_tactic_extensible
  have wc : Sw 6 1000 (.str (PyData.shown (.int c))) := (sw_str (w := 61) (sg_int c) (Sw.int sc).wt).le (by omega) (by omega)
  have v4x := v3.app (.cons (vd_tup (es := [.int a, .int b, .int c, .int d, .int d]) (fun y hy => by
    simp only [List.mem_cons, List.not_mem_nil, or_false] at hy
    rcases hy with rfl | rfl | rfl | rfl | rfl
    · exact si (up sa)
    · exact si (up sb)
    · exact si (up sc)
    · exact si (up sd)
    · exact si (up sd)) (by simp)) (.cons (v4' (si (up sa)) (si (up sb)) wc (si (up sd))) (.cons (v4 (a := g * 1000000000000) (b := g - 1000000000000) (c := c) (d := 999997) ((sg.mul (sm110 (by decide) (by decide))).le (by decide)) (((sg.le (l := 110) (by decide)).sub (sm110 (i := 1000000000000) (by decide) (by decide))).le (by decide)) (up sc) (se (by decide) (by decide))) .nil)))
  refine ⟨len v4x (by decide), ?_⟩
  unfold q__law_each_wrong_3
  get_elem_tactic_extensible
  refine pow12_go ?_
  get_elem_tactic_extensible
  refine pow6_go ?_
  get_elem_tactic_extensible
  have v5 := v4x.app (.cons (v4 (a := a) (b := 1) (c := 1000000000000) (d := d) (up sa) o1 (se (by decide) (by decide)) (up sd)) (.cons (v4 (a := a) (b := b) (c := c) (d := 1000000) (up sa) (up sb) (up sc) (se (by decide) (by decide))) .nil))
  refine ⟨len v5 (by decide), ?_⟩
  unfold q__law_each_wrong_2
  get_elem_tactic_extensible
  refine pow6_go ?_
  get_elem_tactic_extensible
  refine pow7_go ?_
  get_elem_tactic_extensible
  refine pow30_go ?_
  get_elem_tactic_extensible
  refine go_pick (by simp) (by simp) fun e he => ?_
  obtain ⟨e, rfl, es⟩ : ∃ i : Int, e = .int i ∧ Sm 250 i := by
    simp only [List.mem_cons, List.not_mem_nil, or_false] at he
    rcases he with rfl | rfl | rfl <;> exact ⟨_, rfl, se (by decide) (by decide)⟩
  get_elem_tactic_extensible
  have v6 := v5.app (.cons (v4 (a := a) (b := b) (c := c) (d := -e) (up sa) (up sb) (up sc) es.neg) .nil)
  refine ⟨by have := v5.1; unfold most; omega, ?_⟩
  unfold q__law_each_wrong_1
  get_elem_tactic_extensible
  have s2 : Sm 60 (2 : Int) := by unfold Sm; decide
  refine Go.mulI_go (mw s2 sa) ?_
  get_elem_tactic_extensible
  refine Go.mulI_go (mw s2 sb) ?_
  get_elem_tactic_extensible
  refine Go.mulI_go (mw s2 sc) ?_
  get_elem_tactic_extensible
  have v7 := v6.app (.cons (v4 (up sa) (up sb) z0 (up ssq)) (.cons (v4 (mu s2 sa) (mu s2 sb) (mu s2 sc) (up ssq)) (.cons (v4 (up sbe) (up sb) (up sc.neg) (up ssq)) (.cons (v4' (si (up sa)) (si (up sbe)) (Sw.none.le (by omega) (by omega)) (si (up sd))) .nil))))
  refine ⟨len v7 (by decide), ?_⟩
  generalize hL : ((((((l0 ++ _) ++ _) ++ _) ++ _) ++ _) ++ _) ++ _ = L at v7
  unfold q__law_each_wrong_0
  get_elem_tactic_extensible
  clear hL v6 v5 v4x v3 v2 v1 v0
  refine ⟨by rw [v7.1]; unfold most; decide, ?_⟩
  refine lc_self (F := fun d => (Ask.error d).D) L (fun d _ K h => ?_) _ ?_
  · get_elem_tactic_extensible
    exact h
  have fin := hq' (L.map .error) (by rw [List.length_map, v7.1]; decide) (fun q hq => by
    obtain ⟨d, hd, rfl⟩ := List.mem_map.mp hq
    exact v7.2 d hd)
  rw [List.map_map] at fin
  exact fin
theorem go_each_wrong {n : Int} {Q : D → Prop} (h : SF n) (h2 : n ≤ 1000001) (hq : ∀ l : List Ask, l.length ≤ 100 → AllOk l → Q (.list (l.map Ask.D))) : S__law_each_wrong [.bg, iS n] Q := ⟨n, rfl, ⟨h, h2⟩, fun l hl => hq l hl.1 hl.2⟩
end T
end DL
namespace DL
namespace T
open PySem L2 PySem.Spec PyProof.Rows
local macro_rules
  | `(tactic| get_elem_tactic_extensible) => `(tactic| (repeat (first | with_reducible refine Go.lc_go ?_ | with_reducible refine Go.ln_go ?_ | ((with_reducible apply Go.v_sh); exact rfl) | ((with_reducible apply Go.n_sh); exact rfl) | ((with_reducible apply Go.n_ow); exact rfl) | ((with_reducible apply Go.ab_go); exact rfl) | ((with_reducible apply Go.app_go); exact rfl) | ((with_reducible apply Go.ext_go); exact rfl) | with_reducible refine Go.c_go ?_ | with_reducible refine Go.tup_go ?_ | with_reducible refine Go.nv_go ?_ | with_reducible refine Go.bin_go ?_ | with_reducible refine Go.slT_go ?_ | with_reducible refine Go.slL_go ?_ | with_reducible refine Go.on_go ?_ | with_reducible refine Go.os_go ?_ | with_reducible refine Go.neg_go ?_ | with_reducible refine Go.sub_go ?_ | with_reducible refine Go.addI_go ?_ | with_reducible refine Go.seqT_go ?_ | with_reducible refine Go.call_go ?_ | with_reducible refine Go.callK_go ?_ | with_reducible refine Go.cb_go ?_ | with_reducible refine Go.dict1_go ?_ | with_reducible refine Go.if_go ?_ | with_reducible refine Go.an_go ?_ | with_reducible refine Go.ac_go ?_ | with_reducible refine Go.mv_go ?_ | with_reducible refine Go.par_go ?_ | with_reducible refine Go.sq_go ?_ | with_reducible refine Go.set_go ?_ | with_reducible refine Go.setN_go ?_ | with_reducible refine Go.ret_go ?_ | with_reducible refine Go.asg_go ?_ | with_reducible refine Go.ifs_go ?_ | with_reducible refine Go.next_go ?_ | with_reducible refine Go.nm_go ?_ | with_reducible refine Go.cmp_go ?_ | with_reducible refine Go.tv_go ?_ | with_reducible refine Go.not_go ?_ | with_reducible refine Go.and_go ?_ | with_reducible refine Go.or_go ?_ | with_reducible refine Go.lenT_go ?_ | with_reducible refine Go.lenL_go ?_ | with_reducible refine Go.absI_go ?_ | with_reducible refine Go.intI_go ?_ | with_reducible refine Go.max2_go ?_ | with_reducible refine Go.min2_go ?_ | with_reducible refine Go.tupL_go ?_ | with_reducible refine Go.tupT_go ?_ | with_reducible refine Go.gv_go ?_ | with_reducible refine Go.ltI_go ?_ | with_reducible refine Go.leI_go ?_ | with_reducible refine Go.gtI_go ?_ | with_reducible refine Go.geI_go ?_ | with_reducible refine Go.eqI_go ?_ | with_reducible refine Go.neI_go ?_ | with_reducible refine Go.eqS_go ?_ | with_reducible refine Go.rng1_go ?_ | ((first | with_reducible apply Go.ixL_go | with_reducible apply Go.ixT_go); first | exact DL.at0 _ _ | exact DL.at1 _ _ _ | exact DL.at2 _ _ _ _ | exact DL.at3 _ _ _ _ _ | exact DL.at4 _ _ _ _ _ _) | ((with_reducible apply Go.frz_go); exact rfl) | ((with_reducible apply Go.frz_sh); exact rfl) | with_reducible refine Go.mn_go ?_ | with_reducible refine Go.andV_go ?_ | ((first | with_reducible apply Go.sqT_go | with_reducible apply Go.sqL_go); exact rfl) | with_reducible refine Go.gsC_go ?_ | with_reducible refine Go.gsN_go ?_ | with_reducible refine Go.ifT (by decide +kernel) ?_ | with_reducible refine Go.ifF (by decide +kernel) ?_ | with_reducible refine Go.cat_go ?_ | with_reducible refine Go.callO_go ?_ | ((with_reducible apply Go.retO_go); exact rfl) | with_reducible refine Go.retN_go ?_ | with_reducible refine Go.ifN_go ?_ | with_reducible refine Go.yes_go ?_ | with_reducible refine Go.isI_go ?_ | with_reducible refine Go.isB_go ?_ | with_reducible refine Go.isN_go ?_ | with_reducible refine Go.notN_go ?_ | with_reducible refine Go.lrev_go ?_ | with_reducible refine Go.bk_go ?_ | with_reducible refine Go.ct_go ?_ | with_reducible refine Go.rng2_go ?_ | with_reducible refine Go.orV_go ?_ | with_reducible refine Go.notV_go ?_ | ((with_reducible apply Go.extT_go); exact rfl) | with_reducible refine Go.isI2_go ?_ | with_reducible refine Go.dict2_go ?_ | with_reducible refine Go.callE_go ?_ | with_reducible refine Go.callEK_go ?_ | ((with_reducible apply Go.callX_go); exact rfl) | with_reducible refine Go.raise0_go ?_ | with_reducible refine Go.raise1_go ?_ | ((with_reducible apply Go.is1_go); exact rfl) | ((with_reducible apply Go.isT_go); exact rfl) | ((with_reducible apply Go.fld_go); exact rfl) | ((with_reducible apply Go.setIx_go); exact rfl) | unfold fForS | unfold fLc | dsimp only [seqOf, List.set_cons_zero, List.set_cons_succ, setAll, wipeE])))
theorem fl_neg {n : Int} {s : S4} (h : Fl n s) : Fl n (negS s) := by
  rcases h with ⟨h1, h2⟩ | ⟨h1, h2⟩
  · exact .inl ⟨h1, by show -s.b = 0; omega⟩
  · exact .inr ⟨h1, by show -s.b ≠ 0; omega⟩
theorem fl_oth {n : Int} {s : S4} (h : Fl n s) : Fl n (othS s) := by
  rcases h with ⟨h1, h2⟩ | ⟨h1, h2⟩
  · exact .inl ⟨h1, by show -s.b = 0; omega⟩
  · exact .inr ⟨h1, by show -s.b ≠ 0; omega⟩
theorem bd_oth {m : Nat} {s : S4} (h : Bd m s) : Bd m (othS s) := ⟨h.a, h.b.neg, h.c, h.c0, h.d0, h.d⟩
theorem AllOk.app {l m : List Ask} (h : AllOk l) (k : AllOk m) : AllOk (l ++ m) := fun q hq => by
  rcases List.mem_append.mp hq with z | z
  · exact h q z
  · exact k q z
theorem AllOk.nil : AllOk [] := fun _ h => nomatch h
theorem AllOk.cons {q : Ask} {l : List Ask} (h : q.ok) (k : AllOk l) : AllOk (q :: l) := fun p hp => by
  rcases List.mem_cons.mp hp with z | z
  · rw [z]; exact h
  · exact k p z
theorem r__law_asks : ∀ ss (Q : D → Prop), S__law_asks ss Q → g__law_asks (endsOf Q) (initE N__law_asks ss) := by
  rintro ss Q ⟨⟨n, l⟩, rfl, ⟨hn, hne, hlen, hl⟩, hq⟩
  have hn : SF n := hn
  have hne : l ≠ [] := hne
  have hlen : l.length ≤ 10 := hlen
  have hl : ∀ s ∈ l, Bd 41 s ∧ Fl n s := hl
  have hS : Some n l := ⟨hn, hne, hlen, hl⟩
  have hq' : ∀ a : List Ask, a.length ≤ 200 → AllOk a → Q (.list (a.map Ask.D)) := fun a h1 h2 => hq a ⟨h1, h2⟩
  have pick : ∀ {J : D → Prop}, (∀ s, Bd 41 s → Fl n s → J s.D) → S__law_pick [.bg, .sh (.list (l.map S4.D))] J := fun {J} h => go_pick (fun z => hne (List.map_eq_nil_iff.mp z)) (by rw [List.length_map]; omega) fun d hd => by
    obtain ⟨s, hs, rfl⟩ := List.mem_map.mp hd
    exact h s (hl s hs).1 (hl s hs).2
  have s60 : ∀ {i : Int}, -1000000000001 ≤ i → i ≤ 1000000000001 → Sm 60 i := fun h0 h1 => by unfold Sm; omega
  have oks : ∀ {s : S4}, Bd 41 s → Fl n s → okBack s := fun h f => ⟨h.le (by decide), n, hn, f⟩
  have ok22 : ∀ {s t : S4}, Bd 41 s → Fl n s → Bd 41 t → Fl n t → ok2 s t := fun h f h' f' => ⟨h.le (by decide), h'.le (by decide), n, hn, f, f'⟩
  have vd : ∀ {s : S4}, Bd 41 s → Vd s.D := fun h => (Sw.s4 h (by decide) (by decide)).le (by omega) (by omega)
  simp only [N__law_asks, arL, initE, List.length_cons, List.length_nil, Nat.reduceAdd, Nat.reduceSub, List.replicate, List.cons_append, List.nil_append, List.append_nil]
  unfold g__law_asks
  get_elem_tactic_extensible
  unfold q__law_asks_16
  get_elem_tactic_extensible
  refine ⟨by decide, by decide, ?_⟩
  refine for_of (fun ds ρ => ∃ (a : List Ask) (s3 s4 : Sl), ρ = [.bg, .sh (.list (l.map S4.D)), .ow (a.map Ask.D), s3, s4, .un, .un, .un, .un, .un, .un, .un, .un] ∧ AllOk a ∧ a.length + ds.length = 10) ?_ ?_ _ _ ⟨[], .un, .un, rfl, .nil, by rw [rng_len]; rfl⟩
  · rintro d ds ρ ⟨a, s3, s4, rfl, ha, hk⟩ K hK
    rw [List.length_cons] at hk
    get_elem_tactic_extensible
    unfold q__law_asks_1
    get_elem_tactic_extensible
    refine go_integer fun c c0 c1 => ?_
    get_elem_tactic_extensible
    unfold q__law_asks_0
    get_elem_tactic_extensible
    refine go_integer fun i i0 i1 => ?_
    get_elem_tactic_extensible
    refine go_integer fun j j0 j1 => ?_
    get_elem_tactic_extensible
    have fin : ∀ c' : Int, c' ≠ 0 → -1000000000001 ≤ c' → c' ≤ 1000000000001 → S__law_any_root [.bg] fun d3 => (a.map Ask.D).length < most ∧ K [.bg, .sh (.list (l.map S4.D)), .ow (a.map Ask.D ++ [.list [.str "of", .list [.int i, .int j, .int c', d3]]]), .sh d, iS c, .un, .un, .un, .un, .un, .un, .un, .un] := fun c' z h0 h1 => go_any_root fun r r0 r1 => by
      have si : Sm 60 i := s60 (by omega) (by omega)
      have sj : Sm 60 j := s60 (by omega) (by omega)
      have o : (Ask.of ⟨i, j, c', r⟩).ok := ⟨si, sj, s60 h0 h1, z, r0, r1⟩
      refine ⟨by rw [List.length_map]; unfold most; omega, hK _ ⟨a ++ [.of ⟨i, j, c', r⟩], _, _, by rw [List.map_append]; rfl, ha.app (.cons o .nil), by rw [List.length_append]; show a.length + 1 + ds.length = 10; omega⟩⟩
    refine Go.ifdn (fun z => ?_) (fun z => ?_)
    · get_elem_tactic_extensible
      exact fin c z (by omega) (by omega)
    · get_elem_tactic_extensible
      exact fin (-1) (by decide) (by decide) (by decide)
  rintro ρ ⟨a, s3, s4, rfl, ha, hk⟩
  have hk : a.length = 10 := by simpa using hk
  dsimp only
  unfold q__law_asks_15
  get_elem_tactic_extensible
  refine ⟨by decide, by decide, by rw [rng_len]; decide, ?_⟩
  show lcRun _ _ _ _ [.int 0, .int 1, .int 2] _
  have two : ∀ {J : D → Prop}, (∀ i, Sm 60 i → i ≠ 0 → J (.int i)) → S__law_pick [.bg, .sh (.list [.int 1000000000000, .int (-1000000000000)])] J := fun {J} h => go_pick (by simp) (by simp) fun d hd => by
    simp only [List.mem_cons, List.not_mem_nil, or_false] at hd
    rcases hd with rfl | rfl <;> exact h _ (s60 (by decide) (by decide)) (by decide)
  unfold lcRun
  get_elem_tactic_extensible
  refine pow12_go ?_
  get_elem_tactic_extensible
  refine pow12_go ?_
  get_elem_tactic_extensible
  refine two fun i si1 _ => ?_
  unfold lcRun
  get_elem_tactic_extensible
  refine pow12_go ?_
  get_elem_tactic_extensible
  refine pow12_go ?_
  get_elem_tactic_extensible
  refine two fun j sj _ => ?_
  unfold lcRun
  get_elem_tactic_extensible
  refine pow12_go ?_
  get_elem_tactic_extensible
  refine pow12_go ?_
  get_elem_tactic_extensible
  refine two fun k sk kz => ?_
  unfold lcRun
  unfold q__law_asks_14
  get_elem_tactic_extensible
  refine pow6_go ?_
  get_elem_tactic_extensible
  refine go_pick (by simp) (by simp) fun d hd => ?_
  obtain ⟨r, rfl, r0, r1⟩ : ∃ r : Int, d = .int r ∧ 0 ≤ r ∧ r ≤ 1000001 := by
    simp only [List.mem_cons, List.not_mem_nil, or_false] at hd
    rcases hd with rfl | rfl | rfl | rfl <;> exact ⟨_, rfl, by decide, by decide⟩
  get_elem_tactic_extensible
  refine Go.addL_go (by rw [sizeLine_eq]; show 3 + 1 ≤ _; decide) ?_
  get_elem_tactic_extensible
  refine ⟨by rw [List.length_map]; unfold most; omega, ?_⟩
  suffices tl : ∀ (a : List Ask) (s5 : Sl), AllOk a → a.length = 11 → q__law_asks_13 (endsOf Q) [.bg, .sh (.list (l.map S4.D)), .ow (a.map Ask.D), s3, s4, s5, .un, .un, .un, .un, .un, .un, .un] by
    have k0 : k ≠ 0 := kz
    have o : (Ask.of ⟨i, j, k, r⟩).ok := ⟨si1, sj, sk, k0, r0, r1⟩
    have := tl (a ++ [.of ⟨i, j, k, r⟩]) (.ow [.int i, .int j, .int k]) (ha.app (.cons o .nil)) (by rw [List.length_append, hk]; rfl)
    rw [List.map_append] at this
    exact this
  clear ha hk
  intro a s5 ha hk
  unfold q__law_asks_13
  get_elem_tactic_extensible
  refine for_of (fun ds ρ => ∃ (a : List Ask) (t : List S4) (s6 s7 : Sl), ρ = [.bg, .sh (.list (l.map S4.D)), .ow (a.map Ask.D), s3, s4, s5, s6, s7, .un, .un, .un, .un, .un] ∧ ds = t.map S4.D ∧ (∀ s ∈ t, Bd 41 s ∧ Fl n s) ∧ AllOk a ∧ a.length + 6 * t.length ≤ 71) ?_ ?_ _ _ ⟨a, l, .un, .un, rfl, rfl, hl, ha, by omega⟩
  · rintro d ds ρ ⟨a, t, s6, s7, rfl, e, ht, ha, hk⟩ K hK
    cases t with
    | nil => cases e
    | cons s t =>
      rw [List.map_cons] at e
      injection e with e1 e2
      subst e1 e2
      rw [List.length_cons] at hk
      obtain ⟨hb, hf⟩ := ht s List.mem_cons_self
      have ht : ∀ s ∈ t, Bd 41 s ∧ Fl n s := fun x hx => ht x (List.mem_cons_of_mem _ hx)
      get_elem_tactic_extensible
      unfold q__law_asks_4
      get_elem_tactic_extensible
      refine ⟨by rw [List.length_map]; show a.length + 4 ≤ _; unfold most; omega, ?_⟩
      unfold q__law_asks_3
      get_elem_tactic_extensible
      refine pick fun u ub uf => ?_
      get_elem_tactic_extensible
      unfold q__law_asks_2
      get_elem_tactic_extensible
      refine ⟨by rw [List.length_append, List.length_map]; show a.length + 4 + 2 ≤ _; unfold most; omega, ?_⟩
      have oks' : AllOk [.turned s, .back s, .other s, .error s.D, .sum s u, .times s u] := .cons (show Bd 4000 s from hb.le (by decide)) (.cons (show okBack s from oks hb hf) (.cons (show Bd 4000 s from hb.le (by decide)) (.cons (show Vd s.D from vd hb) (.cons (show ok2 s u from ok22 hb hf ub uf) (.cons (show ok2 s u from ok22 hb hf ub uf) .nil)))))
      refine hK _ ⟨a ++ [.turned s, .back s, .other s, .error s.D, .sum s u, .times s u], t, _, _, by rw [List.map_append, List.append_assoc]; rfl, rfl, ht, ha.app oks', by rw [List.length_append]; show a.length + 6 + 6 * t.length ≤ 71; omega⟩
  rintro ρ ⟨a, t, s6, s7, rfl, e, ht, ha, hk⟩
  obtain ⟨s, r, rfl⟩ : ∃ s r, l = s :: r := by
    cases l with
    | nil => exact absurd rfl hne
    | cons s r => exact ⟨s, r, rfl⟩
  obtain ⟨hb, hf⟩ := hl s List.mem_cons_self
  dsimp only
  unfold q__law_asks_12
  have hi : atI ((s :: r).map S4.D) 0 = some s.D := DL.at0 _ _
  get_elem_tactic_extensible
  rw [D4 s]
  get_elem_tactic_extensible
  unfold q__law_asks_11
  get_elem_tactic_extensible
  refine ⟨by rw [List.length_map]; show a.length + 2 ≤ _; unfold most; omega, ?_⟩
  unfold q__law_asks_10
  get_elem_tactic_extensible
  refine ⟨by rw [List.length_append, List.length_map]; show a.length + 2 + 3 ≤ _; unfold most; omega, ?_⟩
  have b41n : Bd 41 (negS s) := hb.neg
  have c0 : Fl n ⟨0, 0, 1, 0⟩ := .inl ⟨rfl, rfl⟩
  have c1 : Fl n ⟨-1, 0, s.c, 0⟩ := .inl ⟨rfl, rfl⟩
  have b0 : Bd 41 ⟨0, 0, 1, 0⟩ := ⟨sm0, sm0, (by unfold Sm; decide : Sm 41 (1 : Int)), (by decide : (0 : Int) < 1), (by decide : (0 : Int) ≤ 0), sm0⟩
  have b1 : Bd 41 ⟨-1, 0, s.c, 0⟩ := ⟨(by unfold Sm; decide : Sm 41 (-1 : Int)), sm0, hb.c, hb.c0, (by decide : (0 : Int) ≤ 0), sm0⟩
  have okm : AllOk [.sum s (negS s), .sum s (othS s), .times s (othS s), .back ⟨0, 0, 1, 0⟩, .back ⟨-1, 0, s.c, 0⟩] := .cons (show ok2 s (negS s) from ok22 hb hf hb.neg (fl_neg hf)) (.cons (show ok2 s (othS s) from ok22 hb hf (bd_oth hb) (fl_oth hf)) (.cons (show ok2 s (othS s) from ok22 hb hf (bd_oth hb) (fl_oth hf)) (.cons (show okBack _ from oks b0 c0) (.cons (show okBack _ from oks b1 c1) .nil))))
  suffices tl : ∀ (a : List Ask) (ds : List D) (s6 s7 s8 s9 s10 s11 s12 s13 : Sl), ds = a.map Ask.D → AllOk a → a.length ≤ 76 → q__law_asks_9 (endsOf Q) [.bg, .sh (.list ((s :: r).map S4.D)), .ow ds, s6, s7, s8, s9, s10, s11, s12, s13, .un, .un] by
    exact tl (a ++ [.sum s (negS s), .sum s (othS s), .times s (othS s), .back ⟨0, 0, 1, 0⟩, .back ⟨-1, 0, s.c, 0⟩]) _ _ _ _ _ _ _ _ _ (by rw [List.map_append, List.append_assoc]; rfl) (ha.app okm) (by rw [List.length_append]; show a.length + 5 ≤ 76; omega)
  clear ha hk
  rintro a _ s6 s7 s8 s9 s10 s11 s12 s13 rfl ha hk
  unfold q__law_asks_9
  get_elem_tactic_extensible
  refine ⟨by decide, by decide, ?_⟩
  refine for_of (fun ds ρ => ∃ (a : List Ask) (s6 : Sl), ρ = [.bg, .sh (.list ((s :: r).map S4.D)), .ow (a.map Ask.D), s6, s7, s8, s9, s10, s11, s12, s13, .un, .un] ∧ AllOk a ∧ a.length + ds.length ≤ 82) ?_ ?_ _ _ ⟨a, s6, rfl, ha, by rw [rng_len]; show a.length + 6 ≤ 82; omega⟩
  · rintro d ds ρ ⟨a, s6, rfl, ha, hk⟩ K hK
    rw [List.length_cons] at hk
    get_elem_tactic_extensible
    unfold q__law_asks_5
    get_elem_tactic_extensible
    refine go_value hS fun v hv => ?_
    get_elem_tactic_extensible
    refine ⟨by rw [List.length_map]; unfold most; omega, ?_⟩
    exact hK _ ⟨a ++ [.error v], _, by rw [List.map_append]; rfl, ha.app (.cons (show (Ask.error v).ok from hv) .nil), by rw [List.length_append]; show a.length + 1 + ds.length ≤ 82; omega⟩
  rintro ρ ⟨a, s6, rfl, ha, hk⟩
  have hk : a.length ≤ 82 := by simpa using hk
  dsimp only
  unfold q__law_asks_8
  get_elem_tactic_extensible
  refine go_integer fun f f0 f1 => ?_
  get_elem_tactic_extensible
  refine pow6_go ?_
  get_elem_tactic_extensible
  refine go_pick (by simp) (by simp) fun d hd => ?_
  obtain ⟨w, rfl, w0, w1⟩ : ∃ w : Int, d = .int w ∧ 0 ≤ w ∧ w ≤ 1000001 := by
    simp only [List.mem_cons, List.not_mem_nil, or_false] at hd
    rcases hd with rfl | rfl | rfl | rfl | rfl | rfl <;> exact ⟨_, rfl, by decide, by decide⟩
  get_elem_tactic_extensible
  refine ⟨rfl, ?_⟩
  unfold q__law_asks_7
  get_elem_tactic_extensible
  refine go_integer fun i i0 i1 => ?_
  get_elem_tactic_extensible
  refine pow12_go ?_
  refine Go.modI_go (by decide) ?_
  get_elem_tactic_extensible
  generalize (1 + if f < 0 then -f else f) = g
  refine ⟨by rw [List.length_map]; unfold most; omega, ?_⟩
  have m1 := Int.emod_nonneg g (b := 1000000000000) (by decide)
  have m2 := Int.emod_lt_of_pos g (b := 1000000000000) (by decide)
  have si : Sm 60 i := s60 (by omega) (by omega)
  have sg : Sm 60 (g % 1000000000000 + 1) := s60 (by omega) (by omega)
  have o1 : (Ask.of ⟨i, g % 1000000000000 + 1, -1, 0⟩).ok := ⟨si, sg, s60 (i := -1) (by decide) (by decide), (by decide : (-1 : Int) ≠ 0), (by decide : (0 : Int) ≤ 0), (by decide : (0 : Int) ≤ 1000001)⟩
  unfold q__law_asks_6
  get_elem_tactic_extensible
  refine go_integer fun j j0 j1 => ?_
  get_elem_tactic_extensible
  refine Go.modI_go (by decide) ?_
  get_elem_tactic_extensible
  have m3 := Int.emod_nonneg g (b := 99) (by decide)
  have m4 := Int.emod_lt_of_pos g (b := 99) (by decide)
  have sj : Sm 60 j := s60 (by omega) (by omega)
  have sh : Sm 60 (g % 99 + 1) := s60 (by omega) (by omega)
  have o2 : (Ask.of ⟨j, g % 99 + 1, 3, w⟩).ok := ⟨sj, sh, s60 (i := 3) (by decide) (by decide), (by decide : (3 : Int) ≠ 0), w0, w1⟩
  refine Go.addL_go (by rw [List.length_append, List.length_map, sizeLine_eq]; show a.length + 1 + 1 ≤ _; omega) ?_
  have := hq' (a ++ [.of ⟨i, g % 1000000000000 + 1, -1, 0⟩, .of ⟨j, g % 99 + 1, 3, w⟩]) (by rw [List.length_append]; show a.length + 2 ≤ 200; omega) (ha.app (.cons o1 (.cons o2 .nil)))
  rw [List.map_append] at this
  rw [List.append_assoc]
  exact this
theorem go_asks {n : Int} {l : List S4} {Q : D → Prop} (h : Some n l) (hq : ∀ a : List Ask, a.length ≤ 200 → AllOk a → Q (.list (a.map Ask.D))) : S__law_asks [.bg, .sh (.list (l.map S4.D))] Q := ⟨(n, l), rfl, h, fun a ha => hq a ha.1 ha.2⟩
end T
end DL
namespace DL
namespace T
open PySem L2 PySem.Spec PyProof.Rows
local macro_rules
  | `(tactic| get_elem_tactic_extensible) => `(tactic| (repeat (first | with_reducible refine Go.lc_go ?_ | with_reducible refine Go.ln_go ?_ | ((with_reducible apply Go.v_sh); exact rfl) | ((with_reducible apply Go.n_sh); exact rfl) | ((with_reducible apply Go.n_ow); exact rfl) | ((with_reducible apply Go.ab_go); exact rfl) | ((with_reducible apply Go.app_go); exact rfl) | ((with_reducible apply Go.ext_go); exact rfl) | with_reducible refine Go.c_go ?_ | with_reducible refine Go.tup_go ?_ | with_reducible refine Go.nv_go ?_ | with_reducible refine Go.bin_go ?_ | with_reducible refine Go.slT_go ?_ | with_reducible refine Go.slL_go ?_ | with_reducible refine Go.on_go ?_ | with_reducible refine Go.os_go ?_ | with_reducible refine Go.neg_go ?_ | with_reducible refine Go.sub_go ?_ | with_reducible refine Go.addI_go ?_ | with_reducible refine Go.seqT_go ?_ | with_reducible refine Go.call_go ?_ | with_reducible refine Go.callK_go ?_ | with_reducible refine Go.cb_go ?_ | with_reducible refine Go.dict1_go ?_ | with_reducible refine Go.if_go ?_ | with_reducible refine Go.an_go ?_ | with_reducible refine Go.ac_go ?_ | with_reducible refine Go.mv_go ?_ | with_reducible refine Go.par_go ?_ | with_reducible refine Go.sq_go ?_ | with_reducible refine Go.set_go ?_ | with_reducible refine Go.setN_go ?_ | with_reducible refine Go.ret_go ?_ | with_reducible refine Go.asg_go ?_ | with_reducible refine Go.ifs_go ?_ | with_reducible refine Go.next_go ?_ | with_reducible refine Go.nm_go ?_ | with_reducible refine Go.cmp_go ?_ | with_reducible refine Go.tv_go ?_ | with_reducible refine Go.not_go ?_ | with_reducible refine Go.and_go ?_ | with_reducible refine Go.or_go ?_ | with_reducible refine Go.lenT_go ?_ | with_reducible refine Go.lenL_go ?_ | with_reducible refine Go.absI_go ?_ | with_reducible refine Go.intI_go ?_ | with_reducible refine Go.max2_go ?_ | with_reducible refine Go.min2_go ?_ | with_reducible refine Go.tupL_go ?_ | with_reducible refine Go.tupT_go ?_ | with_reducible refine Go.gv_go ?_ | with_reducible refine Go.ltI_go ?_ | with_reducible refine Go.leI_go ?_ | with_reducible refine Go.gtI_go ?_ | with_reducible refine Go.geI_go ?_ | with_reducible refine Go.eqI_go ?_ | with_reducible refine Go.neI_go ?_ | with_reducible refine Go.eqS_go ?_ | with_reducible refine Go.rng1_go ?_ | ((first | with_reducible apply Go.ixL_go | with_reducible apply Go.ixT_go); first | exact DL.at0 _ _ | exact DL.at1 _ _ _ | exact DL.at2 _ _ _ _ | exact DL.at3 _ _ _ _ _ | exact DL.at4 _ _ _ _ _ _) | ((with_reducible apply Go.frz_go); exact rfl) | ((with_reducible apply Go.frz_sh); exact rfl) | with_reducible refine Go.mn_go ?_ | with_reducible refine Go.andV_go ?_ | ((first | with_reducible apply Go.sqT_go | with_reducible apply Go.sqL_go); exact rfl) | with_reducible refine Go.gsC_go ?_ | with_reducible refine Go.gsN_go ?_ | with_reducible refine Go.ifT (by decide +kernel) ?_ | with_reducible refine Go.ifF (by decide +kernel) ?_ | with_reducible refine Go.cat_go ?_ | with_reducible refine Go.callO_go ?_ | ((with_reducible apply Go.retO_go); exact rfl) | with_reducible refine Go.retN_go ?_ | with_reducible refine Go.ifN_go ?_ | with_reducible refine Go.yes_go ?_ | with_reducible refine Go.isI_go ?_ | with_reducible refine Go.isB_go ?_ | with_reducible refine Go.isN_go ?_ | with_reducible refine Go.notN_go ?_ | with_reducible refine Go.lrev_go ?_ | with_reducible refine Go.bk_go ?_ | with_reducible refine Go.ct_go ?_ | with_reducible refine Go.rng2_go ?_ | with_reducible refine Go.orV_go ?_ | with_reducible refine Go.notV_go ?_ | ((with_reducible apply Go.extT_go); exact rfl) | with_reducible refine Go.isI2_go ?_ | with_reducible refine Go.dict2_go ?_ | with_reducible refine Go.callE_go ?_ | with_reducible refine Go.callEK_go ?_ | ((with_reducible apply Go.callX_go); exact rfl) | with_reducible refine Go.raise0_go ?_ | with_reducible refine Go.raise1_go ?_ | ((with_reducible apply Go.is1_go); exact rfl) | ((with_reducible apply Go.isT_go); exact rfl) | ((with_reducible apply Go.fld_go); exact rfl) | ((with_reducible apply Go.setIx_go); exact rfl) | unfold fForS | unfold fLc | dsimp only [seqOf, List.set_cons_zero, List.set_cons_succ, setAll, wipeE])))
theorem mx_n {n : Int} {s t : S4} (hn : SF n) (hs : Fl n s) (ht : Fl n t) (h : s.b ≠ 0 ∨ t.b ≠ 0) : mx s.d t.d = n := by
  have := hn.1
  unfold mx
  rcases hs with ⟨h1, h3⟩ | ⟨h1, h3⟩ <;> rcases ht with ⟨h2, h4⟩ | ⟨h2, h4⟩ <;> rw [h1, h2] <;> split <;> omega
theorem fl_sum {n : Int} {s t : S4} (hn : SF n) (hs : Fl n s) (ht : Fl n t) (h : 0 < s.c) (k : 0 < t.c) : Fl n (sumS s t) := by
  refine nrm_fl (Int.mul_pos h k) fun z => mx_n hn hs ht ?_
  by_cases a : s.b = 0
  · refine .inr fun b => z ?_
    rw [a, b, Int.zero_mul, Int.zero_mul]; rfl
  · exact .inl a
theorem fl_mul {n : Int} {s t : S4} (hn : SF n) (hs : Fl n s) (ht : Fl n t) (h : 0 < s.c) (k : 0 < t.c) : Fl n (mulS s t) := by
  refine nrm_fl (Int.mul_pos h k) fun z => mx_n hn hs ht ?_
  by_cases a : s.b = 0
  · refine .inr fun b => z ?_
    rw [a, b, Int.zero_mul, Int.mul_zero]; rfl
  · exact .inl a
theorem fl_back {n : Int} {s : S4} (hn : SF n) (hs : Fl n s) (h : 0 < s.c) (nz : ¬ (s.a = 0 ∧ s.b = 0)) : Fl n (backS s) := by
  refine nrmZ_fl (back_ok hn hs nz) fun z => ?_
  rcases hs with ⟨h1, h2⟩ | ⟨h1, h2⟩
  · exact absurd (by rw [h2, Int.mul_zero]) z
  · exact h1
theorem bd_back {m : Nat} {n : Int} {s : S4} (hn : SF n) (hs : Fl n s) (h : Bd m s) (nz : ¬ (s.a = 0 ∧ s.b = 0)) : Bd (2 * m + 21) (backS s) :=
  nrmZ_bd ((h.c.mul h.a).le (by omega)) ((h.c.neg.mul h.b).le (by omega)) ((((h.a.mul h.a).le (l := 2 * m + 20) (by omega)).sub (((h.b.mul h.b).mul h.d).le (by omega))).le (by omega)) (back_ok hn hs nz) h.d0 h.d
theorem nrm_one {x d : Int} (h : 0 < x) : nrm x 0 x d = ⟨1, 0, 1, 0⟩ := by
  have e : g3 x 0 x = x := by
    unfold g3
    rw [Int.gcd_zero_right]
    have : Int.gcd ((x.natAbs : Nat) : Int) x = x.natAbs := by
      show Nat.gcd (((x.natAbs : Nat) : Int).natAbs) x.natAbs = x.natAbs
      rw [Int.natAbs_natCast, Nat.gcd_self]
    rw [this]
    omega
  unfold nrm
  rw [e, Int.ediv_self (by omega), Int.zero_ediv]
  simp
theorem g3_dvd1 (a b c : Int) : g3 a b c ∣ a := by
  unfold g3
  exact Int.dvd_trans (Int.gcd_dvd_left ..) (Int.gcd_dvd_left ..)
theorem g3_dvd2 (a b c : Int) : g3 a b c ∣ b := by
  unfold g3
  exact Int.dvd_trans (Int.gcd_dvd_left ..) (Int.gcd_dvd_right ..)
theorem inv_core {a b c d A B C : Int} (hC : 0 < C) (e1 : a * A + b * B * d = c * C) (e2 : a * B + b * A = 0) :
    a * (A / g3 A B C) + b * (B / g3 A B C) * d = c * (C / g3 A B C) ∧ a * (B / g3 A B C) + b * (A / g3 A B C) = 0 := by
  have g0 := g3_pos (a := A) (b := B) hC
  obtain ⟨x, ex⟩ := g3_dvd1 A B C
  obtain ⟨y, ey⟩ := g3_dvd2 A B C
  obtain ⟨z, ez⟩ := g3_dvd A B C
  generalize g3 A B C = g at *
  have dx : A / g = x := Int.ediv_eq_of_eq_mul_right (by omega) ex
  have dy : B / g = y := Int.ediv_eq_of_eq_mul_right (by omega) ey
  have dz : C / g = z := Int.ediv_eq_of_eq_mul_right (by omega) ez
  rw [dx, dy, dz]
  subst ex ey ez
  constructor
  · refine Int.eq_of_mul_eq_mul_left (a := g) (by omega) ?_
    have : a * (g * x) + b * (g * y) * d = g * (a * x + b * y * d) := by
      rw [Int.mul_add]
      congr 1
      · rw [Int.mul_left_comm]
      · rw [Int.mul_left_comm b g y, Int.mul_assoc g]
    rw [← this, e1, Int.mul_left_comm]
  · refine Int.eq_of_mul_eq_mul_left (a := g) (by omega) ?_
    rw [Int.mul_zero, ← e2, Int.mul_add, Int.mul_left_comm, Int.mul_left_comm g b x]
theorem inv_mul {n : Int} {s : S4} (hn : SF n) (hf : Fl n s) (hc : 0 < s.c) (nz : ¬ (s.a = 0 ∧ s.b = 0)) : mulS s (backS s) = ⟨1, 0, 1, 0⟩ := by
  have hN := back_ok hn hf nz
  -- with the sign that the divisor asks for
  have core : ∀ A B C : Int, 0 < C → s.a * A + s.b * B * s.d = s.c * C → s.a * B + s.b * A = 0 → (B = 0 ↔ s.b = 0) → mulS s (nrm A B C s.d) = ⟨1, 0, 1, 0⟩ := by
    intro A B C hC e1 e2 eb
    obtain ⟨f1, f2⟩ := inv_core hC e1 e2
    have hD : s.b * (B / g3 A B C) * mx s.d (if B ≠ 0 then s.d else 0) = s.b * (B / g3 A B C) * s.d := by
      by_cases z : s.b = 0
      · rw [z, Int.zero_mul, Int.zero_mul, Int.zero_mul]
      · have hB : B ≠ 0 := fun y => z (eb.mp y)
        rw [if_pos hB]
        congr 1
        unfold mx
        rw [if_neg (by omega)]
    have h0 : 0 < C / g3 A B C := nrm_c hC
    show nrm (s.a * (A / g3 A B C) + s.b * (B / g3 A B C) * mx s.d (if B ≠ 0 then s.d else 0)) (s.a * (B / g3 A B C) + s.b * (A / g3 A B C)) (s.c * (C / g3 A B C)) (mx s.d (if B ≠ 0 then s.d else 0)) = _
    rw [hD, f1, f2]
    exact nrm_one (Int.mul_pos hc h0)
  have x1 : s.a * (s.c * s.a) + s.b * (-s.c * s.b) * s.d = s.c * (s.a * s.a - s.b * s.b * s.d) := by
    rw [Int.mul_sub, Int.sub_eq_add_neg, Int.mul_left_comm]
    congr 1
    rw [Int.neg_mul, Int.mul_neg, Int.neg_mul, Int.mul_left_comm s.b s.c s.b, Int.mul_assoc]
  have x2 : s.a * (-s.c * s.b) + s.b * (s.c * s.a) = 0 := by
    have : s.a * (-s.c * s.b) = -(s.b * (s.c * s.a)) := by
      rw [Int.neg_mul, Int.mul_neg]
      congr 1
      rw [Int.mul_left_comm, Int.mul_comm s.a s.b, Int.mul_left_comm]
    omega
  have zb : (-s.c * s.b = 0 ↔ s.b = 0) := by
    constructor
    · intro z
      rcases Int.mul_eq_zero.mp z with y | y
      · omega
      · exact y
    · intro z; rw [z, Int.mul_zero]
  unfold backS nrmZ
  split
  · rename_i neg
    refine core _ _ _ (by omega) ?_ ?_ ?_
    · rw [Int.mul_neg, Int.mul_neg, Int.neg_mul, Int.mul_neg]
      omega
    · rw [Int.mul_neg, Int.mul_neg]
      omega
    · constructor
      · intro z; exact zb.mp (by omega)
      · intro z; have := zb.mpr z; omega
  · exact core _ _ _ (by omega) x1 x2 zb
/-- sizes, by the turns that are left -/
def szw : Nat → Nat
  | 0 => 1963 | 1 => 971 | 2 => 475 | 3 => 227 | 4 => 103 | _ => 41
theorem szw_ok : ∀ r : Nat, r < 5 → 2 * szw (r + 1) + 21 ≤ szw r ∧ szw r ≤ 1963 ∧ szw (r + 1) ≤ 1963 ∧ 41 ≤ szw (r + 1) := by decide
theorem go_likeV {q : Ask} {Q : D → Prop} (h : q.ok) (hq : Q (.bool true)) : S__law_like [.sh q.val, .sh q.val] Q := go_like (val_ok h).1 (val_ok h).2 hq
theorem inT_go {w : Str} {ds : List D} {J : Bool → Prop} {b : Bool} (h1 : SeqAt.shaped (.str w) = true) (h2 : SeqAt.shaped (.tuple ds) = true) (e : (ds.any fun z => PyData.eqv z (.str w)) = b) (h : J b) : gInT (.str w) (.tuple ds) J := ⟨h1, h2, by rw [e]; exact h⟩
theorem r__law_is_walk_right : ∀ ss (Q : D → Prop), S__law_is_walk_right ss Q → g__law_is_walk_right (endsOf Q) (initE N__law_is_walk_right ss) := by
  rintro ss Q ⟨⟨n, l⟩, rfl, ⟨hn, hne, hlen, hl⟩, hq⟩
  have hn : SF n := hn
  have hne : l ≠ [] := hne
  have hlen : l.length ≤ 10 := hlen
  have hl : ∀ s ∈ l, Bd 41 s ∧ Fl n s := hl
  have hq : Q (.bool true) := hq
  have pick : ∀ {J : D → Prop}, (∀ s, Bd 41 s → Fl n s → J s.D) → S__law_pick [.bg, .sh (.list (l.map S4.D))] J := fun {J} h => go_pick (fun z => hne (List.map_eq_nil_iff.mp z)) (by rw [List.length_map]; omega) fun d hd => by
    obtain ⟨s, hs, rfl⟩ := List.mem_map.mp hd
    exact h s (hl s hs).1 (hl s hs).2
  simp only [N__law_is_walk_right, arL, initE, List.length_cons, List.length_nil, Nat.reduceAdd, Nat.reduceSub, List.replicate, List.cons_append, List.nil_append, List.append_nil]
  unfold g__law_is_walk_right
  get_elem_tactic_extensible
  refine pick fun s0 b0 f0 => ?_
  get_elem_tactic_extensible
  unfold q__law_is_walk_right_13
  get_elem_tactic_extensible
  refine ⟨by decide, by decide, ?_⟩
  refine for_of (fun ds ρ => ∃ (s : S4) (s3 s4 s5 s6 s7 : Sl), ρ = [.bg, .sh (.list (l.map S4.D)), .sh s.D, s3, s4, s5, s6, s7, .un] ∧ ds.length ≤ 5 ∧ Bd (szw ds.length) s ∧ Fl n s ∧ ∀ d ∈ ds, ∃ i : Int, d = .int i) ?_ ?_ _ _ ⟨s0, .un, .un, .un, .un, .un, rfl, by rw [rng_len]; decide, by rw [rng_len]; exact b0, f0, fun d hd => ?_⟩
  · rintro d ds ρ ⟨s, s3, s4, s5, s6, s7, rfl, hk, hb, hf, hi⟩ K hK
    obtain ⟨i, rfl⟩ := hi d List.mem_cons_self
    have hi : ∀ d ∈ ds, ∃ i : Int, d = .int i := fun x hx => hi x (List.mem_cons_of_mem _ hx)
    rw [List.length_cons] at hk hb
    obtain ⟨z1, z2, z3, z4⟩ := szw_ok ds.length (by omega)
    have bs : ∀ m, 2 * szw (ds.length + 1) + 21 ≤ m → szw (ds.length + 1) ≤ m := fun m h => by omega
    -- what comes behind an ask q that leads to s'
    have step : ∀ (q : Ask) (s' : S4) (s4 s5 : Sl), q.ok → (q.val = told s'.D ∨ (q.val = refD "Unfit" ∧ s' = s)) → Bd (szw ds.length) s' → Fl n s' → s4 = .sh (.str q.word) → s5 = .sh q.row →
        q__law_is_walk_right_3 (loopE K { nx := q__law_is_walk_right_12 (endsOf Q), rt := (endsOf Q).rt, bk := (endsOf Q).bk, ct := (endsOf Q).ct, ro := (endsOf Q).ro }) [.bg, .sh (.list (l.map S4.D)), .sh s.D, iS i, s4, s5, s6, s7, .un] := by
      rintro q s' s4 s5 ok hv hb' hf' rfl rfl
      unfold q__law_is_walk_right_3
      get_elem_tactic_extensible
      refine go_due q ok ?_
      unfold q__law_is_walk_right_2
      get_elem_tactic_extensible
      refine go_told q _ ok ?_
      unfold q__law_is_walk_right_1
      get_elem_tactic_extensible
      refine go_likeV ok ?_
      rcases hv with hv | ⟨hv, rfl⟩
      · rw [hv]
        unfold told
        get_elem_tactic_extensible
        unfold q__law_is_walk_right_0
        get_elem_tactic_extensible
        exact hK _ ⟨s', _, _, _, _, _, rfl, by omega, hb', hf', hi⟩
      · rw [hv]
        unfold refD
        get_elem_tactic_extensible
        unfold q__law_is_walk_right_0
        get_elem_tactic_extensible
        exact hK _ ⟨s', _, _, _, _, _, rfl, by omega, hb', hf', hi⟩
    have h4 : Bd 4000 s := hb.le (by omega)
    have h2 : Bd 2000 s := hb.le (by omega)
    have ok2s : ∀ t, Bd 41 t → Fl n t → ok2 s t := fun t bt ft => ⟨h4, bt.le (by decide), n, hn, hf, ft⟩
    unfold q__law_is_walk_right_6
    get_elem_tactic_extensible
    refine go_pick (by simp) (by simp) fun w hw => ?_
    simp only [List.mem_cons, List.not_mem_nil, or_false] at hw
    have isum : ∀ {J : Bool → Prop}, J true → gInT (.str "sum") (.tuple [.str "sum", .str "times"]) J := fun h => inT_go (by decide +kernel) (by decide +kernel) (by decide +kernel) h
    have itim : ∀ {J : Bool → Prop}, J true → gInT (.str "times") (.tuple [.str "sum", .str "times"]) J := fun h => inT_go (by decide +kernel) (by decide +kernel) (by decide +kernel) h
    have ibck : ∀ {J : Bool → Prop}, J false → gInT (.str "back") (.tuple [.str "sum", .str "times"]) J := fun h => inT_go (by decide +kernel) (by decide +kernel) (by decide +kernel) h
    have itur : ∀ {J : Bool → Prop}, J false → gInT (.str "turned") (.tuple [.str "sum", .str "times"]) J := fun h => inT_go (by decide +kernel) (by decide +kernel) (by decide +kernel) h
    have ioth : ∀ {J : Bool → Prop}, J false → gInT (.str "other") (.tuple [.str "sum", .str "times"]) J := fun h => inT_go (by decide +kernel) (by decide +kernel) (by decide +kernel) h
    have isqu : ∀ {J : Bool → Prop}, J false → gInT (.str "square") (.tuple [.str "sum", .str "times"]) J := fun h => inT_go (by decide +kernel) (by decide +kernel) (by decide +kernel) h
    have times : ∀ (s4 s5 : Sl), s4 = .sh (.str "times") → (∃ t, Bd (szw (ds.length + 1)) t ∧ Fl n t ∧ s5 = .sh (.list [s.D, t.D])) → q__law_is_walk_right_3 (loopE K { nx := q__law_is_walk_right_12 (endsOf Q), rt := (endsOf Q).rt, bk := (endsOf Q).bk, ct := (endsOf Q).ct, ro := (endsOf Q).ro }) [.bg, .sh (.list (l.map S4.D)), .sh s.D, iS i, s4, s5, s6, s7, .un] := by
      rintro _ _ rfl ⟨t, bt, ft, rfl⟩
      have o : ok2 s t := ⟨h4, bt.le (by omega), n, hn, hf, ft⟩
      exact step (.times s t) (mulS s t) _ _ o (.inl rfl) ((hb.mul bt).le z1) (fl_mul hn hf ft hb.c0 bt.c0) rfl rfl
    rcases hw with rfl | rfl | rfl | rfl | rfl | rfl | rfl
    · get_elem_tactic_extensible
      unfold q__law_is_walk_right_5
      get_elem_tactic_extensible
      refine isum ?_
      get_elem_tactic_extensible
      refine pick fun t bt ft => ?_
      get_elem_tactic_extensible
      unfold q__law_is_walk_right_4
      get_elem_tactic_extensible
      exact step (.sum s t) (sumS s t) _ _ (ok2s t bt ft) (.inl rfl) ((hb.sum (bt.le z4)).le (by omega)) (fl_sum hn hf ft hb.c0 bt.c0) rfl rfl
    · get_elem_tactic_extensible
      unfold q__law_is_walk_right_5
      get_elem_tactic_extensible
      refine itim ?_
      get_elem_tactic_extensible
      refine pick fun t bt ft => ?_
      get_elem_tactic_extensible
      unfold q__law_is_walk_right_4
      get_elem_tactic_extensible
      exact times _ _ rfl ⟨t, bt.le z4, ft, rfl⟩
    · get_elem_tactic_extensible
      unfold q__law_is_walk_right_5
      get_elem_tactic_extensible
      refine itim ?_
      get_elem_tactic_extensible
      refine pick fun t bt ft => ?_
      get_elem_tactic_extensible
      unfold q__law_is_walk_right_4
      get_elem_tactic_extensible
      exact times _ _ rfl ⟨t, bt.le z4, ft, rfl⟩
    · get_elem_tactic_extensible
      unfold q__law_is_walk_right_5
      get_elem_tactic_extensible
      refine ibck ?_
      get_elem_tactic_extensible
      unfold q__law_is_walk_right_4
      get_elem_tactic_extensible
      have o : okBack s := ⟨h2, n, hn, hf⟩
      by_cases nz : s.a = 0 ∧ s.b = 0
      · exact step (.back s) s _ _ o (.inr ⟨if_pos nz, rfl⟩) (hb.le (by omega)) hf rfl rfl
      · exact step (.back s) (backS s) _ _ o (.inl (if_neg nz)) ((bd_back hn hf hb nz).le z1) (fl_back hn hf hb.c0 nz) rfl rfl
    · get_elem_tactic_extensible
      unfold q__law_is_walk_right_5
      get_elem_tactic_extensible
      refine itur ?_
      get_elem_tactic_extensible
      unfold q__law_is_walk_right_4
      get_elem_tactic_extensible
      exact step (.turned s) (negS s) _ _ h4 (.inl rfl) (hb.neg.le (by omega)) (fl_neg hf) rfl rfl
    · get_elem_tactic_extensible
      unfold q__law_is_walk_right_5
      get_elem_tactic_extensible
      refine ioth ?_
      get_elem_tactic_extensible
      unfold q__law_is_walk_right_4
      get_elem_tactic_extensible
      exact step (.other s) (othS s) _ _ h4 (.inl rfl) ((bd_oth hb).le (by omega)) (fl_oth hf) rfl rfl
    · get_elem_tactic_extensible
      unfold q__law_is_walk_right_5
      get_elem_tactic_extensible
      refine isqu ?_
      get_elem_tactic_extensible
      unfold q__law_is_walk_right_4
      get_elem_tactic_extensible
      exact ⟨rfl, times _ _ rfl ⟨s, hb, hf, rfl⟩⟩
  · rintro ρ ⟨s, s3, s4, s5, s6, s7, rfl, _, hb, hf, _⟩
    have hb : Bd 1963 s := hb
    dsimp only
    unfold q__law_is_walk_right_12
    have hv : Vd s.D := (Sw.s4 hb (by decide) (by decide)).le (by omega) (by omega)
    get_elem_tactic_extensible
    refine go_due (.error s.D) hv ?_
    unfold q__law_is_walk_right_11
    get_elem_tactic_extensible
    refine go_told (.error s.D) false hv ?_
    get_elem_tactic_extensible
    refine go_likeV (q := .error s.D) hv ?_
    get_elem_tactic_extensible
    unfold q__law_is_walk_right_10
    rw [D4 s]
    get_elem_tactic_extensible
    have tail : ¬ (s.a = 0 ∧ s.b = 0) → ∀ s6, q__law_is_walk_right_9 (endsOf Q) [.bg, .sh (.list (l.map S4.D)), .sh (.tuple [.int s.a, .int s.b, .int s.c, .int s.d]), s3, s4, s5, s6, s7, .un] := fun nz s6 => by
      have o : okBack s := ⟨hb.le (by decide), n, hn, hf⟩
      have hval : (Ask.back s).val = told (backS s).D := if_neg nz
      unfold q__law_is_walk_right_9
      get_elem_tactic_extensible
      refine go_told (.back s) false o ?_
      unfold q__law_is_walk_right_8
      get_elem_tactic_extensible
      refine go_due (.back s) o ?_
      get_elem_tactic_extensible
      refine go_likeV (q := .back s) o ?_
      rw [hval]
      unfold told
      get_elem_tactic_extensible
      unfold q__law_is_walk_right_7
      get_elem_tactic_extensible
      have o2 : ok2 s (backS s) := ⟨hb.le (by decide), (bd_back hn hf hb nz).le (by decide), n, hn, hf, fl_back hn hf hb.c0 nz⟩
      refine go_told (.times s (backS s)) true o2 ?_
      get_elem_tactic_extensible
      have e : (Ask.times s (backS s)).val = told (S4.D ⟨1, 0, 1, 0⟩) := by
        show told (mulS s (backS s)).D = _
        rw [inv_mul hn hf hb.c0 nz]
      have ok := val_ok (q := .times s (backS s)) o2
      rw [e] at ok ⊢
      exact go_like ok.1 ok.2 hq
    refine Go.ifd (fun ea => ?_) (fun ea => ?_)
    · refine Go.ifd (fun eb => ?_) (fun eb => ?_)
      · get_elem_tactic_extensible
        exact hq
      · exact tail (fun z => eb z.2) _
    · exact tail (fun z => ea z.1) _
  · obtain ⟨i, hi⟩ := List.getElem?_of_mem hd
    exact ⟨_, (rng_get hi).2⟩
theorem go_walk {n : Int} {l : List S4} {Q : D → Prop} (h : Some n l) (hq : Q (.bool true)) : S__law_is_walk_right [.bg, .sh (.list (l.map S4.D))] Q := ⟨(n, l), rfl, h, hq⟩
end T
end DL
namespace DL
namespace T
open PySem L2 PySem.Spec PyProof.Rows
local macro_rules
  | `(tactic| get_elem_tactic_extensible) => `(tactic| (repeat (first | with_reducible refine Go.lc_go ?_ | with_reducible refine Go.ln_go ?_ | ((with_reducible apply Go.v_sh); exact rfl) | ((with_reducible apply Go.n_sh); exact rfl) | ((with_reducible apply Go.n_ow); exact rfl) | ((with_reducible apply Go.ab_go); exact rfl) | ((with_reducible apply Go.app_go); exact rfl) | ((with_reducible apply Go.ext_go); exact rfl) | with_reducible refine Go.c_go ?_ | with_reducible refine Go.tup_go ?_ | with_reducible refine Go.nv_go ?_ | with_reducible refine Go.bin_go ?_ | with_reducible refine Go.slT_go ?_ | with_reducible refine Go.slL_go ?_ | with_reducible refine Go.on_go ?_ | with_reducible refine Go.os_go ?_ | with_reducible refine Go.neg_go ?_ | with_reducible refine Go.sub_go ?_ | with_reducible refine Go.addI_go ?_ | with_reducible refine Go.seqT_go ?_ | with_reducible refine Go.call_go ?_ | with_reducible refine Go.callK_go ?_ | with_reducible refine Go.cb_go ?_ | with_reducible refine Go.dict1_go ?_ | with_reducible refine Go.if_go ?_ | with_reducible refine Go.an_go ?_ | with_reducible refine Go.ac_go ?_ | with_reducible refine Go.mv_go ?_ | with_reducible refine Go.par_go ?_ | with_reducible refine Go.sq_go ?_ | with_reducible refine Go.set_go ?_ | with_reducible refine Go.setN_go ?_ | with_reducible refine Go.ret_go ?_ | with_reducible refine Go.asg_go ?_ | with_reducible refine Go.ifs_go ?_ | with_reducible refine Go.next_go ?_ | with_reducible refine Go.nm_go ?_ | with_reducible refine Go.cmp_go ?_ | with_reducible refine Go.tv_go ?_ | with_reducible refine Go.not_go ?_ | with_reducible refine Go.and_go ?_ | with_reducible refine Go.or_go ?_ | with_reducible refine Go.lenT_go ?_ | with_reducible refine Go.lenL_go ?_ | with_reducible refine Go.absI_go ?_ | with_reducible refine Go.intI_go ?_ | with_reducible refine Go.max2_go ?_ | with_reducible refine Go.min2_go ?_ | with_reducible refine Go.tupL_go ?_ | with_reducible refine Go.tupT_go ?_ | with_reducible refine Go.gv_go ?_ | with_reducible refine Go.ltI_go ?_ | with_reducible refine Go.leI_go ?_ | with_reducible refine Go.gtI_go ?_ | with_reducible refine Go.geI_go ?_ | with_reducible refine Go.eqI_go ?_ | with_reducible refine Go.neI_go ?_ | with_reducible refine Go.eqS_go ?_ | with_reducible refine Go.rng1_go ?_ | ((first | with_reducible apply Go.ixL_go | with_reducible apply Go.ixT_go); first | exact DL.at0 _ _ | exact DL.at1 _ _ _ | exact DL.at2 _ _ _ _ | exact DL.at3 _ _ _ _ _ | exact DL.at4 _ _ _ _ _ _) | ((with_reducible apply Go.frz_go); exact rfl) | ((with_reducible apply Go.frz_sh); exact rfl) | with_reducible refine Go.mn_go ?_ | with_reducible refine Go.andV_go ?_ | ((first | with_reducible apply Go.sqT_go | with_reducible apply Go.sqL_go); exact rfl) | with_reducible refine Go.gsC_go ?_ | with_reducible refine Go.gsN_go ?_ | with_reducible refine Go.ifT (by decide +kernel) ?_ | with_reducible refine Go.ifF (by decide +kernel) ?_ | with_reducible refine Go.cat_go ?_ | with_reducible refine Go.callO_go ?_ | ((with_reducible apply Go.retO_go); exact rfl) | with_reducible refine Go.retN_go ?_ | with_reducible refine Go.ifN_go ?_ | with_reducible refine Go.yes_go ?_ | with_reducible refine Go.isI_go ?_ | with_reducible refine Go.isB_go ?_ | with_reducible refine Go.isN_go ?_ | with_reducible refine Go.notN_go ?_ | with_reducible refine Go.lrev_go ?_ | with_reducible refine Go.bk_go ?_ | with_reducible refine Go.ct_go ?_ | with_reducible refine Go.rng2_go ?_ | with_reducible refine Go.orV_go ?_ | with_reducible refine Go.notV_go ?_ | ((with_reducible apply Go.extT_go); exact rfl) | with_reducible refine Go.isI2_go ?_ | with_reducible refine Go.dict2_go ?_ | with_reducible refine Go.callE_go ?_ | with_reducible refine Go.callEK_go ?_ | ((with_reducible apply Go.callX_go); exact rfl) | with_reducible refine Go.raise0_go ?_ | with_reducible refine Go.raise1_go ?_ | ((with_reducible apply Go.is1_go); exact rfl) | ((with_reducible apply Go.isT_go); exact rfl) | ((with_reducible apply Go.fld_go); exact rfl) | ((with_reducible apply Go.setIx_go); exact rfl) | unfold fForS | unfold fLc | dsimp only [seqOf, List.set_cons_zero, List.set_cons_succ, setAll, wipeE])))
theorem go_handed {n : Int} {Q : D → Prop} (hn : SF n) (hq : ∀ s : S4, Bd 41 s → Fl n s → Q s.D) : S__law_handed [.bg, iS n] Q := ⟨n, rfl, hn, fun s hs => hq s hs.1 hs.2⟩
theorem asks_at {l : List Ask} {i : Nat} (h : i < l.length) : atI (l.map Ask.D) ((i : Nat) : Int) = some (l[i].D) := atI_nat (by rw [List.getElem?_map, List.getElem?_eq_getElem h]; rfl)
theorem dues_at {l : List Ask} {i : Nat} (h : i < l.length) : atI (l.map Ask.val) ((i : Nat) : Int) = some (l[i].val) := atI_nat (by rw [List.getElem?_map, List.getElem?_eq_getElem h]; rfl)
/-- places below n -/
def Places (n : Nat) (ds : List D) : Prop := ∀ d ∈ ds, ∃ i : Nat, d = .int (i : Int) ∧ i < n
theorem places_rng {n : Nat} {j : Int} (h : j = (n : Int)) : Places n (rng 0 j.toNat) := fun d hd => by
  obtain ⟨i, hi⟩ := List.getElem?_of_mem hd
  obtain ⟨h1, h2⟩ := rng_get hi
  exact ⟨i, by rw [h2, Int.zero_add], by omega⟩
theorem ask_sw {q : Ask} (h : q.ok) : Sw 12 32200 q.D := by
  have s4 : ∀ {s : S4}, Bd 4000 s → Sw 1 16015 s.D := fun h => (Sw.s4 h (by decide) (by decide)).le (by omega) (by omega)
  have one : ∀ {d : D}, Sw 8 20000 d → Sw 10 20010 (.list [d]) := fun h => (Sw.list (SwA.cons h (SwA.nil (w := 0)))).le (by omega) (by omega)
  have two : ∀ {d e : D}, Sw 1 16015 d → Sw 1 16015 e → Sw 10 32060 (.list [d, e]) := fun h k => (Sw.list (SwA.cons h (SwA.cons k (SwA.nil (w := 0))))).le (by omega) (by omega)
  have key : ∀ {w : Str} {row : D}, (PyData.shown (.str w)).length ≤ 20 → Sw 10 32060 row → Sw 12 32200 (.list [.str w, row]) := fun hw hr => (Sw.list (SwA.cons ((Sw.str hw).le (by omega) (Nat.le_refl _) : Sw 10 20 _) (SwA.cons hr (SwA.nil (w := 0))))).le (by omega) (by omega)
  cases q with
  | of s =>
    obtain ⟨h1, h2, h3, h4, h5, h6⟩ : okOf s := h
    refine key (by dsimp only [Ask.word]; decide +kernel) ?_
    have i : ∀ {i : Int}, Sm 60 i → Sw 1 61 (.int i) := fun h => (Sw.int h).le (by omega) (by omega)
    exact (Sw.list (SwA.cons (i h1) (SwA.cons (i h2) (SwA.cons (i h3) (SwA.cons (i ((sm20 h5 h6).le (by decide))) (SwA.nil (w := 0))))))).le (by omega) (by omega)
  | sum s t => exact key (by dsimp only [Ask.word]; decide +kernel) (two (s4 h.1) (s4 h.2.1))
  | times s t => exact key (by dsimp only [Ask.word]; decide +kernel) (two (s4 h.1) (s4 h.2.1))
  | turned s => exact key (by dsimp only [Ask.word]; decide +kernel) ((one ((s4 h).le (by omega) (by omega))).le (by omega) (by omega))
  | other s => exact key (by dsimp only [Ask.word]; decide +kernel) ((one ((s4 h).le (by omega) (by omega))).le (by omega) (by omega))
  | back s => exact key (by dsimp only [Ask.word]; decide +kernel) ((one ((s4 (h.1.le (by decide))).le (by omega) (by omega))).le (by omega) (by omega))
  | error d => exact key (by dsimp only [Ask.word]; decide +kernel) ((one h).le (by omega) (by omega))
theorem asks_repr {l : List Ask} (h : AllOk l) (hl : l.length ≤ 300) {J : D → Prop} (q : J (.str (PyData.shown (.list (l.map Ask.D))))) : bReprW [.list (l.map Ask.D)] J := by
  have n := Sw.list (SwA.all (ds := l.map Ask.D) (n := 12) (w := 32200) fun d hd => by
    obtain ⟨q, hq, rfl⟩ := List.mem_map.mp hd
    exact ask_sw (h q hq))
  refine ⟨n.sh, ?_, Nat.le_trans n.dp (by decide), q⟩
  have := n.wt
  rw [List.length_map] at this
  rw [sizeLine_eq]
  omega
theorem r_law : gLaw 10 g_law := by
  unfold gLaw
  simp only [List.replicate]
  unfold g_law
  get_elem_tactic_extensible
  refine go_square_free fun n hn => ?_
  get_elem_tactic_extensible
  unfold q_law_10
  get_elem_tactic_extensible
  refine ⟨by decide, by decide, by rw [rng_len]; decide, ?_⟩
  show lcRun _ _ _ _ [.int 0, .int 1, .int 2, .int 3] _
  unfold lcRun
  get_elem_tactic_extensible
  refine go_handed hn fun s1 b1 f1 => ?_
  unfold lcRun
  get_elem_tactic_extensible
  refine go_handed hn fun s2 b2 f2 => ?_
  unfold lcRun
  get_elem_tactic_extensible
  refine go_handed hn fun s3 b3 f3 => ?_
  unfold lcRun
  get_elem_tactic_extensible
  refine go_handed hn fun s4 b4 f4 => ?_
  unfold lcRun
  unfold q_law_9
  get_elem_tactic_extensible
  suffices tl : ∀ (l : List S4) (ds : List D) (E : En), ds = l.map S4.D → Some n l → E.rt = (fun d => d = .bool true) → q_law_8 E [.un, .bg, iS n, .ow ds, .un, .un, .un, .un, .un, .un, .un, .un] by
    refine go_draw (by decide) (by decide) fun x _ _ => ?_
    have all4 : ∀ s ∈ [s1, s2, s3, s4], Bd 41 s ∧ Fl n s := fun s hs => by
      simp only [List.mem_cons, List.not_mem_nil, or_false] at hs
      rcases hs with rfl | rfl | rfl | rfl
      · exact ⟨b1, f1⟩
      · exact ⟨b2, f2⟩
      · exact ⟨b3, f3⟩
      · exact ⟨b4, f4⟩
    get_elem_tactic_extensible
    refine Go.ifd (fun _ => ?_) (fun _ => ?_)
    · get_elem_tactic_extensible
      refine ⟨by unfold most; show 4 < _; decide, ?_⟩
      refine tl [s1, s2, s3, s4, ⟨0, 0, 1, 0⟩] _ _ rfl ⟨hn, by simp, by simp, fun s hs => ?_⟩ rfl
      have hs : s ∈ [s1, s2, s3, s4] ++ [⟨0, 0, 1, 0⟩] := hs
      rcases List.mem_append.mp hs with h | h
      · exact all4 s h
      · rw [List.mem_singleton.mp h]
        exact ⟨⟨sm0, sm0, (by unfold Sm; decide : Sm 41 (1 : Int)), (by decide : (0 : Int) < 1), (by decide : (0 : Int) ≤ 0), sm0⟩, .inl ⟨rfl, rfl⟩⟩
    · get_elem_tactic_extensible
      exact tl [s1, s2, s3, s4] _ _ rfl ⟨hn, by simp, by simp, all4⟩ rfl
  clear f1 f2 f3 f4 b1 b2 b3 b4 s1 s2 s3 s4
  rintro l _ E rfl hS hE
  unfold q_law_8
  get_elem_tactic_extensible
  refine go_asks hS fun a ha oa => ?_
  get_elem_tactic_extensible
  refine go_each_wrong hn hn.2.1 fun b hb ob => ?_
  get_elem_tactic_extensible
  refine Go.addL_go (by rw [List.length_map, List.length_map, sizeLine_eq]; omega) ?_
  rw [← List.map_append]
  have oL : AllOk (a ++ b) := oa.app ob
  have hL : (a ++ b).length ≤ 300 := by rw [List.length_append]; omega
  generalize a ++ b = L at oL hL
  unfold q_law_7
  get_elem_tactic_extensible
  refine ⟨by rw [List.length_map]; unfold most; omega, ?_⟩
  refine lc_map (f := Ask.D) (F := Ask.val) L (fun q hq K h => ?_) _ ?_
  · unfold Ask.D
    get_elem_tactic_extensible
    exact go_due q (oL q hq) h
  get_elem_tactic_extensible
  unfold q_law_6
  get_elem_tactic_extensible
  refine asks_repr oL hL ?_
  get_elem_tactic_extensible
  refine go_draw (by decide) (by decide) fun t t0 t1 => ?_
  get_elem_tactic_extensible
  refine ⟨rfl, ?_⟩
  generalize hkept : PyData.shown (.list (L.map Ask.D)) = kept
  have both : ∀ (body : SS), (body = q_law_0 ∨ body = q_law_2) → ∀ (E' : En) (ds : List D), Places L.length ds → ∀ s10 s11, (∀ s10, E'.nx [.un, .bg, iS n, .sh (.list (l.map S4.D)), iS t, .sh (.list (L.map Ask.D)), .ow (L.map Ask.val), .un, .un, .sh (.str kept), s10, s11]) →
      fFor (gNm 10) body ds E' [.un, .bg, iS n, .sh (.list (l.map S4.D)), iS t, .sh (.list (L.map Ask.D)), .ow (L.map Ask.val), .un, .un, .sh (.str kept), s10, s11] := by
    intro body hb E' ds hds s10 s11 hnx
    refine for_of (fun ds ρ => Places L.length ds ∧ ∃ s10, ρ = [.un, .bg, iS n, .sh (.list (l.map S4.D)), iS t, .sh (.list (L.map Ask.D)), .ow (L.map Ask.val), .un, .un, .sh (.str kept), s10, s11]) ?_ ?_ _ _ ⟨hds, s10, rfl⟩
    · rintro d ds ρ ⟨hp, s10, rfl⟩ K hK
      obtain ⟨i, rfl, hi⟩ := hp d List.mem_cons_self
      have hp' : Places L.length ds := fun z hz => hp z (List.mem_cons_of_mem _ hz)
      have ok := oL _ (List.getElem_mem hi)
      rcases hb with rfl | rfl
      · get_elem_tactic_extensible
        unfold q_law_0
        get_elem_tactic_extensible
        refine Go.ixL_go (asks_at hi) ?_
        unfold Ask.D
        get_elem_tactic_extensible
        refine Go.ixL_go (asks_at hi) ?_
        unfold Ask.D
        get_elem_tactic_extensible
        refine Go.modI_go (by decide) ?_
        get_elem_tactic_extensible
        refine go_told L[i] _ ok ?_
        get_elem_tactic_extensible
        refine Go.ixL_go (dues_at hi) ?_
        get_elem_tactic_extensible
        refine go_likeV ok ?_
        get_elem_tactic_extensible
        exact hK _ ⟨hp', _, rfl⟩
      · get_elem_tactic_extensible
        unfold q_law_2
        get_elem_tactic_extensible
        refine Go.ixL_go (asks_at hi) ?_
        unfold Ask.D
        get_elem_tactic_extensible
        refine Go.ixL_go (asks_at hi) ?_
        unfold Ask.D
        get_elem_tactic_extensible
        refine Go.modI_go (by decide) ?_
        get_elem_tactic_extensible
        refine go_told L[i] _ ok ?_
        get_elem_tactic_extensible
        refine Go.ixL_go (dues_at hi) ?_
        get_elem_tactic_extensible
        refine go_likeV ok ?_
        get_elem_tactic_extensible
        exact hK _ ⟨hp', _, rfl⟩
    · rintro ρ ⟨_, s10, rfl⟩
      exact hnx s10
  unfold q_law_5
  get_elem_tactic_extensible
  unfold fLRng1
  get_elem_tactic_extensible
  rw [List.length_map]
  refine ⟨.of_le (by omega) (by omega) (by omega) (by omega), ?_⟩
  refine both _ (.inl rfl) _ _ (places_rng (by omega)) _ _ fun s10 => ?_
  dsimp only
  unfold q_law_4
  get_elem_tactic_extensible
  refine ⟨by decide, by decide, ?_⟩
  refine for_of (fun ds ρ => ∃ s11, ρ = [.un, .bg, iS n, .sh (.list (l.map S4.D)), iS t, .sh (.list (L.map Ask.D)), .ow (L.map Ask.val), .un, .un, .sh (.str kept), s10, s11]) ?_ ?_ _ _ ⟨.un, rfl⟩
  · rintro d ds ρ ⟨s11, rfl⟩ K hK
    get_elem_tactic_extensible
    unfold q_law_1
    get_elem_tactic_extensible
    refine go_walk hS ?_
    get_elem_tactic_extensible
    exact hK _ ⟨_, rfl⟩
  rintro ρ ⟨s11, rfl⟩
  dsimp only
  unfold q_law_3
  get_elem_tactic_extensible
  unfold fLRng1
  get_elem_tactic_extensible
  rw [List.length_map]
  refine ⟨.of_le (by omega) (by omega) (by omega) (by omega), ?_⟩
  refine both _ (.inr rfl) _ _ (fun d hd => places_rng (by omega) d (List.mem_reverse.mp hd)) _ _ fun s10 => ?_
  dsimp only
  get_elem_tactic_extensible
  refine asks_repr oL hL ?_
  get_elem_tactic_extensible
  rw [hkept, decide_eq_true rfl, hE]
end T
end DL
namespace DL
namespace T
open PySem L2 PySem.Spec PyProof.Rows
def top (i : Nat) : Stmt := PySem.Challenge.pw_linecuts_k01_whole_surds.main.body.getD i (.Pass ⟨0, 0, 0, 0⟩)
abbrev s_is_integer : Stmt := top 12
abbrev s_is_tuple : Stmt := top 13
abbrev s_common : Stmt := top 14
abbrev s_whole_root : Stmt := top 15
abbrev s_root_parts : Stmt := top 17
abbrev s_lowest : Stmt := top 18
abbrev s_surd_of : Stmt := top 19
abbrev s_surd_error : Stmt := top 20
abbrev s_surd_sum : Stmt := top 21
abbrev s_surd_times : Stmt := top 22
abbrev s_surd_turned : Stmt := top 23
abbrev s_surd_back : Stmt := top 24
abbrev s_other_root : Stmt := top 25
abbrev s__law_own_bag : Stmt := top 27
abbrev s__law_draw : Stmt := top 28
abbrev s__law_pick : Stmt := top 29
abbrev s__law_great : Stmt := top 30
abbrev s__law_refused : Stmt := top 31
abbrev s__law_like : Stmt := top 32
abbrev s__law_common : Stmt := top 33
abbrev s__law_root_of : Stmt := top 34
abbrev s__law_parts : Stmt := top 35
abbrev s__law_surd : Stmt := top 36
abbrev s__law_square_free : Stmt := top 37
abbrev s__law_integer : Stmt := top 38
abbrev s__law_told : Stmt := top 39
abbrev s__law_own_of : Stmt := top 40
abbrev s__law_own_error : Stmt := top 41
abbrev s__law_due : Stmt := top 42
abbrev s__law_any_root : Stmt := top 43
abbrev s__law_handed : Stmt := top 44
abbrev s__law_bent : Stmt := top 45
abbrev s__law_value : Stmt := top 46
abbrev s__law_each_wrong : Stmt := top 47
abbrev s__law_asks : Stmt := top 48
abbrev s__law_is_walk_right : Stmt := top 49
abbrev s_law : Stmt := top 50
structure Bl (mg : Str → Option Value) : Prop where
  isinstance : mg "isinstance" = none
  bool : mg "bool" = none
  int : mg "int" = none
  len : mg "len" = none
  tuple : mg "tuple" = none
  range : mg "range" = none
  abs : mg "abs" = none
  all : mg "all" = none
  max : mg "max" = none
  list : mg "list" = none
  reversed : mg "reversed" = none
  ValueError : mg "ValueError" = none
  repr : mg "repr" = none
  any : mg "any" = none
  str : mg "str" = none
  c_MAX_ROOT : ∃ t, mg "MAX_ROOT" = some (.int 1000000 t)
  c_MAX_PART : ∃ t, mg "MAX_PART" = some (.int 1000000000000 t)
theorem m_is_integer : ∀ ss (Q Q' : D → Prop), (∀ d, Q d → Q' d) → S_is_integer ss Q → S_is_integer ss Q' := spE_mono
theorem l_is_integer : ∀ ss (Q : D → Prop), S_is_integer ss Q → ss.length = 1 := spE_len fun _ => rfl
theorem m_is_tuple : ∀ ss (Q Q' : D → Prop), (∀ d, Q d → Q' d) → S_is_tuple ss Q → S_is_tuple ss Q' := spE_mono
theorem l_is_tuple : ∀ ss (Q : D → Prop), S_is_tuple ss Q → ss.length = 2 := spE_len fun _ => rfl
theorem m_common : ∀ ss (Q Q' : D → Prop), (∀ d, Q d → Q' d) → S_common ss Q → S_common ss Q' := sp_mono
theorem l_common : ∀ ss (Q : D → Prop), S_common ss Q → ss.length = 2 := sp_len
theorem m_whole_root : ∀ ss (Q Q' : D → Prop), (∀ d, Q d → Q' d) → S_whole_root ss Q → S_whole_root ss Q' := sp_mono
theorem l_whole_root : ∀ ss (Q : D → Prop), S_whole_root ss Q → ss.length = 1 := sp_len
theorem m_surd_turned : ∀ ss (Q Q' : D → Prop), (∀ d, Q d → Q' d) → S_surd_turned ss Q → S_surd_turned ss Q' := spE_mono
theorem l_surd_turned : ∀ ss (Q : D → Prop), S_surd_turned ss Q → ss.length = 1 := spE_len fun _ => rfl
theorem m_other_root : ∀ ss (Q Q' : D → Prop), (∀ d, Q d → Q' d) → S_other_root ss Q → S_other_root ss Q' := spE_mono
theorem l_other_root : ∀ ss (Q : D → Prop), S_other_root ss Q → ss.length = 1 := spE_len fun _ => rfl
theorem m__law_own_bag : ∀ ss (Q Q' : D → Prop), (∀ d, Q d → Q' d) → S__law_own_bag ss Q → S__law_own_bag ss Q' := spOwn_mono
theorem l__law_own_bag : ∀ ss (Q : D → Prop), S__law_own_bag ss Q → ss.length = 1 := spOwn_len
theorem m__law_like : ∀ ss (Q Q' : D → Prop), (∀ d, Q d → Q' d) → S__law_like ss Q → S__law_like ss Q' := spE_mono
theorem l__law_like : ∀ ss (Q : D → Prop), S__law_like ss Q → ss.length = 2 := spE_len fun _ => rfl
theorem m__law_common : ∀ ss (Q Q' : D → Prop), (∀ d, Q d → Q' d) → S__law_common ss Q → S__law_common ss Q' := sp_mono
theorem l__law_common : ∀ ss (Q : D → Prop), S__law_common ss Q → ss.length = 2 := sp_len
theorem m__law_root_of : ∀ ss (Q Q' : D → Prop), (∀ d, Q d → Q' d) → S__law_root_of ss Q → S__law_root_of ss Q' := sp_mono
theorem l__law_root_of : ∀ ss (Q : D → Prop), S__law_root_of ss Q → ss.length = 1 := sp_len
theorem m_root_parts : ∀ ss (Q Q' : D → Prop), (∀ d, Q d → Q' d) → S_root_parts ss Q → S_root_parts ss Q' := spE_mono
theorem l_root_parts : ∀ ss (Q : D → Prop), S_root_parts ss Q → ss.length = 1 := spE_len fun _ => rfl
theorem m_lowest : ∀ ss (Q Q' : D → Prop), (∀ d, Q d → Q' d) → S_lowest ss Q → S_lowest ss Q' := spE_mono
theorem l_lowest : ∀ ss (Q : D → Prop), S_lowest ss Q → ss.length = 4 := spE_len fun _ => rfl
theorem m__law_pick : ∀ ss (Q Q' : D → Prop), (∀ d, Q d → Q' d) → S__law_pick ss Q → S__law_pick ss Q' := spA_mono
theorem l__law_pick : ∀ ss (Q : D → Prop), S__law_pick ss Q → ss.length = 2 := spA_len fun _ => rfl
theorem m__law_great : ∀ ss (Q Q' : D → Prop), (∀ d, Q d → Q' d) → S__law_great ss Q → S__law_great ss Q' := spA_mono
theorem l__law_great : ∀ ss (Q : D → Prop), S__law_great ss Q → ss.length = 2 := spA_len fun _ => rfl
theorem m__law_parts : ∀ ss (Q Q' : D → Prop), (∀ d, Q d → Q' d) → S__law_parts ss Q → S__law_parts ss Q' := spE_mono
theorem l__law_parts : ∀ ss (Q : D → Prop), S__law_parts ss Q → ss.length = 1 := spE_len fun _ => rfl
theorem m__law_surd : ∀ ss (Q Q' : D → Prop), (∀ d, Q d → Q' d) → S__law_surd ss Q → S__law_surd ss Q' := spE_mono
theorem l__law_surd : ∀ ss (Q : D → Prop), S__law_surd ss Q → ss.length = 4 := spE_len fun _ => rfl
theorem m_surd_of : ∀ ss (Q Q' : D → Prop), (∀ d, Q d → Q' d) → S_surd_of ss Q → S_surd_of ss Q' := spE_mono
theorem l_surd_of : ∀ ss (Q : D → Prop), S_surd_of ss Q → ss.length = 4 := spE_len fun _ => rfl
theorem m_surd_error : ∀ ss (Q Q' : D → Prop), (∀ d, Q d → Q' d) → S_surd_error ss Q → S_surd_error ss Q' := spE_mono
theorem l_surd_error : ∀ ss (Q : D → Prop), S_surd_error ss Q → ss.length = 1 := spE_len fun _ => rfl
theorem m_surd_sum : ∀ ss (Q Q' : D → Prop), (∀ d, Q d → Q' d) → S_surd_sum ss Q → S_surd_sum ss Q' := spE_mono
theorem l_surd_sum : ∀ ss (Q : D → Prop), S_surd_sum ss Q → ss.length = 2 := spE_len fun _ => rfl
theorem m_surd_times : ∀ ss (Q Q' : D → Prop), (∀ d, Q d → Q' d) → S_surd_times ss Q → S_surd_times ss Q' := spE_mono
theorem l_surd_times : ∀ ss (Q : D → Prop), S_surd_times ss Q → ss.length = 2 := spE_len fun _ => rfl
theorem m__law_square_free : ∀ ss (Q Q' : D → Prop), (∀ d, Q d → Q' d) → S__law_square_free ss Q → S__law_square_free ss Q' := spA_mono
theorem l__law_square_free : ∀ ss (Q : D → Prop), S__law_square_free ss Q → ss.length = 1 := spA_len fun _ => rfl
theorem m__law_integer : ∀ ss (Q Q' : D → Prop), (∀ d, Q d → Q' d) → S__law_integer ss Q → S__law_integer ss Q' := spA_mono
theorem l__law_integer : ∀ ss (Q : D → Prop), S__law_integer ss Q → ss.length = 1 := spA_len fun _ => rfl
theorem m__law_own_of : ∀ ss (Q Q' : D → Prop), (∀ d, Q d → Q' d) → S__law_own_of ss Q → S__law_own_of ss Q' := spE_mono
theorem l__law_own_of : ∀ ss (Q : D → Prop), S__law_own_of ss Q → ss.length = 4 := spE_len fun _ => rfl
theorem m__law_own_error : ∀ ss (Q Q' : D → Prop), (∀ d, Q d → Q' d) → S__law_own_error ss Q → S__law_own_error ss Q' := spE_mono
theorem l__law_own_error : ∀ ss (Q : D → Prop), S__law_own_error ss Q → ss.length = 1 := spE_len fun _ => rfl
theorem m__law_each_wrong : ∀ ss (Q Q' : D → Prop), (∀ d, Q d → Q' d) → S__law_each_wrong ss Q → S__law_each_wrong ss Q' := spA_mono
theorem l__law_each_wrong : ∀ ss (Q : D → Prop), S__law_each_wrong ss Q → ss.length = 2 := spA_len fun _ => rfl
theorem m__law_any_root : ∀ ss (Q Q' : D → Prop), (∀ d, Q d → Q' d) → S__law_any_root ss Q → S__law_any_root ss Q' := spA_mono
theorem l__law_any_root : ∀ ss (Q : D → Prop), S__law_any_root ss Q → ss.length = 1 := spA_len fun _ => rfl
theorem m__law_handed : ∀ ss (Q Q' : D → Prop), (∀ d, Q d → Q' d) → S__law_handed ss Q → S__law_handed ss Q' := spA_mono
theorem l__law_handed : ∀ ss (Q : D → Prop), S__law_handed ss Q → ss.length = 2 := spA_len fun _ => rfl
theorem m__law_bent : ∀ ss (Q Q' : D → Prop), (∀ d, Q d → Q' d) → S__law_bent ss Q → S__law_bent ss Q' := spA_mono
theorem l__law_bent : ∀ ss (Q : D → Prop), S__law_bent ss Q → ss.length = 2 := spA_len fun _ => rfl
theorem m__law_is_walk_right : ∀ ss (Q Q' : D → Prop), (∀ d, Q d → Q' d) → S__law_is_walk_right ss Q → S__law_is_walk_right ss Q' := spE_mono
theorem l__law_is_walk_right : ∀ ss (Q : D → Prop), S__law_is_walk_right ss Q → ss.length = 2 := spE_len fun _ => rfl
theorem m__law_value : ∀ ss (Q Q' : D → Prop), (∀ d, Q d → Q' d) → S__law_value ss Q → S__law_value ss Q' := spA_mono
theorem l__law_value : ∀ ss (Q : D → Prop), S__law_value ss Q → ss.length = 2 := spA_len fun _ => rfl
theorem m__law_asks : ∀ ss (Q Q' : D → Prop), (∀ d, Q d → Q' d) → S__law_asks ss Q → S__law_asks ss Q' := spA_mono
theorem l__law_asks : ∀ ss (Q : D → Prop), S__law_asks ss Q → ss.length = 2 := spA_len fun _ => rfl
theorem sc_is_integer : FnScope N_is_integer ["value"] (defScope s_is_integer) := ⟨rfl, rfl, rfl, by decide +kernel, rfl, by decide +kernel, by decide +kernel⟩
theorem der_is_integer {P : Program} {w : World} {K : PySem.W.Frag} {mg : Str → Option Value} {base : Heap} {f : Addr} {cdv : Value} {A : Around} {outer : List PySem.Env} {s : Shared} {c : C} (bl : Bl mg) (eh : ErH P K mg)  (hG : IsLst c) (hgd : A.guards = some []) (hr : Room 0 (A.deeper (envOfC "is_integer" (defScope s_is_integer) s.heap.objs.size f cdv))) : PSsd (XX P w K mg base N_is_integer "is_integer" s_is_integer f cdv A outer s c.H0) c (defBody s_is_integer) g_is_integer := by
  have hN : (XX P w K mg base N_is_integer "is_integer" s_is_integer f cdv A outer s c.H0).N.Nodup := sc_is_integer.nd
  have hc : (XX P w K mg base N_is_integer "is_integer" s_is_integer f cdv A outer s c.H0).calm = true := rfl
  have hx : ∀ e s1, ¬ (XX P w K mg base N_is_integer "is_integer" s_is_integer f cdv A outer s c.H0).xe e s1 := fun _ _ z => z
  have hp : PassesOwn (model P w) (XX P w K mg base N_is_integer "is_integer" s_is_integer f cdv A outer s c.H0).A (XX P w K mg base N_is_integer "is_integer" s_is_integer f cdv A outer s c.H0).env (XX P w K mg base N_is_integer "is_integer" s_is_integer f cdv A outer s c.H0).xe := PassesOwn.never
  have hu : (XX P w K mg base N_is_integer "is_integer" s_is_integer f cdv A outer s c.H0).A.units + 64 < cLine := units_of hr
  have hu5 : (XX P w K mg base N_is_integer "is_integer" s_is_integer f cdv A outer s c.H0).A.units + 65 < cLine := units65 hr
  exact (ss_one (s_ret (v_and (PV.b (v_isi kit_int bl.isinstance bl.int (b_name 0))) (v_one (v_not (PV.b (v_isi kit_bool bl.isinstance bl.bool (b_name 0))))))))
theorem ok_is_integer {P : Program} {w : World} {K : PySem.W.Frag} {mg : Str → Option Value} {base : Heap} {f : Addr} {fd : FuncData} (F : Fun K "is_integer" "is_integer" s_is_integer f fd) (bl : Bl mg) (eh : ErH P K mg)  : FnG IsLst P w K mg base 1 f fd ["value"] S_is_integer :=
  fng_of F sc_is_integer m_is_integer l_is_integer fun cdv A outer s c hG hgd hr => ⟨g_is_integer, der_is_integer bl eh  hG hgd hr, r_is_integer⟩
theorem sc_is_tuple : FnScope N_is_tuple ["value", "many"] (defScope s_is_tuple) := ⟨rfl, rfl, rfl, by decide +kernel, rfl, by decide +kernel, by decide +kernel⟩
theorem der_is_tuple {P : Program} {w : World} {K : PySem.W.Frag} {mg : Str → Option Value} {base : Heap} {f : Addr} {cdv : Value} {A : Around} {outer : List PySem.Env} {s : Shared} {c : C} (bl : Bl mg) (eh : ErH P K mg)  (hG : IsLst c) (hgd : A.guards = some []) (hr : Room 0 (A.deeper (envOfC "is_tuple" (defScope s_is_tuple) s.heap.objs.size f cdv))) : PSsd (XX P w K mg base N_is_tuple "is_tuple" s_is_tuple f cdv A outer s c.H0) c (defBody s_is_tuple) g_is_tuple := by
  have hN : (XX P w K mg base N_is_tuple "is_tuple" s_is_tuple f cdv A outer s c.H0).N.Nodup := sc_is_tuple.nd
  have hc : (XX P w K mg base N_is_tuple "is_tuple" s_is_tuple f cdv A outer s c.H0).calm = true := rfl
  have hx : ∀ e s1, ¬ (XX P w K mg base N_is_tuple "is_tuple" s_is_tuple f cdv A outer s c.H0).xe e s1 := fun _ _ z => z
  have hp : PassesOwn (model P w) (XX P w K mg base N_is_tuple "is_tuple" s_is_tuple f cdv A outer s c.H0).A (XX P w K mg base N_is_tuple "is_tuple" s_is_tuple f cdv A outer s c.H0).env (XX P w K mg base N_is_tuple "is_tuple" s_is_tuple f cdv A outer s c.H0).xe := PassesOwn.never
  have hu : (XX P w K mg base N_is_tuple "is_tuple" s_is_tuple f cdv A outer s c.H0).A.units + 64 < cLine := units_of hr
  have hu5 : (XX P w K mg base N_is_tuple "is_tuple" s_is_tuple f cdv A outer s c.H0).A.units + 65 < cLine := units65 hr
  exact (ss_one (s_ret (v_and (PV.b (v_isi kit_tuple bl.isinstance bl.tuple (b_name 0))) (v_one (v_cmp (o_eq hu) (PV.b (v_callB c_len bl.len (bb_cons (b_name 0) bb_nil))) (b_name 1))))))
theorem ok_is_tuple {P : Program} {w : World} {K : PySem.W.Frag} {mg : Str → Option Value} {base : Heap} {f : Addr} {fd : FuncData} (F : Fun K "is_tuple" "is_tuple" s_is_tuple f fd) (bl : Bl mg) (eh : ErH P K mg)  : FnG IsLst P w K mg base 1 f fd ["value", "many"] S_is_tuple :=
  fng_of F sc_is_tuple m_is_tuple l_is_tuple fun cdv A outer s c hG hgd hr => ⟨g_is_tuple, der_is_tuple bl eh  hG hgd hr, r_is_tuple⟩
theorem sc_common : FnScope N_common ["one", "other"] (defScope s_common) := ⟨rfl, rfl, rfl, by decide +kernel, rfl, by decide +kernel, by decide +kernel⟩
theorem der_common {P : Program} {w : World} {K : PySem.W.Frag} {mg : Str → Option Value} {base : Heap} {f : Addr} {cdv : Value} {A : Around} {outer : List PySem.Env} {s : Shared} {c : C} (bl : Bl mg) (eh : ErH P K mg)  (hG : IsLst c) (hgd : A.guards = some []) (hr : Room 0 (A.deeper (envOfC "common" (defScope s_common) s.heap.objs.size f cdv))) : PSsd (XX P w K mg base N_common "common" s_common f cdv A outer s c.H0) c (defBody s_common) g_common := by
  have hN : (XX P w K mg base N_common "common" s_common f cdv A outer s c.H0).N.Nodup := sc_common.nd
  have hc : (XX P w K mg base N_common "common" s_common f cdv A outer s c.H0).calm = true := rfl
  have hx : ∀ e s1, ¬ (XX P w K mg base N_common "common" s_common f cdv A outer s c.H0).xe e s1 := fun _ _ z => z
  have hp : PassesOwn (model P w) (XX P w K mg base N_common "common" s_common f cdv A outer s c.H0).A (XX P w K mg base N_common "common" s_common f cdv A outer s c.H0).env (XX P w K mg base N_common "common" s_common f cdv A outer s c.H0).xe := PassesOwn.never
  have hu : (XX P w K mg base N_common "common" s_common f cdv A outer s c.H0).A.units + 64 < cLine := units_of hr
  have hu5 : (XX P w K mg base N_common "common" s_common f cdv A outer s c.H0).A.units + 65 < cLine := units65 hr
  exact (ss_cons (s_while hp (t_cmp o_gt (b_name 1) (PV.b v_int)) (ss_one (s_par 0 1 hc hN (m_v (v_name 1) (m_v (v_bin o_mod (b_name 0) (b_name 1)) m_nil))))) (ss_one (s_ret (v_name 0))))
theorem ok_common {P : Program} {w : World} {K : PySem.W.Frag} {mg : Str → Option Value} {base : Heap} {f : Addr} {fd : FuncData} (F : Fun K "common" "common" s_common f fd) (bl : Bl mg) (eh : ErH P K mg)  : FnG IsLst P w K mg base 1 f fd ["one", "other"] S_common :=
  fng_of F sc_common m_common l_common fun cdv A outer s c hG hgd hr => ⟨g_common, der_common bl eh  hG hgd hr, r_common⟩
theorem sc_whole_root : FnScope N_whole_root ["number"] (defScope s_whole_root) := ⟨rfl, rfl, rfl, by decide +kernel, rfl, by decide +kernel, by decide +kernel⟩
theorem der_whole_root {P : Program} {w : World} {K : PySem.W.Frag} {mg : Str → Option Value} {base : Heap} {f : Addr} {cdv : Value} {A : Around} {outer : List PySem.Env} {s : Shared} {c : C} (bl : Bl mg) (eh : ErH P K mg)  (hG : IsLst c) (hgd : A.guards = some []) (hr : Room 0 (A.deeper (envOfC "whole_root" (defScope s_whole_root) s.heap.objs.size f cdv))) : PSsd (XX P w K mg base N_whole_root "whole_root" s_whole_root f cdv A outer s c.H0) c (defBody s_whole_root) g_whole_root := by
  have hN : (XX P w K mg base N_whole_root "whole_root" s_whole_root f cdv A outer s c.H0).N.Nodup := sc_whole_root.nd
  have hc : (XX P w K mg base N_whole_root "whole_root" s_whole_root f cdv A outer s c.H0).calm = true := rfl
  have hx : ∀ e s1, ¬ (XX P w K mg base N_whole_root "whole_root" s_whole_root f cdv A outer s c.H0).xe e s1 := fun _ _ z => z
  have hp : PassesOwn (model P w) (XX P w K mg base N_whole_root "whole_root" s_whole_root f cdv A outer s c.H0).A (XX P w K mg base N_whole_root "whole_root" s_whole_root f cdv A outer s c.H0).env (XX P w K mg base N_whole_root "whole_root" s_whole_root f cdv A outer s c.H0).xe := PassesOwn.never
  have hu : (XX P w K mg base N_whole_root "whole_root" s_whole_root f cdv A outer s c.H0).A.units + 64 < cLine := units_of hr
  have hu5 : (XX P w K mg base N_whole_root "whole_root" s_whole_root f cdv A outer s c.H0).A.units + 65 < cLine := units65 hr
  exact (ss_cons (s_if (t_cmp o_lt (b_name 0) (PV.b v_int)) (ss_one (s_ret (v_name 0))) ss_nil) (ss_cons (s_set 1 hN (v_bin o_shlW (PV.b v_int) (PV.b (v_bin o_div (PV.b (v_bin o_add (PV.b (v_bits (b_name 0))) (PV.b v_int))) (PV.b v_int))))) (ss_cons (s_set 2 hN (v_bin o_div (PV.b (v_bin o_add (b_name 1) (PV.b (v_bin o_div (b_name 0) (b_name 1))))) (PV.b v_int))) (ss_cons (s_while hp (t_cmp o_lt (b_name 2) (b_name 1)) (ss_one (s_par 1 2 hc hN (m_v (v_name 2) (m_v (v_bin o_div (PV.b (v_bin o_add (b_name 2) (PV.b (v_bin o_div (b_name 0) (b_name 2))))) (PV.b v_int)) m_nil))))) (ss_one (s_ret (v_name 1)))))))
theorem ok_whole_root {P : Program} {w : World} {K : PySem.W.Frag} {mg : Str → Option Value} {base : Heap} {f : Addr} {fd : FuncData} (F : Fun K "whole_root" "whole_root" s_whole_root f fd) (bl : Bl mg) (eh : ErH P K mg)  : FnG IsLst P w K mg base 1 f fd ["number"] S_whole_root :=
  fng_of F sc_whole_root m_whole_root l_whole_root fun cdv A outer s c hG hgd hr => ⟨g_whole_root, der_whole_root bl eh  hG hgd hr, r_whole_root⟩
theorem sc_surd_turned : FnScope N_surd_turned ["one"] (defScope s_surd_turned) := ⟨rfl, rfl, rfl, by decide +kernel, rfl, by decide +kernel, by decide +kernel⟩
theorem der_surd_turned {P : Program} {w : World} {K : PySem.W.Frag} {mg : Str → Option Value} {base : Heap} {f : Addr} {cdv : Value} {A : Around} {outer : List PySem.Env} {s : Shared} {c : C} (bl : Bl mg) (eh : ErH P K mg)  (hG : IsLst c) (hgd : A.guards = some []) (hr : Room 0 (A.deeper (envOfC "surd_turned" (defScope s_surd_turned) s.heap.objs.size f cdv))) : PSsd (XX P w K mg base N_surd_turned "surd_turned" s_surd_turned f cdv A outer s c.H0) c (defBody s_surd_turned) g_surd_turned := by
  have hN : (XX P w K mg base N_surd_turned "surd_turned" s_surd_turned f cdv A outer s c.H0).N.Nodup := sc_surd_turned.nd
  have hc : (XX P w K mg base N_surd_turned "surd_turned" s_surd_turned f cdv A outer s c.H0).calm = true := rfl
  have hx : ∀ e s1, ¬ (XX P w K mg base N_surd_turned "surd_turned" s_surd_turned f cdv A outer s c.H0).xe e s1 := fun _ _ z => z
  have hp : PassesOwn (model P w) (XX P w K mg base N_surd_turned "surd_turned" s_surd_turned f cdv A outer s c.H0).A (XX P w K mg base N_surd_turned "surd_turned" s_surd_turned f cdv A outer s c.H0).env (XX P w K mg base N_surd_turned "surd_turned" s_surd_turned f cdv A outer s c.H0).xe := PassesOwn.never
  have hu : (XX P w K mg base N_surd_turned "surd_turned" s_surd_turned f cdv A outer s c.H0).A.units + 64 < cLine := units_of hr
  have hu5 : (XX P w K mg base N_surd_turned "surd_turned" s_surd_turned f cdv A outer s c.H0).A.units + 65 < cLine := units65 hr
  exact (ss_one (s_ret (v_tup (d_cons (v_neg (PV.b (v_ix (b_name 0) (PV.b v_int)))) (d_cons (v_neg (PV.b (v_ix (b_name 0) (PV.b v_int)))) (d_cons (v_ix (b_name 0) (PV.b v_int)) (d_cons (v_ix (b_name 0) (PV.b v_int)) d_nil)))))))
theorem ok_surd_turned {P : Program} {w : World} {K : PySem.W.Frag} {mg : Str → Option Value} {base : Heap} {f : Addr} {fd : FuncData} (F : Fun K "surd_turned" "surd_turned" s_surd_turned f fd) (bl : Bl mg) (eh : ErH P K mg)  : FnG IsLst P w K mg base 1 f fd ["one"] S_surd_turned :=
  fng_of F sc_surd_turned m_surd_turned l_surd_turned fun cdv A outer s c hG hgd hr => ⟨g_surd_turned, der_surd_turned bl eh  hG hgd hr, r_surd_turned⟩
theorem sc_other_root : FnScope N_other_root ["one"] (defScope s_other_root) := ⟨rfl, rfl, rfl, by decide +kernel, rfl, by decide +kernel, by decide +kernel⟩
theorem der_other_root {P : Program} {w : World} {K : PySem.W.Frag} {mg : Str → Option Value} {base : Heap} {f : Addr} {cdv : Value} {A : Around} {outer : List PySem.Env} {s : Shared} {c : C} (bl : Bl mg) (eh : ErH P K mg)  (hG : IsLst c) (hgd : A.guards = some []) (hr : Room 0 (A.deeper (envOfC "other_root" (defScope s_other_root) s.heap.objs.size f cdv))) : PSsd (XX P w K mg base N_other_root "other_root" s_other_root f cdv A outer s c.H0) c (defBody s_other_root) g_other_root := by
  have hN : (XX P w K mg base N_other_root "other_root" s_other_root f cdv A outer s c.H0).N.Nodup := sc_other_root.nd
  have hc : (XX P w K mg base N_other_root "other_root" s_other_root f cdv A outer s c.H0).calm = true := rfl
  have hx : ∀ e s1, ¬ (XX P w K mg base N_other_root "other_root" s_other_root f cdv A outer s c.H0).xe e s1 := fun _ _ z => z
  have hp : PassesOwn (model P w) (XX P w K mg base N_other_root "other_root" s_other_root f cdv A outer s c.H0).A (XX P w K mg base N_other_root "other_root" s_other_root f cdv A outer s c.H0).env (XX P w K mg base N_other_root "other_root" s_other_root f cdv A outer s c.H0).xe := PassesOwn.never
  have hu : (XX P w K mg base N_other_root "other_root" s_other_root f cdv A outer s c.H0).A.units + 64 < cLine := units_of hr
  have hu5 : (XX P w K mg base N_other_root "other_root" s_other_root f cdv A outer s c.H0).A.units + 65 < cLine := units65 hr
  exact (ss_one (s_ret (v_tup (d_cons (v_ix (b_name 0) (PV.b v_int)) (d_cons (v_neg (PV.b (v_ix (b_name 0) (PV.b v_int)))) (d_cons (v_ix (b_name 0) (PV.b v_int)) (d_cons (v_ix (b_name 0) (PV.b v_int)) d_nil)))))))
theorem ok_other_root {P : Program} {w : World} {K : PySem.W.Frag} {mg : Str → Option Value} {base : Heap} {f : Addr} {fd : FuncData} (F : Fun K "other_root" "other_root" s_other_root f fd) (bl : Bl mg) (eh : ErH P K mg)  : FnG IsLst P w K mg base 1 f fd ["one"] S_other_root :=
  fng_of F sc_other_root m_other_root l_other_root fun cdv A outer s c hG hgd hr => ⟨g_other_root, der_other_root bl eh  hG hgd hr, r_other_root⟩
theorem sc__law_own_bag : FnScope N__law_own_bag ["script"] (defScope s__law_own_bag) := ⟨rfl, rfl, rfl, by decide +kernel, rfl, by decide +kernel, by decide +kernel⟩
theorem der__law_own_bag {P : Program} {w : World} {K : PySem.W.Frag} {mg : Str → Option Value} {base : Heap} {f : Addr} {cdv : Value} {A : Around} {outer : List PySem.Env} {s : Shared} {c : C} (bl : Bl mg) (eh : ErH P K mg)  (hG : GOwn K c) (hgd : A.guards = some []) (hr : Room 0 (A.deeper (envOfC "_law_own_bag" (defScope s__law_own_bag) s.heap.objs.size f cdv))) : PSsd (XX P w K mg base N__law_own_bag "_law_own_bag" s__law_own_bag f cdv A outer s c.H0) c (defBody s__law_own_bag) g__law_own_bag := by
  have hN : (XX P w K mg base N__law_own_bag "_law_own_bag" s__law_own_bag f cdv A outer s c.H0).N.Nodup := sc__law_own_bag.nd
  have hc : (XX P w K mg base N__law_own_bag "_law_own_bag" s__law_own_bag f cdv A outer s c.H0).calm = true := rfl
  have hx : ∀ e s1, ¬ (XX P w K mg base N__law_own_bag "_law_own_bag" s__law_own_bag f cdv A outer s c.H0).xe e s1 := fun _ _ z => z
  have hp : PassesOwn (model P w) (XX P w K mg base N__law_own_bag "_law_own_bag" s__law_own_bag f cdv A outer s c.H0).A (XX P w K mg base N__law_own_bag "_law_own_bag" s__law_own_bag f cdv A outer s c.H0).env (XX P w K mg base N__law_own_bag "_law_own_bag" s__law_own_bag f cdv A outer s c.H0).xe := PassesOwn.never
  have hu : (XX P w K mg base N__law_own_bag "_law_own_bag" s__law_own_bag f cdv A outer s c.H0).A.units + 64 < cLine := units_of hr
  have hu5 : (XX P w K mg base N__law_own_bag "_law_own_bag" s__law_own_bag f cdv A outer s c.H0).A.units + 65 < cLine := units65 hr
  exact (ss_cons (s_lc 1 hc hN (own := [("cell", 2)]) (by first | rfl | decide +kernel) (i_seq (PN.v (n_script (l := none) (h := some 63) hG po_n (po_s (PV.b v_int))))) (fun _ _ _ _ _ => (g_nm 2 (by exact hN))) (fun _ _ _ _ _ => ts_nil) (fun _ _ _ _ _ => (v_callB c_abs bl.abs (bb_cons (PV.b (v_callT c_int bl.int (bb_cons (b_name 2) bb_nil))) bb_nil)))) (ss_cons (s_set 3 hN (v_bin o_add (PV.b v_int) (PV.b (v_callB c_len bl.len (bb_cons (b_name 1) bb_nil))))) (ss_cons (s_frz 1 (s_for hp hc (i_seq (v_name 1)) (g_nm 2 hN) (ss_one (s_set 3 hN (v_bin o_mod (PV.b (v_bin o_add (PV.b (v_bin o_add (PV.b (v_bin o_mul (b_name 3) (PV.b v_int))) (PV.b (v_bin o_mod (b_name 2) (PV.b v_int))))) (PV.b v_int))) (PV.b v_int)))))) (ss_one (s_ret (PN.v (n_lst (d_cons (PN.v (n_listRev hc bl.list bl.reversed (PV.b (PN.v (n_list bl.list (b_name 1)))))) (d_cons v_int (d_cons (v_name 3) d_nil))))))))))
theorem ok__law_own_bag {P : Program} {w : World} {K : PySem.W.Frag} {mg : Str → Option Value} {base : Heap} {f : Addr} {fd : FuncData} (F : Fun K "_law_own_bag" "_law_own_bag" s__law_own_bag f fd) (bl : Bl mg) (eh : ErH P K mg)  : FnG (GOwn K) P w K mg base 1 f fd ["script"] S__law_own_bag :=
  fng_of F sc__law_own_bag m__law_own_bag l__law_own_bag fun cdv A outer s c hG hgd hr => ⟨g__law_own_bag, der__law_own_bag bl eh  hG hgd hr, r__law_own_bag⟩
theorem sc__law_refused : FnScope N__law_refused ["error"] (defScope s__law_refused) := ⟨rfl, rfl, rfl, by decide +kernel, rfl, by decide +kernel, by decide +kernel⟩
theorem der__law_refused {P : Program} {w : World} {K : PySem.W.Frag} {mg : Str → Option Value} {base : Heap} {f : Addr} {cdv : Value} {A : Around} {outer : List PySem.Env} {s : Shared} {c : C} {oe : Obj} {pn : List (Addr × Obj)} (bl : Bl mg) (eh : ErH P K mg) (hG : IsLst c) (hnm : c.xn ∈ errN) (hz : Zc (.ref (He.ga K c.xn)) c.xd oe) (hv : ∃ vs, oe.data = .fields vs) : PSsd (XS P w K mg base N__law_refused "_law_refused" s__law_refused f cdv A outer s c.H0 c.xa ((c.xa, oe) :: pn)) (c.at c.B0 c.H0 c.xa c.xd c.xn) (defBody s__law_refused) g__law_refused := by
  have hN : (XS P w K mg base N__law_refused "_law_refused" s__law_refused f cdv A outer s c.H0 c.xa ((c.xa, oe) :: pn)).N.Nodup := sc__law_refused.nd
  exact (ss_cons (s_setN 1 hN (n_lst d_nil)) (ss_cons (s_if (t_val (PV.b (v_is1 0 eh.er hnm hz hv bl.isinstance (pc_cls (eh.z _ (by decide)) pc_nil)))) (ss_one (s_app 1 v_str)) ss_nil) (ss_cons (s_if (t_val (PV.b (v_is1 0 eh.er hnm hz hv bl.isinstance (pc_cls (eh.z _ (by decide)) pc_nil)))) (ss_one (s_app 1 (v_tup (d_cons v_str (d_cons (v_fld 0 eh.er eh.fl hnm hz hv) d_nil))))) ss_nil) (ss_cons (s_if (t_val (PV.b (v_is1 0 eh.er hnm hz hv bl.isinstance (pc_cls (eh.z _ (by decide)) pc_nil)))) (ss_one (s_app 1 v_str)) ss_nil) (ss_cons (s_if (t_val (PV.b (v_is1 0 eh.er hnm hz hv bl.isinstance (pc_cls (eh.z _ (by decide)) pc_nil)))) (ss_one (s_app 1 v_str)) ss_nil) (ss_cons (s_if (t_val (PV.b (v_is1 0 eh.er hnm hz hv bl.isinstance (pc_cls (eh.z _ (by decide)) pc_nil)))) (ss_one (s_app 1 v_str)) ss_nil) (ss_cons (s_if (t_val (PV.b (v_is1 0 eh.er hnm hz hv bl.isinstance (pc_cls (eh.z _ (by decide)) pc_nil)))) (ss_one (s_app 1 v_str)) ss_nil) (ss_cons (s_if (t_val (PV.b (v_is1 0 eh.er hnm hz hv bl.isinstance (pc_cls (eh.z _ (by decide)) pc_nil)))) (ss_one (s_app 1 v_str)) ss_nil) (ss_one (s_frz 1 (s_ret (v_tup (d_cons v_str (d_cons (v_name 1) (d_cons (v_is1 0 eh.er hnm hz hv bl.isinstance (pc_ve bl.ValueError pc_nil)) d_nil)))))))))))))))
theorem ok__law_refused {P : Program} {w : World} {K : PySem.W.Frag} {mg : Str → Option Value} {base : Heap} {f : Addr} {fd : FuncData} (F : Fun K "_law_refused" "_law_refused" s__law_refused f fd) (bl : Bl mg) (eh : ErH P K mg) : FnX P w K mg base 1 f fd "error" S__law_refused :=
  fnx_of F sc__law_refused m__law_refused g__law_refused (fun cdv A outer s c oe pn hG hnm hz hv => der__law_refused bl eh hG hnm hz hv) r__law_refused
theorem sc__law_like : FnScope N__law_like ["told", "due"] (defScope s__law_like) := ⟨rfl, rfl, rfl, by decide +kernel, rfl, by decide +kernel, by decide +kernel⟩
theorem der__law_like {P : Program} {w : World} {K : PySem.W.Frag} {mg : Str → Option Value} {base : Heap} {f : Addr} {cdv : Value} {A : Around} {outer : List PySem.Env} {s : Shared} {c : C} (bl : Bl mg) (eh : ErH P K mg)  (hG : IsLst c) (hgd : A.guards = some []) (hr : Room 0 (A.deeper (envOfC "_law_like" (defScope s__law_like) s.heap.objs.size f cdv))) : PSsd (XX P w K mg base N__law_like "_law_like" s__law_like f cdv A outer s c.H0) c (defBody s__law_like) g__law_like := by
  have hN : (XX P w K mg base N__law_like "_law_like" s__law_like f cdv A outer s c.H0).N.Nodup := sc__law_like.nd
  have hc : (XX P w K mg base N__law_like "_law_like" s__law_like f cdv A outer s c.H0).calm = true := rfl
  have hx : ∀ e s1, ¬ (XX P w K mg base N__law_like "_law_like" s__law_like f cdv A outer s c.H0).xe e s1 := fun _ _ z => z
  have hp : PassesOwn (model P w) (XX P w K mg base N__law_like "_law_like" s__law_like f cdv A outer s c.H0).A (XX P w K mg base N__law_like "_law_like" s__law_like f cdv A outer s c.H0).env (XX P w K mg base N__law_like "_law_like" s__law_like f cdv A outer s c.H0).xe := PassesOwn.never
  have hu : (XX P w K mg base N__law_like "_law_like" s__law_like f cdv A outer s c.H0).A.units + 64 < cLine := units_of hr
  have hu5 : (XX P w K mg base N__law_like "_law_like" s__law_like f cdv A outer s c.H0).A.units + 65 < cLine := units65 hr
  exact (ss_one (s_ret (v_and (PV.b (v_cmp (o_eq hu) (b_name 0) (b_name 1))) (v_one (v_cmp (o_eq hu) (PV.b (v_callB (c_reprW eh.dig hgd hu) bl.repr (bb_cons (b_name 0) bb_nil))) (PV.b (v_callB (c_reprW eh.dig hgd hu) bl.repr (bb_cons (b_name 1) bb_nil))))))))
theorem ok__law_like {P : Program} {w : World} {K : PySem.W.Frag} {mg : Str → Option Value} {base : Heap} {f : Addr} {fd : FuncData} (F : Fun K "_law_like" "_law_like" s__law_like f fd) (bl : Bl mg) (eh : ErH P K mg)  : FnG IsLst P w K mg base 1 f fd ["told", "due"] S__law_like :=
  fng_of F sc__law_like m__law_like l__law_like fun cdv A outer s c hG hgd hr => ⟨g__law_like, der__law_like bl eh  hG hgd hr, r__law_like⟩
theorem sc__law_common : FnScope N__law_common ["one", "other"] (defScope s__law_common) := ⟨rfl, rfl, rfl, by decide +kernel, rfl, by decide +kernel, by decide +kernel⟩
theorem der__law_common {P : Program} {w : World} {K : PySem.W.Frag} {mg : Str → Option Value} {base : Heap} {f : Addr} {cdv : Value} {A : Around} {outer : List PySem.Env} {s : Shared} {c : C} (bl : Bl mg) (eh : ErH P K mg)  (hG : IsLst c) (hgd : A.guards = some []) (hr : Room 0 (A.deeper (envOfC "_law_common" (defScope s__law_common) s.heap.objs.size f cdv))) : PSsd (XX P w K mg base N__law_common "_law_common" s__law_common f cdv A outer s c.H0) c (defBody s__law_common) g__law_common := by
  have hN : (XX P w K mg base N__law_common "_law_common" s__law_common f cdv A outer s c.H0).N.Nodup := sc__law_common.nd
  have hc : (XX P w K mg base N__law_common "_law_common" s__law_common f cdv A outer s c.H0).calm = true := rfl
  have hx : ∀ e s1, ¬ (XX P w K mg base N__law_common "_law_common" s__law_common f cdv A outer s c.H0).xe e s1 := fun _ _ z => z
  have hp : PassesOwn (model P w) (XX P w K mg base N__law_common "_law_common" s__law_common f cdv A outer s c.H0).A (XX P w K mg base N__law_common "_law_common" s__law_common f cdv A outer s c.H0).env (XX P w K mg base N__law_common "_law_common" s__law_common f cdv A outer s c.H0).xe := PassesOwn.never
  have hu : (XX P w K mg base N__law_common "_law_common" s__law_common f cdv A outer s c.H0).A.units + 64 < cLine := units_of hr
  have hu5 : (XX P w K mg base N__law_common "_law_common" s__law_common f cdv A outer s c.H0).A.units + 65 < cLine := units65 hr
  exact (ss_cons (s_while hp (t_cmp (o_ne hu) (b_name 1) (PV.b v_int)) (ss_one (s_par 0 1 hc hN (m_v (v_name 1) (m_v (v_bin o_mod (PV.b (v_callT c_int bl.int (bb_cons (b_name 0) bb_nil))) (b_name 1)) m_nil))))) (ss_one (s_ret (v_callB c_abs bl.abs (bb_cons (b_name 0) bb_nil)))))
theorem ok__law_common {P : Program} {w : World} {K : PySem.W.Frag} {mg : Str → Option Value} {base : Heap} {f : Addr} {fd : FuncData} (F : Fun K "_law_common" "_law_common" s__law_common f fd) (bl : Bl mg) (eh : ErH P K mg)  : FnG IsLst P w K mg base 1 f fd ["one", "other"] S__law_common :=
  fng_of F sc__law_common m__law_common l__law_common fun cdv A outer s c hG hgd hr => ⟨g__law_common, der__law_common bl eh  hG hgd hr, r__law_common⟩
theorem sc__law_root_of : FnScope N__law_root_of ["n"] (defScope s__law_root_of) := ⟨rfl, rfl, rfl, by decide +kernel, rfl, by decide +kernel, by decide +kernel⟩
theorem der__law_root_of {P : Program} {w : World} {K : PySem.W.Frag} {mg : Str → Option Value} {base : Heap} {f : Addr} {cdv : Value} {A : Around} {outer : List PySem.Env} {s : Shared} {c : C} (bl : Bl mg) (eh : ErH P K mg)  (hG : IsLst c) (hgd : A.guards = some []) (hr : Room 0 (A.deeper (envOfC "_law_root_of" (defScope s__law_root_of) s.heap.objs.size f cdv))) : PSsd (XX P w K mg base N__law_root_of "_law_root_of" s__law_root_of f cdv A outer s c.H0) c (defBody s__law_root_of) g__law_root_of := by
  have hN : (XX P w K mg base N__law_root_of "_law_root_of" s__law_root_of f cdv A outer s c.H0).N.Nodup := sc__law_root_of.nd
  have hc : (XX P w K mg base N__law_root_of "_law_root_of" s__law_root_of f cdv A outer s c.H0).calm = true := rfl
  have hx : ∀ e s1, ¬ (XX P w K mg base N__law_root_of "_law_root_of" s__law_root_of f cdv A outer s c.H0).xe e s1 := fun _ _ z => z
  have hp : PassesOwn (model P w) (XX P w K mg base N__law_root_of "_law_root_of" s__law_root_of f cdv A outer s c.H0).A (XX P w K mg base N__law_root_of "_law_root_of" s__law_root_of f cdv A outer s c.H0).env (XX P w K mg base N__law_root_of "_law_root_of" s__law_root_of f cdv A outer s c.H0).xe := PassesOwn.never
  have hu : (XX P w K mg base N__law_root_of "_law_root_of" s__law_root_of f cdv A outer s c.H0).A.units + 64 < cLine := units_of hr
  have hu5 : (XX P w K mg base N__law_root_of "_law_root_of" s__law_root_of f cdv A outer s c.H0).A.units + 65 < cLine := units65 hr
  exact (ss_cons (s_if (t_cmp o_lt (b_name 0) (PV.b v_int)) (ss_one (s_ret (v_name 0))) ss_nil) (ss_cons (s_set 1 hN (v_bin o_shlW (PV.b v_int) (PV.b (v_bin o_div (PV.b (v_bin o_add (PV.b (v_bits (PV.b (v_callT c_int bl.int (bb_cons (b_name 0) bb_nil))))) (PV.b v_int))) (PV.b v_int))))) (ss_cons (s_for hp hc (i_rng1 bl.range (PV.b v_int)) (g_nm 2 hN) (ss_cons (s_set 3 hN (v_bin o_div (PV.b (v_bin o_add (b_name 1) (PV.b (v_bin o_div (b_name 0) (b_name 1))))) (PV.b v_int))) (ss_cons (s_if (t_cmp o_ge (b_name 3) (b_name 1)) (ss_one (s_ret (v_name 1))) ss_nil) (ss_one (s_set 1 hN (v_name 3)))))) (ss_one (s_ret (v_name 1))))))
theorem ok__law_root_of {P : Program} {w : World} {K : PySem.W.Frag} {mg : Str → Option Value} {base : Heap} {f : Addr} {fd : FuncData} (F : Fun K "_law_root_of" "_law_root_of" s__law_root_of f fd) (bl : Bl mg) (eh : ErH P K mg)  : FnG IsLst P w K mg base 1 f fd ["n"] S__law_root_of :=
  fng_of F sc__law_root_of m__law_root_of l__law_root_of fun cdv A outer s c hG hgd hr => ⟨g__law_root_of, der__law_root_of bl eh  hG hgd hr, r__law_root_of⟩
theorem sc_root_parts : FnScope N_root_parts ["number"] (defScope s_root_parts) := ⟨rfl, rfl, rfl, by decide +kernel, rfl, by decide +kernel, by decide +kernel⟩
theorem der_root_parts {P : Program} {w : World} {K : PySem.W.Frag} {mg : Str → Option Value} {base : Heap} {f : Addr} {cdv : Value} {A : Around} {outer : List PySem.Env} {s : Shared} {c : C} (bl : Bl mg) (eh : ErH P K mg) (C_whole_root : Kn P w K mg base 1 "whole_root" ["number"] S_whole_root) (hG : IsLst c) (hgd : A.guards = some []) (hr : Room 1 (A.deeper (envOfC "root_parts" (defScope s_root_parts) s.heap.objs.size f cdv))) : PSsd (XX P w K mg base N_root_parts "root_parts" s_root_parts f cdv A outer s c.H0) c (defBody s_root_parts) g_root_parts := by
  have hN : (XX P w K mg base N_root_parts "root_parts" s_root_parts f cdv A outer s c.H0).N.Nodup := sc_root_parts.nd
  have hc : (XX P w K mg base N_root_parts "root_parts" s_root_parts f cdv A outer s c.H0).calm = true := rfl
  have hx : ∀ e s1, ¬ (XX P w K mg base N_root_parts "root_parts" s_root_parts f cdv A outer s c.H0).xe e s1 := fun _ _ z => z
  have hp : PassesOwn (model P w) (XX P w K mg base N_root_parts "root_parts" s_root_parts f cdv A outer s c.H0).A (XX P w K mg base N_root_parts "root_parts" s_root_parts f cdv A outer s c.H0).env (XX P w K mg base N_root_parts "root_parts" s_root_parts f cdv A outer s c.H0).xe := PassesOwn.never
  have hu : (XX P w K mg base N_root_parts "root_parts" s_root_parts f cdv A outer s c.H0).A.units + 64 < cLine := units_of hr
  have hu5 : (XX P w K mg base N_root_parts "root_parts" s_root_parts f cdv A outer s c.H0).A.units + 65 < cLine := units65 hr
  exact (ss_cons (s_if (t_cmp (o_eq hu) (b_name 0) (PV.b v_int)) (ss_one (s_ret (v_tup (d_cons v_int (d_cons v_int d_nil))))) ss_nil) (ss_cons (s_asg (v_tup (d_cons v_int (d_cons v_int (d_cons (v_name 0) (d_cons v_int d_nil))))) (g_sq hc (gs_cons (g_nm 1 hN) (gs_cons (g_nm 2 hN) (gs_cons (g_nm 3 hN) (gs_cons (g_nm 4 hN) gs_nil)))))) (ss_cons (s_while hp (t_cmp o_le (PV.b (v_bin o_mul (PV.b (v_bin o_mul (b_name 4) (b_name 4))) (b_name 4))) (b_name 3)) (ss_cons (s_set 5 hN v_int) (ss_cons (s_while hp (t_cmp (o_eq hu) (PV.b (v_bin o_mod (b_name 3) (b_name 4))) (PV.b v_int)) (ss_one (s_par 3 5 hc hN (m_v (v_bin o_div (b_name 3) (b_name 4)) (m_v (v_bin o_add (b_name 5) (PV.b v_int)) m_nil))))) (ss_cons (s_for hp hc (i_rng1 bl.range (PV.b (v_bin o_div (b_name 5) (PV.b v_int)))) (g_nm 6 hN) (ss_one (s_set 1 hN (v_bin o_mul (b_name 1) (b_name 4))))) (ss_cons (s_set 2 hN (v_if (t_cmp (o_eq hu) (PV.b (v_bin o_mod (b_name 5) (PV.b v_int))) (PV.b v_int)) (v_bin o_mul (b_name 2) (b_name 4)) (v_name 2))) (ss_one (s_set 4 hN (v_if (t_cmp (o_eq hu) (b_name 4) (PV.b v_int)) (v_bin o_add (b_name 4) (PV.b v_int)) (v_bin o_add (b_name 4) (PV.b v_int)))))))))) (ss_cons (s_set 7 hN (v_callX C_whole_root hG hgd hr (a_cons (v_name 3) a_nil))) (ss_cons (s_if (t_cmp (o_eq hu) (PV.b (v_bin o_mul (b_name 7) (b_name 7))) (b_name 3)) (ss_one (s_ret (v_tup (d_cons (v_bin o_mul (b_name 1) (b_name 7)) (d_cons (v_name 2) d_nil))))) ss_nil) (ss_one (s_ret (v_tup (d_cons (v_name 1) (d_cons (v_bin o_mul (b_name 2) (b_name 3)) d_nil))))))))))
theorem ok_root_parts {P : Program} {w : World} {K : PySem.W.Frag} {mg : Str → Option Value} {base : Heap} {f : Addr} {fd : FuncData} (F : Fun K "root_parts" "root_parts" s_root_parts f fd) (bl : Bl mg) (eh : ErH P K mg) (C_whole_root : Kn P w K mg base 1 "whole_root" ["number"] S_whole_root) : FnG IsLst P w K mg base 2 f fd ["number"] S_root_parts :=
  fng_of F sc_root_parts m_root_parts l_root_parts fun cdv A outer s c hG hgd hr => ⟨g_root_parts, der_root_parts bl eh C_whole_root hG hgd hr, r_root_parts⟩
theorem sc_lowest : FnScope N_lowest ["a", "b", "c", "d"] (defScope s_lowest) := ⟨rfl, rfl, rfl, by decide +kernel, rfl, by decide +kernel, by decide +kernel⟩
theorem der_lowest {P : Program} {w : World} {K : PySem.W.Frag} {mg : Str → Option Value} {base : Heap} {f : Addr} {cdv : Value} {A : Around} {outer : List PySem.Env} {s : Shared} {c : C} (bl : Bl mg) (eh : ErH P K mg) (C_common : Kn P w K mg base 1 "common" ["one", "other"] S_common) (hG : IsLst c) (hgd : A.guards = some []) (hr : Room 1 (A.deeper (envOfC "lowest" (defScope s_lowest) s.heap.objs.size f cdv))) : PSsd (XX P w K mg base N_lowest "lowest" s_lowest f cdv A outer s c.H0) c (defBody s_lowest) g_lowest := by
  have hN : (XX P w K mg base N_lowest "lowest" s_lowest f cdv A outer s c.H0).N.Nodup := sc_lowest.nd
  have hc : (XX P w K mg base N_lowest "lowest" s_lowest f cdv A outer s c.H0).calm = true := rfl
  have hx : ∀ e s1, ¬ (XX P w K mg base N_lowest "lowest" s_lowest f cdv A outer s c.H0).xe e s1 := fun _ _ z => z
  have hp : PassesOwn (model P w) (XX P w K mg base N_lowest "lowest" s_lowest f cdv A outer s c.H0).A (XX P w K mg base N_lowest "lowest" s_lowest f cdv A outer s c.H0).env (XX P w K mg base N_lowest "lowest" s_lowest f cdv A outer s c.H0).xe := PassesOwn.never
  have hu : (XX P w K mg base N_lowest "lowest" s_lowest f cdv A outer s c.H0).A.units + 64 < cLine := units_of hr
  have hu5 : (XX P w K mg base N_lowest "lowest" s_lowest f cdv A outer s c.H0).A.units + 65 < cLine := units65 hr
  exact (ss_cons (s_if (t_cmp o_lt (b_name 2) (PV.b v_int)) (ss_one (s_par3 0 1 2 hc hN (m_v (v_neg (b_name 0)) (m_v (v_neg (b_name 1)) (m_v (v_neg (b_name 2)) m_nil))))) ss_nil) (ss_cons (s_set 4 hN (v_callX C_common hG hgd hr (a_cons (v_callX C_common hG hgd hr (a_cons (v_callB c_abs bl.abs (bb_cons (b_name 0) bb_nil)) (a_cons (v_callB c_abs bl.abs (bb_cons (b_name 1) bb_nil)) a_nil))) (a_cons (v_name 2) a_nil)))) (ss_one (s_ret (v_tup (d_cons (v_bin o_div (b_name 0) (b_name 4)) (d_cons (v_bin o_div (b_name 1) (b_name 4)) (d_cons (v_bin o_div (b_name 2) (b_name 4)) (d_cons (v_if (t_cmp (o_ne hu) (b_name 1) (PV.b v_int)) (v_name 3) v_int) d_nil)))))))))
theorem ok_lowest {P : Program} {w : World} {K : PySem.W.Frag} {mg : Str → Option Value} {base : Heap} {f : Addr} {fd : FuncData} (F : Fun K "lowest" "lowest" s_lowest f fd) (bl : Bl mg) (eh : ErH P K mg) (C_common : Kn P w K mg base 1 "common" ["one", "other"] S_common) : FnG IsLst P w K mg base 2 f fd ["a", "b", "c", "d"] S_lowest :=
  fng_of F sc_lowest m_lowest l_lowest fun cdv A outer s c hG hgd hr => ⟨g_lowest, der_lowest bl eh C_common hG hgd hr, r_lowest⟩
theorem sc__law_pick : FnScope N__law_pick ["bag", "some"] (defScope s__law_pick) := ⟨rfl, rfl, rfl, by decide +kernel, rfl, by decide +kernel, by decide +kernel⟩
theorem der__law_pick {P : Program} {w : World} {K : PySem.W.Frag} {mg : Str → Option Value} {base : Heap} {f : Addr} {cdv : Value} {A : Around} {outer : List PySem.Env} {s : Shared} {c : C} (bl : Bl mg) (eh : ErH P K mg) (C__law_draw : Kn P w K mg base 1 "_law_draw" ["bag", "below"] S__law_draw) (hG : IsLst c) (hgd : A.guards = some []) (hr : Room 1 (A.deeper (envOfC "_law_pick" (defScope s__law_pick) s.heap.objs.size f cdv))) : PSsd (XX P w K mg base N__law_pick "_law_pick" s__law_pick f cdv A outer s c.H0) c (defBody s__law_pick) g__law_pick := by
  have hN : (XX P w K mg base N__law_pick "_law_pick" s__law_pick f cdv A outer s c.H0).N.Nodup := sc__law_pick.nd
  have hc : (XX P w K mg base N__law_pick "_law_pick" s__law_pick f cdv A outer s c.H0).calm = true := rfl
  have hx : ∀ e s1, ¬ (XX P w K mg base N__law_pick "_law_pick" s__law_pick f cdv A outer s c.H0).xe e s1 := fun _ _ z => z
  have hp : PassesOwn (model P w) (XX P w K mg base N__law_pick "_law_pick" s__law_pick f cdv A outer s c.H0).A (XX P w K mg base N__law_pick "_law_pick" s__law_pick f cdv A outer s c.H0).env (XX P w K mg base N__law_pick "_law_pick" s__law_pick f cdv A outer s c.H0).xe := PassesOwn.never
  have hu : (XX P w K mg base N__law_pick "_law_pick" s__law_pick f cdv A outer s c.H0).A.units + 64 < cLine := units_of hr
  have hu5 : (XX P w K mg base N__law_pick "_law_pick" s__law_pick f cdv A outer s c.H0).A.units + 65 < cLine := units65 hr
  exact (ss_one (s_ret (v_ix (b_name 1) (PV.b (v_callX C__law_draw hG hgd hr (a_bag 0 (a_cons (v_callB c_len bl.len (bb_cons (b_name 1) bb_nil)) a_nil)))))))
theorem ok__law_pick {P : Program} {w : World} {K : PySem.W.Frag} {mg : Str → Option Value} {base : Heap} {f : Addr} {fd : FuncData} (F : Fun K "_law_pick" "_law_pick" s__law_pick f fd) (bl : Bl mg) (eh : ErH P K mg) (C__law_draw : Kn P w K mg base 1 "_law_draw" ["bag", "below"] S__law_draw) : FnG IsLst P w K mg base 2 f fd ["bag", "some"] S__law_pick :=
  fng_of F sc__law_pick m__law_pick l__law_pick fun cdv A outer s c hG hgd hr => ⟨g__law_pick, der__law_pick bl eh C__law_draw hG hgd hr, r__law_pick⟩
theorem sc__law_great : FnScope N__law_great ["bag", "below"] (defScope s__law_great) := ⟨rfl, rfl, rfl, by decide +kernel, rfl, by decide +kernel, by decide +kernel⟩
theorem der__law_great {P : Program} {w : World} {K : PySem.W.Frag} {mg : Str → Option Value} {base : Heap} {f : Addr} {cdv : Value} {A : Around} {outer : List PySem.Env} {s : Shared} {c : C} (bl : Bl mg) (eh : ErH P K mg) (C__law_draw : Kn P w K mg base 1 "_law_draw" ["bag", "below"] S__law_draw) (hG : IsLst c) (hgd : A.guards = some []) (hr : Room 1 (A.deeper (envOfC "_law_great" (defScope s__law_great) s.heap.objs.size f cdv))) : PSsd (XX P w K mg base N__law_great "_law_great" s__law_great f cdv A outer s c.H0) c (defBody s__law_great) g__law_great := by
  have hN : (XX P w K mg base N__law_great "_law_great" s__law_great f cdv A outer s c.H0).N.Nodup := sc__law_great.nd
  have hc : (XX P w K mg base N__law_great "_law_great" s__law_great f cdv A outer s c.H0).calm = true := rfl
  have hx : ∀ e s1, ¬ (XX P w K mg base N__law_great "_law_great" s__law_great f cdv A outer s c.H0).xe e s1 := fun _ _ z => z
  have hp : PassesOwn (model P w) (XX P w K mg base N__law_great "_law_great" s__law_great f cdv A outer s c.H0).A (XX P w K mg base N__law_great "_law_great" s__law_great f cdv A outer s c.H0).env (XX P w K mg base N__law_great "_law_great" s__law_great f cdv A outer s c.H0).xe := PassesOwn.never
  have hu : (XX P w K mg base N__law_great "_law_great" s__law_great f cdv A outer s c.H0).A.units + 64 < cLine := units_of hr
  have hu5 : (XX P w K mg base N__law_great "_law_great" s__law_great f cdv A outer s c.H0).A.units + 65 < cLine := units65 hr
  exact (ss_cons (s_set 2 hN v_int) (ss_cons (s_for hp hc (i_rng1 bl.range (PV.b v_int)) (g_nm 3 hN) (ss_one (s_set 2 hN (v_bin o_add (PV.b (v_bin o_mul (b_name 2) (PV.b (v_bin o_pow (PV.b v_int) (PV.b v_int))))) (PV.b (v_callX C__law_draw hG hgd hr (a_bag 0 (a_cons (v_bin o_pow (PV.b v_int) (PV.b v_int)) a_nil)))))))) (ss_one (s_ret (v_bin o_mod (b_name 2) (b_name 1))))))
theorem ok__law_great {P : Program} {w : World} {K : PySem.W.Frag} {mg : Str → Option Value} {base : Heap} {f : Addr} {fd : FuncData} (F : Fun K "_law_great" "_law_great" s__law_great f fd) (bl : Bl mg) (eh : ErH P K mg) (C__law_draw : Kn P w K mg base 1 "_law_draw" ["bag", "below"] S__law_draw) : FnG IsLst P w K mg base 2 f fd ["bag", "below"] S__law_great :=
  fng_of F sc__law_great m__law_great l__law_great fun cdv A outer s c hG hgd hr => ⟨g__law_great, der__law_great bl eh C__law_draw hG hgd hr, r__law_great⟩
theorem sc__law_parts : FnScope N__law_parts ["d"] (defScope s__law_parts) := ⟨rfl, rfl, rfl, by decide +kernel, rfl, by decide +kernel, by decide +kernel⟩
theorem der__law_parts {P : Program} {w : World} {K : PySem.W.Frag} {mg : Str → Option Value} {base : Heap} {f : Addr} {cdv : Value} {A : Around} {outer : List PySem.Env} {s : Shared} {c : C} (bl : Bl mg) (eh : ErH P K mg) (C__law_root_of : Kn P w K mg base 1 "_law_root_of" ["n"] S__law_root_of) (hG : IsLst c) (hgd : A.guards = some []) (hr : Room 1 (A.deeper (envOfC "_law_parts" (defScope s__law_parts) s.heap.objs.size f cdv))) : PSsd (XX P w K mg base N__law_parts "_law_parts" s__law_parts f cdv A outer s c.H0) c (defBody s__law_parts) g__law_parts := by
  have hN : (XX P w K mg base N__law_parts "_law_parts" s__law_parts f cdv A outer s c.H0).N.Nodup := sc__law_parts.nd
  have hc : (XX P w K mg base N__law_parts "_law_parts" s__law_parts f cdv A outer s c.H0).calm = true := rfl
  have hx : ∀ e s1, ¬ (XX P w K mg base N__law_parts "_law_parts" s__law_parts f cdv A outer s c.H0).xe e s1 := fun _ _ z => z
  have hp : PassesOwn (model P w) (XX P w K mg base N__law_parts "_law_parts" s__law_parts f cdv A outer s c.H0).A (XX P w K mg base N__law_parts "_law_parts" s__law_parts f cdv A outer s c.H0).env (XX P w K mg base N__law_parts "_law_parts" s__law_parts f cdv A outer s c.H0).xe := PassesOwn.never
  have hu : (XX P w K mg base N__law_parts "_law_parts" s__law_parts f cdv A outer s c.H0).A.units + 64 < cLine := units_of hr
  have hu5 : (XX P w K mg base N__law_parts "_law_parts" s__law_parts f cdv A outer s c.H0).A.units + 65 < cLine := units65 hr
  exact (ss_cons (s_par3 1 2 3 hc hN (m_v v_int (m_v v_int (m_v (v_name 0) m_nil)))) (ss_cons (s_for hp hc (i_rng2 bl.range (PV.b v_int) (PV.b v_int)) (g_nm 4 hN) (ss_cons (s_while hp (t_cmp (o_eq hu) (PV.b (v_bin o_mod (b_name 3) (PV.b (v_bin o_mul (b_name 4) (b_name 4))))) (PV.b v_int)) (ss_one (s_par 1 3 hc hN (m_v (v_bin o_mul (b_name 1) (b_name 4)) (m_v (v_bin o_div (b_name 3) (PV.b (v_bin o_mul (b_name 4) (b_name 4)))) m_nil))))) (ss_one (s_if (t_cmp (o_eq hu) (PV.b (v_bin o_mod (b_name 3) (b_name 4))) (PV.b v_int)) (ss_one (s_par 2 3 hc hN (m_v (v_bin o_mul (b_name 2) (b_name 4)) (m_v (v_bin o_div (b_name 3) (b_name 4)) m_nil)))) ss_nil)))) (ss_cons (s_set 5 hN (v_callX C__law_root_of hG hgd hr (a_cons (v_name 3) a_nil))) (ss_one (s_ret (v_if (t_cmp (o_eq hu) (PV.b (v_bin o_mul (b_name 5) (b_name 5))) (b_name 3)) (v_tup (d_cons (v_bin o_mul (b_name 1) (b_name 5)) (d_cons (v_name 2) d_nil))) (v_tup (d_cons (v_name 1) (d_cons (v_bin o_mul (b_name 2) (b_name 3)) d_nil)))))))))
theorem ok__law_parts {P : Program} {w : World} {K : PySem.W.Frag} {mg : Str → Option Value} {base : Heap} {f : Addr} {fd : FuncData} (F : Fun K "_law_parts" "_law_parts" s__law_parts f fd) (bl : Bl mg) (eh : ErH P K mg) (C__law_root_of : Kn P w K mg base 1 "_law_root_of" ["n"] S__law_root_of) : FnG IsLst P w K mg base 2 f fd ["d"] S__law_parts :=
  fng_of F sc__law_parts m__law_parts l__law_parts fun cdv A outer s c hG hgd hr => ⟨g__law_parts, der__law_parts bl eh C__law_root_of hG hgd hr, r__law_parts⟩
theorem sc__law_surd : FnScope N__law_surd ["a", "b", "c", "d"] (defScope s__law_surd) := ⟨rfl, rfl, rfl, by decide +kernel, rfl, by decide +kernel, by decide +kernel⟩
theorem der__law_surd {P : Program} {w : World} {K : PySem.W.Frag} {mg : Str → Option Value} {base : Heap} {f : Addr} {cdv : Value} {A : Around} {outer : List PySem.Env} {s : Shared} {c : C} (bl : Bl mg) (eh : ErH P K mg) (C__law_common : Kn P w K mg base 1 "_law_common" ["one", "other"] S__law_common) (hG : IsLst c) (hgd : A.guards = some []) (hr : Room 1 (A.deeper (envOfC "_law_surd" (defScope s__law_surd) s.heap.objs.size f cdv))) : PSsd (XX P w K mg base N__law_surd "_law_surd" s__law_surd f cdv A outer s c.H0) c (defBody s__law_surd) g__law_surd := by
  have hN : (XX P w K mg base N__law_surd "_law_surd" s__law_surd f cdv A outer s c.H0).N.Nodup := sc__law_surd.nd
  have hc : (XX P w K mg base N__law_surd "_law_surd" s__law_surd f cdv A outer s c.H0).calm = true := rfl
  have hx : ∀ e s1, ¬ (XX P w K mg base N__law_surd "_law_surd" s__law_surd f cdv A outer s c.H0).xe e s1 := fun _ _ z => z
  have hp : PassesOwn (model P w) (XX P w K mg base N__law_surd "_law_surd" s__law_surd f cdv A outer s c.H0).A (XX P w K mg base N__law_surd "_law_surd" s__law_surd f cdv A outer s c.H0).env (XX P w K mg base N__law_surd "_law_surd" s__law_surd f cdv A outer s c.H0).xe := PassesOwn.never
  have hu : (XX P w K mg base N__law_surd "_law_surd" s__law_surd f cdv A outer s c.H0).A.units + 64 < cLine := units_of hr
  have hu5 : (XX P w K mg base N__law_surd "_law_surd" s__law_surd f cdv A outer s c.H0).A.units + 65 < cLine := units65 hr
  exact (ss_cons (s_set 4 hN (v_callX C__law_common hG hgd hr (a_cons (v_callX C__law_common hG hgd hr (a_cons (v_name 0) (a_cons (v_name 1) a_nil))) (a_cons (v_name 2) a_nil)))) (ss_cons (s_set 4 hN (v_if (t_cmp o_gt (b_name 2) (PV.b v_int)) (v_name 4) (v_neg (b_name 4)))) (ss_one (s_ret (v_tup (d_cons (v_bin o_div (b_name 0) (b_name 4)) (d_cons (v_bin o_div (b_name 1) (b_name 4)) (d_cons (v_bin o_div (b_name 2) (b_name 4)) (d_cons (v_if (t_cmp (o_ne hu) (b_name 1) (PV.b v_int)) (v_name 3) v_int) d_nil)))))))))
theorem ok__law_surd {P : Program} {w : World} {K : PySem.W.Frag} {mg : Str → Option Value} {base : Heap} {f : Addr} {fd : FuncData} (F : Fun K "_law_surd" "_law_surd" s__law_surd f fd) (bl : Bl mg) (eh : ErH P K mg) (C__law_common : Kn P w K mg base 1 "_law_common" ["one", "other"] S__law_common) : FnG IsLst P w K mg base 2 f fd ["a", "b", "c", "d"] S__law_surd :=
  fng_of F sc__law_surd m__law_surd l__law_surd fun cdv A outer s c hG hgd hr => ⟨g__law_surd, der__law_surd bl eh C__law_common hG hgd hr, r__law_surd⟩
theorem sc_surd_of : FnScope N_surd_of ["a", "b", "c", "d"] (defScope s_surd_of) := ⟨rfl, rfl, rfl, by decide +kernel, rfl, by decide +kernel, by decide +kernel⟩
theorem der_surd_of {P : Program} {w : World} {K : PySem.W.Frag} {mg : Str → Option Value} {base : Heap} {f : Addr} {cdv : Value} {A : Around} {outer : List PySem.Env} {s : Shared} {c : C} (bl : Bl mg) (eh : ErH P K mg) (C_root_parts : Kn P w K mg base 2 "root_parts" ["number"] S_root_parts) (C_lowest : Kn P w K mg base 2 "lowest" ["a", "b", "c", "d"] S_lowest) (hG : IsLst c) (hgd : A.guards = some []) (hr : Room 2 (A.deeper (envOfC "surd_of" (defScope s_surd_of) s.heap.objs.size f cdv))) : PSsd (XX P w K mg base N_surd_of "surd_of" s_surd_of f cdv A outer s c.H0) c (defBody s_surd_of) g_surd_of := by
  have hN : (XX P w K mg base N_surd_of "surd_of" s_surd_of f cdv A outer s c.H0).N.Nodup := sc_surd_of.nd
  have hc : (XX P w K mg base N_surd_of "surd_of" s_surd_of f cdv A outer s c.H0).calm = true := rfl
  have hx : ∀ e s1, ¬ (XX P w K mg base N_surd_of "surd_of" s_surd_of f cdv A outer s c.H0).xe e s1 := fun _ _ z => z
  have hp : PassesOwn (model P w) (XX P w K mg base N_surd_of "surd_of" s_surd_of f cdv A outer s c.H0).A (XX P w K mg base N_surd_of "surd_of" s_surd_of f cdv A outer s c.H0).env (XX P w K mg base N_surd_of "surd_of" s_surd_of f cdv A outer s c.H0).xe := PassesOwn.never
  have hu : (XX P w K mg base N_surd_of "surd_of" s_surd_of f cdv A outer s c.H0).A.units + 64 < cLine := units_of hr
  have hu5 : (XX P w K mg base N_surd_of "surd_of" s_surd_of f cdv A outer s c.H0).A.units + 65 < cLine := units65 hr
  exact (ss_cons (s_asg (v_callX C_root_parts hG hgd hr (a_cons (v_name 3) a_nil)) (g_sq hc (gs_cons (g_nm 4 hN) (gs_cons (g_nm 5 hN) gs_nil)))) (ss_one (s_ret (v_if (t_cmp (o_eq hu) (b_name 5) (PV.b v_int)) (v_callX C_lowest hG hgd hr (a_cons (v_bin o_add (b_name 0) (PV.b (v_bin o_mul (b_name 1) (b_name 4)))) (a_cons v_int (a_cons (v_name 2) (a_cons v_int a_nil))))) (v_callX C_lowest hG hgd hr (a_cons (v_name 0) (a_cons (v_bin o_mul (b_name 1) (b_name 4)) (a_cons (v_name 2) (a_cons (v_name 5) a_nil)))))))))
theorem ok_surd_of {P : Program} {w : World} {K : PySem.W.Frag} {mg : Str → Option Value} {base : Heap} {f : Addr} {fd : FuncData} (F : Fun K "surd_of" "surd_of" s_surd_of f fd) (bl : Bl mg) (eh : ErH P K mg) (C_root_parts : Kn P w K mg base 2 "root_parts" ["number"] S_root_parts) (C_lowest : Kn P w K mg base 2 "lowest" ["a", "b", "c", "d"] S_lowest) : FnG IsLst P w K mg base 3 f fd ["a", "b", "c", "d"] S_surd_of :=
  fng_of F sc_surd_of m_surd_of l_surd_of fun cdv A outer s c hG hgd hr => ⟨g_surd_of, der_surd_of bl eh C_root_parts C_lowest hG hgd hr, r_surd_of⟩
theorem sc_surd_error : FnScope N_surd_error ["value"] (defScope s_surd_error) := ⟨rfl, rfl, rfl, by decide +kernel, rfl, by decide +kernel, by decide +kernel⟩
theorem der_surd_error {P : Program} {w : World} {K : PySem.W.Frag} {mg : Str → Option Value} {base : Heap} {f : Addr} {cdv : Value} {A : Around} {outer : List PySem.Env} {s : Shared} {c : C} (bl : Bl mg) (eh : ErH P K mg) (C_is_integer : Kn P w K mg base 2 "is_integer" ["value"] S_is_integer) (C_is_tuple : Kn P w K mg base 2 "is_tuple" ["value", "many"] S_is_tuple) (C_common : Kn P w K mg base 2 "common" ["one", "other"] S_common) (C_root_parts : Kn P w K mg base 2 "root_parts" ["number"] S_root_parts) (hG : IsLst c) (hgd : A.guards = some []) (hr : Room 2 (A.deeper (envOfC "surd_error" (defScope s_surd_error) s.heap.objs.size f cdv))) : PSsd (XX P w K mg base N_surd_error "surd_error" s_surd_error f cdv A outer s c.H0) c (defBody s_surd_error) g_surd_error := by
  have hN : (XX P w K mg base N_surd_error "surd_error" s_surd_error f cdv A outer s c.H0).N.Nodup := sc_surd_error.nd
  have hc : (XX P w K mg base N_surd_error "surd_error" s_surd_error f cdv A outer s c.H0).calm = true := rfl
  have hx : ∀ e s1, ¬ (XX P w K mg base N_surd_error "surd_error" s_surd_error f cdv A outer s c.H0).xe e s1 := fun _ _ z => z
  have hp : PassesOwn (model P w) (XX P w K mg base N_surd_error "surd_error" s_surd_error f cdv A outer s c.H0).A (XX P w K mg base N_surd_error "surd_error" s_surd_error f cdv A outer s c.H0).env (XX P w K mg base N_surd_error "surd_error" s_surd_error f cdv A outer s c.H0).xe := PassesOwn.never
  have hu : (XX P w K mg base N_surd_error "surd_error" s_surd_error f cdv A outer s c.H0).A.units + 64 < cLine := units_of hr
  have hu5 : (XX P w K mg base N_surd_error "surd_error" s_surd_error f cdv A outer s c.H0).A.units + 65 < cLine := units65 hr
  obtain ⟨_, h_MAX_ROOT⟩ := bl.c_MAX_ROOT
  obtain ⟨_, h_MAX_PART⟩ := bl.c_MAX_PART
  exact (ss_cons (s_if (PWd.t (w_or (t_not (t_val (PV.b (v_callX C_is_tuple hG hgd hr (a_cons (v_name 0) (a_cons v_int a_nil)))))) (w_or1 (t_not (t_val (PV.b (v_callB (c_all hc) bl.all (bb_cons (PV.b (PN.v (n_lc hc hN (own := [("item", 1)]) (by first | rfl | decide +kernel) (i_seq (v_name 0)) (fun _ _ _ _ _ => (g_nm 1 (by exact hN))) (fun _ _ _ _ _ => ts_nil) (fun _ _ _ _ _ => (v_callX C_is_integer hG (by exact hgd) (by exact hr) (a_cons (v_name 1) a_nil)))))) bb_nil)))))))) (ss_one (s_ret v_str)) ss_nil) (ss_cons (s_asg (v_name 0) (g_sq hc (gs_cons (g_nm 2 hN) (gs_cons (g_nm 3 hN) (gs_cons (g_nm 4 hN) (gs_cons (g_nm 5 hN) gs_nil)))))) (ss_cons (s_if (PWd.t (w_or (t_cmp o_gt (PV.b (v_callB (c_maxL hc) bl.max (bb_cons (PV.b (PN.v (n_lst (d_cons (v_callB c_abs bl.abs (bb_cons (b_name 2) bb_nil)) (d_cons (v_callB c_abs bl.abs (bb_cons (b_name 3) bb_nil)) (d_cons (v_callB c_abs bl.abs (bb_cons (b_name 4) bb_nil)) d_nil)))))) bb_nil))) (PV.b (v_glob (i := 1000000000000) rfl h_MAX_PART))) (w_or1 (t_cmp o_gt (b_name 5) (PV.b (v_glob (i := 1000000) rfl h_MAX_ROOT)))))) (ss_one (s_ret v_str)) ss_nil) (ss_cons (s_if (PWd.t (w_or (t_cmp o_lt (b_name 4) (PV.b v_int)) (w_or1 (t_cmp o_gt (PV.b (v_callX C_common hG hgd hr (a_cons (v_callX C_common hG hgd hr (a_cons (v_callB c_abs bl.abs (bb_cons (b_name 2) bb_nil)) (a_cons (v_callB c_abs bl.abs (bb_cons (b_name 3) bb_nil)) a_nil))) (a_cons (v_name 4) a_nil)))) (PV.b v_int))))) (ss_one (s_ret v_str)) ss_nil) (ss_cons (s_if (PWd.t (w_or (t_cmp (o_ne hu) (PV.b (v_cmp (o_eq hu) (b_name 3) (PV.b v_int))) (PV.b (v_cmp (o_eq hu) (b_name 5) (PV.b v_int)))) (w_or (t_cmp o_lt (b_name 5) (PV.b v_int)) (w_or1 (t_cmp (o_eq hu) (b_name 5) (PV.b v_int)))))) (ss_one (s_ret v_str)) ss_nil) (ss_one (s_ret (v_if (PWd.t (w_and (t_cmp o_gt (b_name 5) (PV.b v_int)) (w_and1 (t_cmp o_gt (PV.b (v_ix (PV.b (v_callX C_root_parts hG hgd hr (a_cons (v_name 5) a_nil))) (PV.b v_int))) (PV.b v_int))))) v_str v_non))))))))
theorem ok_surd_error {P : Program} {w : World} {K : PySem.W.Frag} {mg : Str → Option Value} {base : Heap} {f : Addr} {fd : FuncData} (F : Fun K "surd_error" "surd_error" s_surd_error f fd) (bl : Bl mg) (eh : ErH P K mg) (C_is_integer : Kn P w K mg base 2 "is_integer" ["value"] S_is_integer) (C_is_tuple : Kn P w K mg base 2 "is_tuple" ["value", "many"] S_is_tuple) (C_common : Kn P w K mg base 2 "common" ["one", "other"] S_common) (C_root_parts : Kn P w K mg base 2 "root_parts" ["number"] S_root_parts) : FnG IsLst P w K mg base 3 f fd ["value"] S_surd_error :=
  fng_of F sc_surd_error m_surd_error l_surd_error fun cdv A outer s c hG hgd hr => ⟨g_surd_error, der_surd_error bl eh C_is_integer C_is_tuple C_common C_root_parts hG hgd hr, r_surd_error⟩
theorem sc_surd_sum : FnScope N_surd_sum ["one", "other"] (defScope s_surd_sum) := ⟨rfl, rfl, rfl, by decide +kernel, rfl, by decide +kernel, by decide +kernel⟩
theorem der_surd_sum {P : Program} {w : World} {K : PySem.W.Frag} {mg : Str → Option Value} {base : Heap} {f : Addr} {cdv : Value} {A : Around} {outer : List PySem.Env} {s : Shared} {c : C} (bl : Bl mg) (eh : ErH P K mg) (C_lowest : Kn P w K mg base 2 "lowest" ["a", "b", "c", "d"] S_lowest) (hG : IsLst c) (hgd : A.guards = some []) (hr : Room 2 (A.deeper (envOfC "surd_sum" (defScope s_surd_sum) s.heap.objs.size f cdv))) : PSsd (XX P w K mg base N_surd_sum "surd_sum" s_surd_sum f cdv A outer s c.H0) c (defBody s_surd_sum) g_surd_sum := by
  have hN : (XX P w K mg base N_surd_sum "surd_sum" s_surd_sum f cdv A outer s c.H0).N.Nodup := sc_surd_sum.nd
  have hc : (XX P w K mg base N_surd_sum "surd_sum" s_surd_sum f cdv A outer s c.H0).calm = true := rfl
  have hx : ∀ e s1, ¬ (XX P w K mg base N_surd_sum "surd_sum" s_surd_sum f cdv A outer s c.H0).xe e s1 := fun _ _ z => z
  have hp : PassesOwn (model P w) (XX P w K mg base N_surd_sum "surd_sum" s_surd_sum f cdv A outer s c.H0).A (XX P w K mg base N_surd_sum "surd_sum" s_surd_sum f cdv A outer s c.H0).env (XX P w K mg base N_surd_sum "surd_sum" s_surd_sum f cdv A outer s c.H0).xe := PassesOwn.never
  have hu : (XX P w K mg base N_surd_sum "surd_sum" s_surd_sum f cdv A outer s c.H0).A.units + 64 < cLine := units_of hr
  have hu5 : (XX P w K mg base N_surd_sum "surd_sum" s_surd_sum f cdv A outer s c.H0).A.units + 65 < cLine := units65 hr
  exact (ss_cons (s_set 2 hN (v_bin o_add (PV.b (v_bin o_mul (PV.b (v_ix (b_name 0) (PV.b v_int))) (PV.b (v_ix (b_name 1) (PV.b v_int))))) (PV.b (v_bin o_mul (PV.b (v_ix (b_name 1) (PV.b v_int))) (PV.b (v_ix (b_name 0) (PV.b v_int))))))) (ss_one (s_ret (v_callX C_lowest hG hgd hr (a_cons (v_name 2) (a_cons (v_bin o_add (PV.b (v_bin o_mul (PV.b (v_ix (b_name 0) (PV.b v_int))) (PV.b (v_ix (b_name 1) (PV.b v_int))))) (PV.b (v_bin o_mul (PV.b (v_ix (b_name 1) (PV.b v_int))) (PV.b (v_ix (b_name 0) (PV.b v_int)))))) (a_cons (v_bin o_mul (PV.b (v_ix (b_name 0) (PV.b v_int))) (PV.b (v_ix (b_name 1) (PV.b v_int)))) (a_cons (v_callB (c_max2 hc) bl.max (bb_cons (PV.b (v_ix (b_name 0) (PV.b v_int))) (bb_cons (PV.b (v_ix (b_name 1) (PV.b v_int))) bb_nil))) a_nil))))))))
theorem ok_surd_sum {P : Program} {w : World} {K : PySem.W.Frag} {mg : Str → Option Value} {base : Heap} {f : Addr} {fd : FuncData} (F : Fun K "surd_sum" "surd_sum" s_surd_sum f fd) (bl : Bl mg) (eh : ErH P K mg) (C_lowest : Kn P w K mg base 2 "lowest" ["a", "b", "c", "d"] S_lowest) : FnG IsLst P w K mg base 3 f fd ["one", "other"] S_surd_sum :=
  fng_of F sc_surd_sum m_surd_sum l_surd_sum fun cdv A outer s c hG hgd hr => ⟨g_surd_sum, der_surd_sum bl eh C_lowest hG hgd hr, r_surd_sum⟩
theorem sc_surd_times : FnScope N_surd_times ["one", "other"] (defScope s_surd_times) := ⟨rfl, rfl, rfl, by decide +kernel, rfl, by decide +kernel, by decide +kernel⟩
theorem der_surd_times {P : Program} {w : World} {K : PySem.W.Frag} {mg : Str → Option Value} {base : Heap} {f : Addr} {cdv : Value} {A : Around} {outer : List PySem.Env} {s : Shared} {c : C} (bl : Bl mg) (eh : ErH P K mg) (C_lowest : Kn P w K mg base 2 "lowest" ["a", "b", "c", "d"] S_lowest) (hG : IsLst c) (hgd : A.guards = some []) (hr : Room 2 (A.deeper (envOfC "surd_times" (defScope s_surd_times) s.heap.objs.size f cdv))) : PSsd (XX P w K mg base N_surd_times "surd_times" s_surd_times f cdv A outer s c.H0) c (defBody s_surd_times) g_surd_times := by
  have hN : (XX P w K mg base N_surd_times "surd_times" s_surd_times f cdv A outer s c.H0).N.Nodup := sc_surd_times.nd
  have hc : (XX P w K mg base N_surd_times "surd_times" s_surd_times f cdv A outer s c.H0).calm = true := rfl
  have hx : ∀ e s1, ¬ (XX P w K mg base N_surd_times "surd_times" s_surd_times f cdv A outer s c.H0).xe e s1 := fun _ _ z => z
  have hp : PassesOwn (model P w) (XX P w K mg base N_surd_times "surd_times" s_surd_times f cdv A outer s c.H0).A (XX P w K mg base N_surd_times "surd_times" s_surd_times f cdv A outer s c.H0).env (XX P w K mg base N_surd_times "surd_times" s_surd_times f cdv A outer s c.H0).xe := PassesOwn.never
  have hu : (XX P w K mg base N_surd_times "surd_times" s_surd_times f cdv A outer s c.H0).A.units + 64 < cLine := units_of hr
  have hu5 : (XX P w K mg base N_surd_times "surd_times" s_surd_times f cdv A outer s c.H0).A.units + 65 < cLine := units65 hr
  exact (ss_cons (s_set 2 hN (v_callB (c_max2 hc) bl.max (bb_cons (PV.b (v_ix (b_name 0) (PV.b v_int))) (bb_cons (PV.b (v_ix (b_name 1) (PV.b v_int))) bb_nil)))) (ss_cons (s_set 3 hN (v_bin o_add (PV.b (v_bin o_mul (PV.b (v_ix (b_name 0) (PV.b v_int))) (PV.b (v_ix (b_name 1) (PV.b v_int))))) (PV.b (v_bin o_mul (PV.b (v_bin o_mul (PV.b (v_ix (b_name 0) (PV.b v_int))) (PV.b (v_ix (b_name 1) (PV.b v_int))))) (b_name 2))))) (ss_one (s_ret (v_callX C_lowest hG hgd hr (a_cons (v_name 3) (a_cons (v_bin o_add (PV.b (v_bin o_mul (PV.b (v_ix (b_name 0) (PV.b v_int))) (PV.b (v_ix (b_name 1) (PV.b v_int))))) (PV.b (v_bin o_mul (PV.b (v_ix (b_name 0) (PV.b v_int))) (PV.b (v_ix (b_name 1) (PV.b v_int)))))) (a_cons (v_bin o_mul (PV.b (v_ix (b_name 0) (PV.b v_int))) (PV.b (v_ix (b_name 1) (PV.b v_int)))) (a_cons (v_name 2) a_nil)))))))))
theorem ok_surd_times {P : Program} {w : World} {K : PySem.W.Frag} {mg : Str → Option Value} {base : Heap} {f : Addr} {fd : FuncData} (F : Fun K "surd_times" "surd_times" s_surd_times f fd) (bl : Bl mg) (eh : ErH P K mg) (C_lowest : Kn P w K mg base 2 "lowest" ["a", "b", "c", "d"] S_lowest) : FnG IsLst P w K mg base 3 f fd ["one", "other"] S_surd_times :=
  fng_of F sc_surd_times m_surd_times l_surd_times fun cdv A outer s c hG hgd hr => ⟨g_surd_times, der_surd_times bl eh C_lowest hG hgd hr, r_surd_times⟩
theorem sc_surd_back : FnScope N_surd_back ["one"] (defScope s_surd_back) := ⟨rfl, rfl, rfl, by decide +kernel, rfl, by decide +kernel, by decide +kernel⟩
theorem der_surd_back {P : Program} {w : World} {K : PySem.W.Frag} {mg : Str → Option Value} {base : Heap} {f : Addr} {cdv : Value} {A : Around} {outer : List PySem.Env} {s : Shared} {c : C} (bl : Bl mg) (eh : ErH P K mg) (C_lowest : Kn P w K mg base 2 "lowest" ["a", "b", "c", "d"] S_lowest) (hG : IsLst c) (hgd : A.guards = some []) (hr : Room 2 (A.deeper (envOfC "surd_back" (defScope s_surd_back) s.heap.objs.size f cdv))) {E : XK} {W : WE} (tk : Takes (XR P w K mg base N_surd_back "surd_back" s_surd_back f cdv A outer s c.H0 E) (toW c K W)) (hp : PassesOwn (model P w) (A.deeper (envOfC "surd_back" (defScope s_surd_back) s.heap.objs.size f cdv)) (envOfC "surd_back" (defScope s_surd_back) s.heap.objs.size f cdv) (XR P w K mg base N_surd_back "surd_back" s_surd_back f cdv A outer s c.H0 E).xe) : PSsd (XR P w K mg base N_surd_back "surd_back" s_surd_back f cdv A outer s c.H0 E) c (defBody s_surd_back) (g_surd_back W) := by
  have hN : (XR P w K mg base N_surd_back "surd_back" s_surd_back f cdv A outer s c.H0 E).N.Nodup := sc_surd_back.nd
  have hc : (XR P w K mg base N_surd_back "surd_back" s_surd_back f cdv A outer s c.H0 E).calm = true := rfl
  have hu : (XR P w K mg base N_surd_back "surd_back" s_surd_back f cdv A outer s c.H0 E).A.units + 64 < cLine := units_of hr
  have hu5 : (XR P w K mg base N_surd_back "surd_back" s_surd_back f cdv A outer s c.H0 E).A.units + 65 < cLine := units65 hr
  exact (ss_cons (s_asg (v_name 0) (g_sq hc (gs_cons (g_nm 1 hN) (gs_cons (g_nm 2 hN) (gs_cons (g_nm 3 hN) (gs_cons (g_nm 4 hN) gs_nil)))))) (ss_cons (s_if (PWd.t (w_and (t_cmp (o_eq hu) (b_name 1) (PV.b v_int)) (w_and1 (t_cmp (o_eq hu) (b_name 2) (PV.b v_int))))) (ss_one (s_raise0 hc tk (eh.mk0 _ (by decide)) hr eh.sup (eh.z _ (by decide)))) ss_nil) (ss_one (s_ret (v_callX C_lowest hG hgd hr (a_cons (v_bin o_mul (b_name 3) (b_name 1)) (a_cons (v_bin o_mul (PV.b (v_neg (b_name 3))) (b_name 2)) (a_cons (v_bin o_sub (PV.b (v_bin o_mul (b_name 1) (b_name 1))) (PV.b (v_bin o_mul (PV.b (v_bin o_mul (b_name 2) (b_name 2))) (b_name 4)))) (a_cons (v_name 4) a_nil)))))))))
theorem ok_surd_back {P : Program} {w : World} {K : PySem.W.Frag} {mg : Str → Option Value} {base : Heap} {f : Addr} {fd : FuncData} (F : Fun K "surd_back" "surd_back" s_surd_back f fd) (bl : Bl mg) (eh : ErH P K mg) (C_lowest : Kn P w K mg base 2 "lowest" ["a", "b", "c", "d"] S_lowest) : FnE IsLst P w K mg base 3 f fd ["one"] S_surd_back :=
  fne_of F sc_surd_back m_surd_back l_surd_back g_surd_back (fun cdv A outer s c E W hG hgd hr tk hp => der_surd_back bl eh C_lowest hG hgd hr tk hp) r_surd_back
theorem sc__law_square_free : FnScope N__law_square_free ["bag"] (defScope s__law_square_free) := ⟨rfl, rfl, rfl, by decide +kernel, rfl, by decide +kernel, by decide +kernel⟩
theorem der__law_square_free {P : Program} {w : World} {K : PySem.W.Frag} {mg : Str → Option Value} {base : Heap} {f : Addr} {cdv : Value} {A : Around} {outer : List PySem.Env} {s : Shared} {c : C} (bl : Bl mg) (eh : ErH P K mg) (C__law_draw : Kn P w K mg base 2 "_law_draw" ["bag", "below"] S__law_draw) (C__law_pick : Kn P w K mg base 2 "_law_pick" ["bag", "some"] S__law_pick) (C__law_parts : Kn P w K mg base 2 "_law_parts" ["d"] S__law_parts) (hG : IsLst c) (hgd : A.guards = some []) (hr : Room 2 (A.deeper (envOfC "_law_square_free" (defScope s__law_square_free) s.heap.objs.size f cdv))) : PSsd (XX P w K mg base N__law_square_free "_law_square_free" s__law_square_free f cdv A outer s c.H0) c (defBody s__law_square_free) g__law_square_free := by
  have hN : (XX P w K mg base N__law_square_free "_law_square_free" s__law_square_free f cdv A outer s c.H0).N.Nodup := sc__law_square_free.nd
  have hc : (XX P w K mg base N__law_square_free "_law_square_free" s__law_square_free f cdv A outer s c.H0).calm = true := rfl
  have hx : ∀ e s1, ¬ (XX P w K mg base N__law_square_free "_law_square_free" s__law_square_free f cdv A outer s c.H0).xe e s1 := fun _ _ z => z
  have hp : PassesOwn (model P w) (XX P w K mg base N__law_square_free "_law_square_free" s__law_square_free f cdv A outer s c.H0).A (XX P w K mg base N__law_square_free "_law_square_free" s__law_square_free f cdv A outer s c.H0).env (XX P w K mg base N__law_square_free "_law_square_free" s__law_square_free f cdv A outer s c.H0).xe := PassesOwn.never
  have hu : (XX P w K mg base N__law_square_free "_law_square_free" s__law_square_free f cdv A outer s c.H0).A.units + 64 < cLine := units_of hr
  have hu5 : (XX P w K mg base N__law_square_free "_law_square_free" s__law_square_free f cdv A outer s c.H0).A.units + 65 < cLine := units65 hr
  exact (ss_cons (s_set 1 hN (v_callX C__law_draw hG hgd hr (a_bag 0 (a_cons v_int a_nil)))) (ss_cons (s_if (t_cmp (o_eq hu) (b_name 1) (PV.b v_int)) (ss_one (s_ret (v_callX C__law_pick hG hgd hr (a_bag 0 (a_cons (PN.v (n_lst (d_cons v_int (d_cons v_int (d_cons v_int (d_cons v_int (d_cons v_int (d_cons v_int (d_cons v_int (d_cons v_int (d_cons v_int (d_cons v_int d_nil)))))))))))) a_nil))))) ss_nil) (ss_cons (s_if (t_cmp (o_eq hu) (b_name 1) (PV.b v_int)) (ss_one (s_ret (v_callX C__law_pick hG hgd hr (a_bag 0 (a_cons (PN.v (n_lst (d_cons v_int (d_cons v_int (d_cons v_int (d_cons v_int (d_cons (v_bin o_add (PV.b (v_bin o_div (PV.b v_int) (PV.b v_int))) (PV.b v_int)) (d_cons v_int (d_cons (v_bin o_mul (PV.b v_int) (PV.b v_int)) (d_cons (v_bin o_mul (PV.b v_int) (PV.b v_int)) d_nil)))))))))) a_nil))))) ss_nil) (ss_cons (s_set 2 hN (v_ix (PV.b (v_callX C__law_parts hG hgd hr (a_cons (v_bin o_add (PV.b v_int) (PV.b (v_callX C__law_draw hG hgd hr (a_bag 0 (a_cons (v_bin o_sub (PV.b (v_bin o_pow (PV.b v_int) (PV.b v_int))) (PV.b v_int)) a_nil))))) a_nil))) (PV.b v_int))) (ss_one (s_ret (v_if (t_cmp o_gt (b_name 2) (PV.b v_int)) (v_name 2) v_int)))))))
theorem ok__law_square_free {P : Program} {w : World} {K : PySem.W.Frag} {mg : Str → Option Value} {base : Heap} {f : Addr} {fd : FuncData} (F : Fun K "_law_square_free" "_law_square_free" s__law_square_free f fd) (bl : Bl mg) (eh : ErH P K mg) (C__law_draw : Kn P w K mg base 2 "_law_draw" ["bag", "below"] S__law_draw) (C__law_pick : Kn P w K mg base 2 "_law_pick" ["bag", "some"] S__law_pick) (C__law_parts : Kn P w K mg base 2 "_law_parts" ["d"] S__law_parts) : FnG IsLst P w K mg base 3 f fd ["bag"] S__law_square_free :=
  fng_of F sc__law_square_free m__law_square_free l__law_square_free fun cdv A outer s c hG hgd hr => ⟨g__law_square_free, der__law_square_free bl eh C__law_draw C__law_pick C__law_parts hG hgd hr, r__law_square_free⟩
theorem sc__law_integer : FnScope N__law_integer ["bag"] (defScope s__law_integer) := ⟨rfl, rfl, rfl, by decide +kernel, rfl, by decide +kernel, by decide +kernel⟩
theorem der__law_integer {P : Program} {w : World} {K : PySem.W.Frag} {mg : Str → Option Value} {base : Heap} {f : Addr} {cdv : Value} {A : Around} {outer : List PySem.Env} {s : Shared} {c : C} (bl : Bl mg) (eh : ErH P K mg) (C__law_pick : Kn P w K mg base 2 "_law_pick" ["bag", "some"] S__law_pick) (C__law_great : Kn P w K mg base 2 "_law_great" ["bag", "below"] S__law_great) (C__law_draw : Kn P w K mg base 2 "_law_draw" ["bag", "below"] S__law_draw) (hG : IsLst c) (hgd : A.guards = some []) (hr : Room 2 (A.deeper (envOfC "_law_integer" (defScope s__law_integer) s.heap.objs.size f cdv))) : PSsd (XX P w K mg base N__law_integer "_law_integer" s__law_integer f cdv A outer s c.H0) c (defBody s__law_integer) g__law_integer := by
  have hN : (XX P w K mg base N__law_integer "_law_integer" s__law_integer f cdv A outer s c.H0).N.Nodup := sc__law_integer.nd
  have hc : (XX P w K mg base N__law_integer "_law_integer" s__law_integer f cdv A outer s c.H0).calm = true := rfl
  have hx : ∀ e s1, ¬ (XX P w K mg base N__law_integer "_law_integer" s__law_integer f cdv A outer s c.H0).xe e s1 := fun _ _ z => z
  have hp : PassesOwn (model P w) (XX P w K mg base N__law_integer "_law_integer" s__law_integer f cdv A outer s c.H0).A (XX P w K mg base N__law_integer "_law_integer" s__law_integer f cdv A outer s c.H0).env (XX P w K mg base N__law_integer "_law_integer" s__law_integer f cdv A outer s c.H0).xe := PassesOwn.never
  have hu : (XX P w K mg base N__law_integer "_law_integer" s__law_integer f cdv A outer s c.H0).A.units + 64 < cLine := units_of hr
  have hu5 : (XX P w K mg base N__law_integer "_law_integer" s__law_integer f cdv A outer s c.H0).A.units + 65 < cLine := units65 hr
  exact (ss_cons (s_set 1 hN (v_callX C__law_pick hG hgd hr (a_bag 0 (a_cons (PN.v (n_lst (d_cons v_int (d_cons v_int (d_cons v_int (d_cons v_int (d_cons (v_bin o_pow (PV.b v_int) (PV.b v_int)) (d_cons (v_bin o_pow (PV.b v_int) (PV.b v_int)) (d_cons (v_bin o_pow (PV.b v_int) (PV.b v_int)) (d_cons (v_bin o_pow (PV.b v_int) (PV.b v_int)) d_nil)))))))))) a_nil)))) (ss_cons (s_set 2 hN (v_callX C__law_great hG hgd hr (a_bag 0 (a_cons (v_bin o_add (b_name 1) (PV.b v_int)) a_nil)))) (ss_cons (s_if (t_cmp (o_eq hu) (PV.b (v_callX C__law_draw hG hgd hr (a_bag 0 (a_cons v_int a_nil)))) (PV.b v_int)) (ss_one (s_set 2 hN (v_bin o_pow (PV.b v_int) (PV.b v_int)))) ss_nil) (ss_one (s_ret (v_if (t_cmp (o_eq hu) (PV.b (v_callX C__law_draw hG hgd hr (a_bag 0 (a_cons v_int a_nil)))) (PV.b v_int)) (v_neg (b_name 2)) (v_name 2)))))))
theorem ok__law_integer {P : Program} {w : World} {K : PySem.W.Frag} {mg : Str → Option Value} {base : Heap} {f : Addr} {fd : FuncData} (F : Fun K "_law_integer" "_law_integer" s__law_integer f fd) (bl : Bl mg) (eh : ErH P K mg) (C__law_pick : Kn P w K mg base 2 "_law_pick" ["bag", "some"] S__law_pick) (C__law_great : Kn P w K mg base 2 "_law_great" ["bag", "below"] S__law_great) (C__law_draw : Kn P w K mg base 2 "_law_draw" ["bag", "below"] S__law_draw) : FnG IsLst P w K mg base 3 f fd ["bag"] S__law_integer :=
  fng_of F sc__law_integer m__law_integer l__law_integer fun cdv A outer s c hG hgd hr => ⟨g__law_integer, der__law_integer bl eh C__law_pick C__law_great C__law_draw hG hgd hr, r__law_integer⟩
theorem sc__law_own_of : FnScope N__law_own_of ["a", "b", "c", "d"] (defScope s__law_own_of) := ⟨rfl, rfl, rfl, by decide +kernel, rfl, by decide +kernel, by decide +kernel⟩
theorem der__law_own_of {P : Program} {w : World} {K : PySem.W.Frag} {mg : Str → Option Value} {base : Heap} {f : Addr} {cdv : Value} {A : Around} {outer : List PySem.Env} {s : Shared} {c : C} (bl : Bl mg) (eh : ErH P K mg) (C__law_surd : Kn P w K mg base 2 "_law_surd" ["a", "b", "c", "d"] S__law_surd) (C__law_parts : Kn P w K mg base 2 "_law_parts" ["d"] S__law_parts) (hG : IsLst c) (hgd : A.guards = some []) (hr : Room 2 (A.deeper (envOfC "_law_own_of" (defScope s__law_own_of) s.heap.objs.size f cdv))) : PSsd (XX P w K mg base N__law_own_of "_law_own_of" s__law_own_of f cdv A outer s c.H0) c (defBody s__law_own_of) g__law_own_of := by
  have hN : (XX P w K mg base N__law_own_of "_law_own_of" s__law_own_of f cdv A outer s c.H0).N.Nodup := sc__law_own_of.nd
  have hc : (XX P w K mg base N__law_own_of "_law_own_of" s__law_own_of f cdv A outer s c.H0).calm = true := rfl
  have hx : ∀ e s1, ¬ (XX P w K mg base N__law_own_of "_law_own_of" s__law_own_of f cdv A outer s c.H0).xe e s1 := fun _ _ z => z
  have hp : PassesOwn (model P w) (XX P w K mg base N__law_own_of "_law_own_of" s__law_own_of f cdv A outer s c.H0).A (XX P w K mg base N__law_own_of "_law_own_of" s__law_own_of f cdv A outer s c.H0).env (XX P w K mg base N__law_own_of "_law_own_of" s__law_own_of f cdv A outer s c.H0).xe := PassesOwn.never
  have hu : (XX P w K mg base N__law_own_of "_law_own_of" s__law_own_of f cdv A outer s c.H0).A.units + 64 < cLine := units_of hr
  have hu5 : (XX P w K mg base N__law_own_of "_law_own_of" s__law_own_of f cdv A outer s c.H0).A.units + 65 < cLine := units65 hr
  exact (ss_cons (s_if (PWd.t (w_or (t_cmp (o_eq hu) (b_name 1) (PV.b v_int)) (w_or1 (t_cmp (o_eq hu) (b_name 3) (PV.b v_int))))) (ss_one (s_ret (v_callX C__law_surd hG hgd hr (a_cons (v_name 0) (a_cons v_int (a_cons (v_name 2) (a_cons v_int a_nil))))))) ss_nil) (ss_cons (s_asg (v_callX C__law_parts hG hgd hr (a_cons (v_name 3) a_nil)) (g_sq hc (gs_cons (g_nm 4 hN) (gs_cons (g_nm 5 hN) gs_nil)))) (ss_cons (s_if (t_cmp (o_eq hu) (b_name 5) (PV.b v_int)) (ss_one (s_ret (v_callX C__law_surd hG hgd hr (a_cons (v_bin o_add (b_name 0) (PV.b (v_bin o_mul (b_name 1) (b_name 4)))) (a_cons v_int (a_cons (v_name 2) (a_cons v_int a_nil))))))) ss_nil) (ss_one (s_ret (v_callX C__law_surd hG hgd hr (a_cons (v_name 0) (a_cons (v_bin o_mul (b_name 1) (b_name 4)) (a_cons (v_name 2) (a_cons (v_name 5) a_nil))))))))))
theorem ok__law_own_of {P : Program} {w : World} {K : PySem.W.Frag} {mg : Str → Option Value} {base : Heap} {f : Addr} {fd : FuncData} (F : Fun K "_law_own_of" "_law_own_of" s__law_own_of f fd) (bl : Bl mg) (eh : ErH P K mg) (C__law_surd : Kn P w K mg base 2 "_law_surd" ["a", "b", "c", "d"] S__law_surd) (C__law_parts : Kn P w K mg base 2 "_law_parts" ["d"] S__law_parts) : FnG IsLst P w K mg base 3 f fd ["a", "b", "c", "d"] S__law_own_of :=
  fng_of F sc__law_own_of m__law_own_of l__law_own_of fun cdv A outer s c hG hgd hr => ⟨g__law_own_of, der__law_own_of bl eh C__law_surd C__law_parts hG hgd hr, r__law_own_of⟩
theorem sc__law_own_error : FnScope N__law_own_error ["value"] (defScope s__law_own_error) := ⟨rfl, rfl, rfl, by decide +kernel, rfl, by decide +kernel, by decide +kernel⟩
theorem der__law_own_error {P : Program} {w : World} {K : PySem.W.Frag} {mg : Str → Option Value} {base : Heap} {f : Addr} {cdv : Value} {A : Around} {outer : List PySem.Env} {s : Shared} {c : C} (bl : Bl mg) (eh : ErH P K mg) (C__law_common : Kn P w K mg base 2 "_law_common" ["one", "other"] S__law_common) (C__law_parts : Kn P w K mg base 2 "_law_parts" ["d"] S__law_parts) (hG : IsLst c) (hgd : A.guards = some []) (hr : Room 2 (A.deeper (envOfC "_law_own_error" (defScope s__law_own_error) s.heap.objs.size f cdv))) : PSsd (XX P w K mg base N__law_own_error "_law_own_error" s__law_own_error f cdv A outer s c.H0) c (defBody s__law_own_error) g__law_own_error := by
  have hN : (XX P w K mg base N__law_own_error "_law_own_error" s__law_own_error f cdv A outer s c.H0).N.Nodup := sc__law_own_error.nd
  have hc : (XX P w K mg base N__law_own_error "_law_own_error" s__law_own_error f cdv A outer s c.H0).calm = true := rfl
  have hx : ∀ e s1, ¬ (XX P w K mg base N__law_own_error "_law_own_error" s__law_own_error f cdv A outer s c.H0).xe e s1 := fun _ _ z => z
  have hp : PassesOwn (model P w) (XX P w K mg base N__law_own_error "_law_own_error" s__law_own_error f cdv A outer s c.H0).A (XX P w K mg base N__law_own_error "_law_own_error" s__law_own_error f cdv A outer s c.H0).env (XX P w K mg base N__law_own_error "_law_own_error" s__law_own_error f cdv A outer s c.H0).xe := PassesOwn.never
  have hu : (XX P w K mg base N__law_own_error "_law_own_error" s__law_own_error f cdv A outer s c.H0).A.units + 64 < cLine := units_of hr
  have hu5 : (XX P w K mg base N__law_own_error "_law_own_error" s__law_own_error f cdv A outer s c.H0).A.units + 65 < cLine := units65 hr
  exact (ss_cons (s_if (PWd.t (w_or (t_not (t_val (PV.b (v_isi kit_tuple bl.isinstance bl.tuple (b_name 0))))) (w_or1 (t_cmp (o_ne hu) (PV.b (v_callB c_len bl.len (bb_cons (b_name 0) bb_nil))) (PV.b v_int))))) (ss_one (s_ret v_str)) ss_nil) (ss_cons (s_if (t_val (PV.b (v_callB (c_any hc) bl.any (bb_cons (PV.b (PN.v (n_lc hc hN (own := [("item", 1)]) (by first | rfl | decide +kernel) (i_seq (v_name 0)) (fun _ _ _ _ _ => (g_nm 1 (by exact hN))) (fun _ _ _ _ _ => ts_nil) (fun _ _ _ _ _ => (v_or (PV.b (v_isi kit_bool bl.isinstance bl.bool (b_name 1))) (v_one (v_not (PV.b (v_isi kit_int bl.isinstance bl.int (b_name 1)))))))))) bb_nil)))) (ss_one (s_ret v_str)) ss_nil) (ss_cons (s_asg (v_name 0) (g_sq hc (gs_cons (g_nm 2 hN) (gs_cons (g_nm 3 hN) (gs_cons (g_nm 4 hN) (gs_cons (g_nm 5 hN) gs_nil)))))) (ss_cons (s_if (PWd.t (w_or (t_cmp o_gt (PV.b (v_callB (c_maxL hc) bl.max (bb_cons (PV.b (PN.v (n_lst (d_cons (v_callB c_abs bl.abs (bb_cons (b_name 2) bb_nil)) (d_cons (v_callB c_abs bl.abs (bb_cons (b_name 3) bb_nil)) (d_cons (v_callB c_abs bl.abs (bb_cons (b_name 4) bb_nil)) d_nil)))))) bb_nil))) (PV.b (v_bin o_pow (PV.b v_int) (PV.b v_int)))) (w_or1 (t_cmp o_gt (b_name 5) (PV.b (v_bin o_pow (PV.b v_int) (PV.b v_int))))))) (ss_one (s_ret v_str)) ss_nil) (ss_cons (s_if (PWd.t (w_or (t_cmp o_lt (b_name 4) (PV.b v_int)) (w_or1 (t_cmp o_gt (PV.b (v_callX C__law_common hG hgd hr (a_cons (v_callX C__law_common hG hgd hr (a_cons (v_name 2) (a_cons (v_name 3) a_nil))) (a_cons (v_name 4) a_nil)))) (PV.b v_int))))) (ss_one (s_ret v_str)) ss_nil) (ss_cons (s_if (PWd.t (w_and (t_cmp (o_eq hu) (b_name 3) (PV.b v_int)) (w_and1 (t_cmp (o_eq hu) (b_name 5) (PV.b v_int))))) (ss_one (s_ret v_non)) ss_nil) (ss_cons (s_if (PWd.t (w_or (t_cmp (o_eq hu) (b_name 3) (PV.b v_int)) (w_or (t_cmp o_lt (b_name 5) (PV.b v_int)) (w_or1 (t_cmp o_gt (PV.b (v_ix (PV.b (v_callX C__law_parts hG hgd hr (a_cons (v_name 5) a_nil))) (PV.b v_int))) (PV.b v_int)))))) (ss_one (s_ret v_str)) ss_nil) (ss_one (s_ret v_non)))))))))
theorem ok__law_own_error {P : Program} {w : World} {K : PySem.W.Frag} {mg : Str → Option Value} {base : Heap} {f : Addr} {fd : FuncData} (F : Fun K "_law_own_error" "_law_own_error" s__law_own_error f fd) (bl : Bl mg) (eh : ErH P K mg) (C__law_common : Kn P w K mg base 2 "_law_common" ["one", "other"] S__law_common) (C__law_parts : Kn P w K mg base 2 "_law_parts" ["d"] S__law_parts) : FnG IsLst P w K mg base 3 f fd ["value"] S__law_own_error :=
  fng_of F sc__law_own_error m__law_own_error l__law_own_error fun cdv A outer s c hG hgd hr => ⟨g__law_own_error, der__law_own_error bl eh C__law_common C__law_parts hG hgd hr, r__law_own_error⟩
theorem sc__law_each_wrong : FnScope N__law_each_wrong ["bag", "root"] (defScope s__law_each_wrong) := ⟨rfl, rfl, rfl, by decide +kernel, rfl, by decide +kernel, by decide +kernel⟩
theorem der__law_each_wrong {P : Program} {w : World} {K : PySem.W.Frag} {mg : Str → Option Value} {base : Heap} {f : Addr} {cdv : Value} {A : Around} {outer : List PySem.Env} {s : Shared} {c : C} (bl : Bl mg) (eh : ErH P K mg) (C__law_surd : Kn P w K mg base 2 "_law_surd" ["a", "b", "c", "d"] S__law_surd) (C__law_draw : Kn P w K mg base 2 "_law_draw" ["bag", "below"] S__law_draw) (C__law_pick : Kn P w K mg base 2 "_law_pick" ["bag", "some"] S__law_pick) (hG : IsLst c) (hgd : A.guards = some []) (hr : Room 2 (A.deeper (envOfC "_law_each_wrong" (defScope s__law_each_wrong) s.heap.objs.size f cdv))) : PSsd (XX P w K mg base N__law_each_wrong "_law_each_wrong" s__law_each_wrong f cdv A outer s c.H0) c (defBody s__law_each_wrong) g__law_each_wrong := by
  have hN : (XX P w K mg base N__law_each_wrong "_law_each_wrong" s__law_each_wrong f cdv A outer s c.H0).N.Nodup := sc__law_each_wrong.nd
  have hc : (XX P w K mg base N__law_each_wrong "_law_each_wrong" s__law_each_wrong f cdv A outer s c.H0).calm = true := rfl
  have hx : ∀ e s1, ¬ (XX P w K mg base N__law_each_wrong "_law_each_wrong" s__law_each_wrong f cdv A outer s c.H0).xe e s1 := fun _ _ z => z
  have hp : PassesOwn (model P w) (XX P w K mg base N__law_each_wrong "_law_each_wrong" s__law_each_wrong f cdv A outer s c.H0).A (XX P w K mg base N__law_each_wrong "_law_each_wrong" s__law_each_wrong f cdv A outer s c.H0).env (XX P w K mg base N__law_each_wrong "_law_each_wrong" s__law_each_wrong f cdv A outer s c.H0).xe := PassesOwn.never
  have hu : (XX P w K mg base N__law_each_wrong "_law_each_wrong" s__law_each_wrong f cdv A outer s c.H0).A.units + 64 < cLine := units_of hr
  have hu5 : (XX P w K mg base N__law_each_wrong "_law_each_wrong" s__law_each_wrong f cdv A outer s c.H0).A.units + 65 < cLine := units65 hr
  exact (ss_cons (s_asg (v_callX C__law_surd hG hgd hr (a_cons (v_bin o_sub (PV.b (v_callX C__law_draw hG hgd hr (a_bag 0 (a_cons v_int a_nil)))) (PV.b v_int)) (a_cons (v_bin o_add (PV.b v_int) (PV.b (v_callX C__law_draw hG hgd hr (a_bag 0 (a_cons v_int a_nil))))) (a_cons (v_bin o_add (PV.b v_int) (PV.b (v_callX C__law_draw hG hgd hr (a_bag 0 (a_cons v_int a_nil))))) (a_cons (v_name 1) a_nil))))) (g_sq hc (gs_cons (g_nm 2 hN) (gs_cons (g_nm 3 hN) (gs_cons (g_nm 4 hN) (gs_cons (g_nm 5 hN) gs_nil)))))) (ss_cons (s_par3 6 7 8 hc hN (m_v (v_bin o_add (PV.b v_int) (PV.b (v_callX C__law_draw hG hgd hr (a_bag 0 (a_cons v_int a_nil))))) (m_v (v_bin o_add (PV.b (v_bin o_pow (PV.b v_int) (PV.b v_int))) (PV.b v_int)) (m_v (v_callX C__law_pick hG hgd hr (a_bag 0 (a_cons (PN.v (n_lst (d_cons v_bl (d_cons v_bl d_nil)))) a_nil))) m_nil)))) (ss_cons (s_par 9 10 hc hN (m_v (v_callX C__law_pick hG hgd hr (a_bag 0 (a_cons (PN.v (n_lst (d_cons v_int (d_cons (v_neg (PV.b v_int)) d_nil)))) a_nil))) (m_v (v_callX C__law_pick hG hgd hr (a_bag 0 (a_cons (PN.v (n_lst (d_cons v_int (d_cons v_int (d_cons v_int (d_cons v_int (d_cons v_int (d_cons v_int (d_cons v_int (d_cons v_int (d_cons v_int (d_cons v_int d_nil)))))))))))) a_nil))) m_nil))) (ss_cons (s_set 11 hN (v_bin o_mul (PV.b (v_bin o_mul (b_name 10) (b_name 10))) (PV.b (v_bin o_add (PV.b v_int) (PV.b (v_callX C__law_draw hG hgd hr (a_bag 0 (a_cons (v_bin o_div (PV.b (v_bin o_pow (PV.b v_int) (PV.b v_int))) (PV.b (v_bin o_mul (b_name 10) (b_name 10)))) a_nil)))))))) (ss_cons (s_setN 12 hN (n_lst (d_cons (v_tup (d_cons (v_name 2) (d_cons (v_name 3) (d_cons (v_name 4) (d_cons (v_name 5) d_nil))))) (d_cons (v_tup (d_cons (v_bin o_mul (b_name 9) (b_name 7)) (d_cons (v_name 3) (d_cons (v_name 4) (d_cons (v_name 5) d_nil))))) (d_cons (v_tup (d_cons (v_name 2) (d_cons (v_bin o_mul (b_name 9) (b_name 7)) (d_cons (v_name 4) (d_cons (v_name 5) d_nil))))) (d_cons (v_tup (d_cons (v_name 2) (d_cons (v_name 3) (d_cons (v_name 7) (d_cons (v_name 5) d_nil))))) (d_cons (v_tup (d_cons (v_name 2) (d_cons (v_name 3) (d_cons (v_neg (b_name 7)) (d_cons (v_name 5) d_nil))))) d_nil))))))) (ss_cons (s_ext 12 (PV.b (PN.v (n_lst (d_cons (v_tup (d_cons (v_name 2) (d_cons (v_name 3) (d_cons (v_name 4) (d_cons (v_bin o_add (PV.b (v_bin o_pow (PV.b v_int) (PV.b v_int))) (PV.b v_int)) d_nil))))) (d_cons (v_tup (d_cons (v_bin o_mul (b_name 2) (b_name 6)) (d_cons (v_bin o_mul (b_name 3) (b_name 6)) (d_cons (v_bin o_mul (b_name 4) (b_name 6)) (d_cons (v_name 5) d_nil))))) (d_cons (v_tup (d_cons (v_name 2) (d_cons (v_name 3) (d_cons v_int (d_cons (v_name 5) d_nil))))) (d_cons (v_tup (d_cons (v_name 2) (d_cons (v_name 3) (d_cons (v_neg (b_name 4)) (d_cons (v_name 5) d_nil))))) d_nil)))))))) (ss_cons (s_ext 12 (PV.b (PN.v (n_lst (d_cons (v_tup (d_cons (v_name 2) (d_cons (v_name 3) (d_cons (v_name 4) (d_cons v_int d_nil))))) (d_cons (v_tup (d_cons (v_name 2) (d_cons (v_name 3) (d_cons (v_name 4) (d_cons v_int d_nil))))) (d_cons (v_tup (d_cons (v_name 2) (d_cons (v_name 3) (d_cons (v_name 4) (d_cons (v_neg (b_name 5)) d_nil))))) (d_cons (v_tup (d_cons (v_name 2) (d_cons (v_name 3) (d_cons (v_name 4) (d_cons (v_name 11) d_nil))))) (d_cons (v_tup (d_cons v_int (d_cons v_int (d_cons v_int (d_cons (v_name 5) d_nil))))) (d_cons (v_tup (d_cons v_int (d_cons v_int (d_cons (v_name 6) (d_cons v_int d_nil))))) d_nil)))))))))) (ss_cons (s_ext 12 (PV.b (PN.v (n_lst (d_cons (v_tup (d_cons (v_name 8) (d_cons (v_name 3) (d_cons (v_name 4) (d_cons (v_name 5) d_nil))))) (d_cons (v_tup (d_cons (v_name 2) (d_cons (v_name 8) (d_cons (v_name 4) (d_cons (v_name 5) d_nil))))) (d_cons (v_tup (d_cons (v_name 2) (d_cons (v_name 3) (d_cons v_bl (d_cons (v_name 5) d_nil))))) (d_cons (v_tup (d_cons v_int (d_cons v_int (d_cons v_int (d_cons (v_name 8) d_nil))))) (d_cons (PN.v (n_lst (d_cons (v_name 2) (d_cons (v_name 3) (d_cons (v_name 4) (d_cons (v_name 5) d_nil)))))) (d_cons (v_tup (d_cons (v_name 2) (d_cons (v_name 3) (d_cons (v_name 4) d_nil)))) d_nil)))))))))) (ss_cons (s_ext 12 (PV.b (PN.v (n_lst (d_cons (v_tup (d_cons (v_name 2) (d_cons (v_name 3) (d_cons (v_name 4) (d_cons (v_name 5) (d_cons (v_name 5) d_nil)))))) (d_cons (v_tup (d_cons (v_name 2) (d_cons (v_name 3) (d_cons (v_callT (c_str hgd hu) bl.str (bb_cons (b_name 4) bb_nil)) (d_cons (v_name 5) d_nil))))) (d_cons (v_tup (d_cons (v_bin o_mul (b_name 9) (PV.b (v_bin o_pow (PV.b v_int) (PV.b v_int)))) (d_cons (v_bin o_sub (b_name 9) (PV.b (v_bin o_pow (PV.b v_int) (PV.b v_int)))) (d_cons (v_name 4) (d_cons v_int d_nil))))) d_nil))))))) (ss_cons (s_ext 12 (PV.b (PN.v (n_lst (d_cons (v_tup (d_cons (v_name 2) (d_cons v_int (d_cons (v_bin o_pow (PV.b v_int) (PV.b v_int)) (d_cons (v_name 5) d_nil))))) (d_cons (v_tup (d_cons (v_name 2) (d_cons (v_name 3) (d_cons (v_name 4) (d_cons (v_bin o_pow (PV.b v_int) (PV.b v_int)) d_nil))))) d_nil)))))) (ss_cons (s_app 12 (v_tup (d_cons (v_name 2) (d_cons (v_name 3) (d_cons (v_name 4) (d_cons (v_neg (PV.b (v_callX C__law_pick hG hgd hr (a_bag 0 (a_cons (PN.v (n_lst (d_cons (v_bin o_add (PV.b (v_bin o_pow (PV.b v_int) (PV.b v_int))) (PV.b v_int)) (d_cons (v_bin o_pow (PV.b v_int) (PV.b v_int)) (d_cons (v_bin o_pow (PV.b v_int) (PV.b v_int)) d_nil))))) a_nil))))) d_nil)))))) (ss_cons (s_ext 12 (PV.b (PN.v (n_lst (d_cons (v_tup (d_cons (v_name 2) (d_cons (v_name 3) (d_cons v_int (d_cons (v_name 11) d_nil))))) (d_cons (v_tup (d_cons (v_bin o_mul (PV.b v_int) (b_name 2)) (d_cons (v_bin o_mul (PV.b v_int) (b_name 3)) (d_cons (v_bin o_mul (PV.b v_int) (b_name 4)) (d_cons (v_name 11) d_nil))))) (d_cons (v_tup (d_cons (v_name 7) (d_cons (v_name 3) (d_cons (v_neg (b_name 4)) (d_cons (v_name 11) d_nil))))) (d_cons (v_tup (d_cons (v_name 2) (d_cons (v_name 7) (d_cons v_non (d_cons (v_name 5) d_nil))))) d_nil)))))))) (ss_one (s_frz 12 (s_ret (PN.v (n_lc hc hN (own := [("value", 13)]) (by first | rfl | decide +kernel) (i_seq (v_name 12)) (fun _ _ _ _ _ => (g_nm 13 (by exact hN))) (fun _ _ _ _ _ => ts_nil) (fun _ _ _ _ _ => (PN.v (n_lst (d_cons v_str (d_cons (PN.v (n_lst (d_cons (v_name 13) d_nil))) d_nil))))))))))))))))))))))
theorem ok__law_each_wrong {P : Program} {w : World} {K : PySem.W.Frag} {mg : Str → Option Value} {base : Heap} {f : Addr} {fd : FuncData} (F : Fun K "_law_each_wrong" "_law_each_wrong" s__law_each_wrong f fd) (bl : Bl mg) (eh : ErH P K mg) (C__law_surd : Kn P w K mg base 2 "_law_surd" ["a", "b", "c", "d"] S__law_surd) (C__law_draw : Kn P w K mg base 2 "_law_draw" ["bag", "below"] S__law_draw) (C__law_pick : Kn P w K mg base 2 "_law_pick" ["bag", "some"] S__law_pick) : FnG IsLst P w K mg base 3 f fd ["bag", "root"] S__law_each_wrong :=
  fng_of F sc__law_each_wrong m__law_each_wrong l__law_each_wrong fun cdv A outer s c hG hgd hr => ⟨g__law_each_wrong, der__law_each_wrong bl eh C__law_surd C__law_draw C__law_pick hG hgd hr, r__law_each_wrong⟩
theorem sc__law_told : FnScope N__law_told ["word", "row", "is_named"] (defScope s__law_told) := ⟨rfl, rfl, rfl, by decide +kernel, rfl, by decide +kernel, by decide +kernel⟩
theorem der__law_told {P : Program} {w : World} {K : PySem.W.Frag} {mg : Str → Option Value} {base : Heap} {f : Addr} {cdv : Value} {A : Around} {outer : List PySem.Env} {s : Shared} {c : C} (bl : Bl mg) (eh : ErH P K mg) (C_surd_of : Kn P w K mg base 3 "surd_of" ["a", "b", "c", "d"] S_surd_of) (C_surd_sum : Kn P w K mg base 3 "surd_sum" ["one", "other"] S_surd_sum) (C_surd_times : Kn P w K mg base 3 "surd_times" ["one", "other"] S_surd_times) (C_surd_turned : Kn P w K mg base 3 "surd_turned" ["one"] S_surd_turned) (C_surd_back : KnE P w K mg base 3 "surd_back" ["one"] S_surd_back) (C_other_root : Kn P w K mg base 3 "other_root" ["one"] S_other_root) (C_surd_error : Kn P w K mg base 3 "surd_error" ["value"] S_surd_error) (C__law_refused : KnX P w K mg base 3 "_law_refused" "error" S__law_refused) (K_surd_of_d_c_b_a : KnK P w K mg base 3 "surd_of" ["a", "b", "c", "d"] ["d", "c", "b", "a"] [3, 2, 1, 0] S_surd_of) (K_surd_sum_other_one : KnK P w K mg base 3 "surd_sum" ["one", "other"] ["other", "one"] [1, 0] S_surd_sum) (K_surd_times_other_one : KnK P w K mg base 3 "surd_times" ["one", "other"] ["other", "one"] [1, 0] S_surd_times) (K_surd_turned_one : KnK P w K mg base 3 "surd_turned" ["one"] ["one"] [0] S_surd_turned) (K_surd_back_one : KnEK P w K mg base 3 "surd_back" ["one"] ["one"] [0] S_surd_back) (K_other_root_one : KnK P w K mg base 3 "other_root" ["one"] ["one"] [0] S_other_root) (K_surd_error_value : KnK P w K mg base 3 "surd_error" ["value"] ["value"] [0] S_surd_error) (hG : IsLst c) (hgd : A.guards = some []) (hr : Room 3 (A.deeper (envOfC "_law_told" (defScope s__law_told) s.heap.objs.size f cdv))) : PSsd (XX P w K mg base N__law_told "_law_told" s__law_told f cdv A outer s c.H0) c (defBody s__law_told) g__law_told := by
  have hN : (XX P w K mg base N__law_told "_law_told" s__law_told f cdv A outer s c.H0).N.Nodup := sc__law_told.nd
  have hc : (XX P w K mg base N__law_told "_law_told" s__law_told f cdv A outer s c.H0).calm = true := rfl
  have hx : ∀ e s1, ¬ (XX P w K mg base N__law_told "_law_told" s__law_told f cdv A outer s c.H0).xe e s1 := fun _ _ z => z
  have hp : PassesOwn (model P w) (XX P w K mg base N__law_told "_law_told" s__law_told f cdv A outer s c.H0).A (XX P w K mg base N__law_told "_law_told" s__law_told f cdv A outer s c.H0).env (XX P w K mg base N__law_told "_law_told" s__law_told f cdv A outer s c.H0).xe := PassesOwn.never
  have hu : (XX P w K mg base N__law_told "_law_told" s__law_told f cdv A outer s c.H0).A.units + 64 < cLine := units_of hr
  have hu5 : (XX P w K mg base N__law_told "_law_told" s__law_told f cdv A outer s c.H0).A.units + 65 < cLine := units65 hr
  exact (ss_one (s_try_as 3 hN (fun nm hn => eh.er.exm nm hn _ (by decide)) (eh.z _ (by decide)) takes_no (fun b0 h0 W1 pn xe tk1 hp => (ss_cons (s_if (PWd.t (w_and (t_cmp (o_eq hu) (b_name 0) (PV.b v_str)) (w_and1 (t_val (b_name 2))))) (ss_one (s_ret (v_tup (d_cons v_str (d_cons (v_callKX K_surd_of_d_c_b_a hG hgd hr (k_cons (v_ix (b_name 1) (PV.b v_int)) (k_cons (v_ix (b_name 1) (PV.b v_int)) (k_cons (v_ix (b_name 1) (PV.b v_int)) (k_cons (v_ix (b_name 1) (PV.b v_int)) k_nil))))) d_nil))))) ss_nil) (ss_cons (s_if (t_cmp (o_eq hu) (b_name 0) (PV.b v_str)) (ss_one (s_ret (v_tup (d_cons v_str (d_cons (v_callX C_surd_of hG hgd hr (a_cons (v_ix (b_name 1) (PV.b v_int)) (a_cons (v_ix (b_name 1) (PV.b v_int)) (a_cons (v_ix (b_name 1) (PV.b v_int)) (a_cons (v_ix (b_name 1) (PV.b v_int)) a_nil))))) d_nil))))) ss_nil) (ss_cons (s_if (t_cmp (o_eq hu) (b_name 0) (PV.b v_str)) (ss_one (s_ret (v_tup (d_cons v_str (d_cons (v_if (t_val (b_name 2)) (v_callKX K_surd_sum_other_one hG hgd hr (k_cons (v_ix (b_name 1) (PV.b v_int)) (k_cons (v_ix (b_name 1) (PV.b v_int)) k_nil))) (v_callX C_surd_sum hG hgd hr (a_cons (v_ix (b_name 1) (PV.b v_int)) (a_cons (v_ix (b_name 1) (PV.b v_int)) a_nil)))) d_nil))))) ss_nil) (ss_cons (s_if (t_cmp (o_eq hu) (b_name 0) (PV.b v_str)) (ss_one (s_ret (v_tup (d_cons v_str (d_cons (v_if (t_val (b_name 2)) (v_callKX K_surd_times_other_one hG hgd hr (k_cons (v_ix (b_name 1) (PV.b v_int)) (k_cons (v_ix (b_name 1) (PV.b v_int)) k_nil))) (v_callX C_surd_times hG hgd hr (a_cons (v_ix (b_name 1) (PV.b v_int)) (a_cons (v_ix (b_name 1) (PV.b v_int)) a_nil)))) d_nil))))) ss_nil) (ss_cons (s_if (t_cmp (o_eq hu) (b_name 0) (PV.b v_str)) (ss_one (s_ret (v_tup (d_cons v_str (d_cons (v_if (t_val (b_name 2)) (v_callKX K_surd_turned_one hG hgd hr (k_cons (v_ix (b_name 1) (PV.b v_int)) k_nil)) (v_callX C_surd_turned hG hgd hr (a_cons (v_ix (b_name 1) (PV.b v_int)) a_nil))) d_nil))))) ss_nil) (ss_cons (s_if (t_cmp (o_eq hu) (b_name 0) (PV.b v_str)) (ss_one (s_ret (v_tup (d_cons v_str (d_cons (v_if (t_val (b_name 2)) (v_callEK K_surd_back_one tk1 hG hgd hr (k_cons (v_ix (b_name 1) (PV.b v_int)) k_nil)) (v_callE C_surd_back tk1 hG hgd hr (a_cons (v_ix (b_name 1) (PV.b v_int)) a_nil))) d_nil))))) ss_nil) (ss_cons (s_if (t_cmp (o_eq hu) (b_name 0) (PV.b v_str)) (ss_one (s_ret (v_tup (d_cons v_str (d_cons (v_if (t_val (b_name 2)) (v_callKX K_other_root_one hG hgd hr (k_cons (v_ix (b_name 1) (PV.b v_int)) k_nil)) (v_callX C_other_root hG hgd hr (a_cons (v_ix (b_name 1) (PV.b v_int)) a_nil))) d_nil))))) ss_nil) (ss_one (s_ret (v_tup (d_cons v_str (d_cons (v_if (t_val (b_name 2)) (v_callKX K_surd_error_value hG hgd hr (k_cons (v_ix (b_name 1) (PV.b v_int)) k_nil)) (v_callX C_surd_error hG hgd hr (a_cons (v_ix (b_name 1) (PV.b v_int)) a_nil))) d_nil))))))))))))) (fun b0 h0 a oe d nm pn hnm hz hv => (ss_one (s_ret (v_callXr 3 C__law_refused hG hr hnm hz hv))))))
theorem ok__law_told {P : Program} {w : World} {K : PySem.W.Frag} {mg : Str → Option Value} {base : Heap} {f : Addr} {fd : FuncData} (F : Fun K "_law_told" "_law_told" s__law_told f fd) (bl : Bl mg) (eh : ErH P K mg) (C_surd_of : Kn P w K mg base 3 "surd_of" ["a", "b", "c", "d"] S_surd_of) (C_surd_sum : Kn P w K mg base 3 "surd_sum" ["one", "other"] S_surd_sum) (C_surd_times : Kn P w K mg base 3 "surd_times" ["one", "other"] S_surd_times) (C_surd_turned : Kn P w K mg base 3 "surd_turned" ["one"] S_surd_turned) (C_surd_back : KnE P w K mg base 3 "surd_back" ["one"] S_surd_back) (C_other_root : Kn P w K mg base 3 "other_root" ["one"] S_other_root) (C_surd_error : Kn P w K mg base 3 "surd_error" ["value"] S_surd_error) (C__law_refused : KnX P w K mg base 3 "_law_refused" "error" S__law_refused) (K_surd_of_d_c_b_a : KnK P w K mg base 3 "surd_of" ["a", "b", "c", "d"] ["d", "c", "b", "a"] [3, 2, 1, 0] S_surd_of) (K_surd_sum_other_one : KnK P w K mg base 3 "surd_sum" ["one", "other"] ["other", "one"] [1, 0] S_surd_sum) (K_surd_times_other_one : KnK P w K mg base 3 "surd_times" ["one", "other"] ["other", "one"] [1, 0] S_surd_times) (K_surd_turned_one : KnK P w K mg base 3 "surd_turned" ["one"] ["one"] [0] S_surd_turned) (K_surd_back_one : KnEK P w K mg base 3 "surd_back" ["one"] ["one"] [0] S_surd_back) (K_other_root_one : KnK P w K mg base 3 "other_root" ["one"] ["one"] [0] S_other_root) (K_surd_error_value : KnK P w K mg base 3 "surd_error" ["value"] ["value"] [0] S_surd_error) : FnG IsLst P w K mg base 4 f fd ["word", "row", "is_named"] S__law_told :=
  fng_of F sc__law_told m__law_told l__law_told fun cdv A outer s c hG hgd hr => ⟨g__law_told, der__law_told bl eh C_surd_of C_surd_sum C_surd_times C_surd_turned C_surd_back C_other_root C_surd_error C__law_refused K_surd_of_d_c_b_a K_surd_sum_other_one K_surd_times_other_one K_surd_turned_one K_surd_back_one K_other_root_one K_surd_error_value hG hgd hr, r__law_told⟩
theorem sc__law_due : FnScope N__law_due ["word", "row"] (defScope s__law_due) := ⟨rfl, rfl, rfl, by decide +kernel, rfl, by decide +kernel, by decide +kernel⟩
theorem der__law_due {P : Program} {w : World} {K : PySem.W.Frag} {mg : Str → Option Value} {base : Heap} {f : Addr} {cdv : Value} {A : Around} {outer : List PySem.Env} {s : Shared} {c : C} (bl : Bl mg) (eh : ErH P K mg) (C__law_own_of : Kn P w K mg base 3 "_law_own_of" ["a", "b", "c", "d"] S__law_own_of) (C__law_own_error : Kn P w K mg base 3 "_law_own_error" ["value"] S__law_own_error) (C__law_surd : Kn P w K mg base 3 "_law_surd" ["a", "b", "c", "d"] S__law_surd) (hG : IsLst c) (hgd : A.guards = some []) (hr : Room 3 (A.deeper (envOfC "_law_due" (defScope s__law_due) s.heap.objs.size f cdv))) : PSsd (XX P w K mg base N__law_due "_law_due" s__law_due f cdv A outer s c.H0) c (defBody s__law_due) g__law_due := by
  have hN : (XX P w K mg base N__law_due "_law_due" s__law_due f cdv A outer s c.H0).N.Nodup := sc__law_due.nd
  have hc : (XX P w K mg base N__law_due "_law_due" s__law_due f cdv A outer s c.H0).calm = true := rfl
  have hx : ∀ e s1, ¬ (XX P w K mg base N__law_due "_law_due" s__law_due f cdv A outer s c.H0).xe e s1 := fun _ _ z => z
  have hp : PassesOwn (model P w) (XX P w K mg base N__law_due "_law_due" s__law_due f cdv A outer s c.H0).A (XX P w K mg base N__law_due "_law_due" s__law_due f cdv A outer s c.H0).env (XX P w K mg base N__law_due "_law_due" s__law_due f cdv A outer s c.H0).xe := PassesOwn.never
  have hu : (XX P w K mg base N__law_due "_law_due" s__law_due f cdv A outer s c.H0).A.units + 64 < cLine := units_of hr
  have hu5 : (XX P w K mg base N__law_due "_law_due" s__law_due f cdv A outer s c.H0).A.units + 65 < cLine := units65 hr
  exact (ss_cons (s_if (t_cmp (o_eq hu) (b_name 0) (PV.b v_str)) (ss_one (s_ret (v_tup (d_cons v_str (d_cons (v_callX C__law_own_of hG hgd hr (a_cons (v_ix (b_name 1) (PV.b v_int)) (a_cons (v_ix (b_name 1) (PV.b v_int)) (a_cons (v_ix (b_name 1) (PV.b v_int)) (a_cons (v_ix (b_name 1) (PV.b v_int)) a_nil))))) d_nil))))) ss_nil) (ss_cons (s_if (t_cmp (o_eq hu) (b_name 0) (PV.b v_str)) (ss_one (s_ret (v_tup (d_cons v_str (d_cons (v_callX C__law_own_error hG hgd hr (a_cons (v_ix (b_name 1) (PV.b v_int)) a_nil)) d_nil))))) ss_nil) (ss_cons (s_asg (v_ix (b_name 1) (PV.b v_int)) (g_sq hc (gs_cons (g_nm 2 hN) (gs_cons (g_nm 3 hN) (gs_cons (g_nm 4 hN) (gs_cons (g_nm 5 hN) gs_nil)))))) (ss_cons (s_if (t_cmp (o_eq hu) (b_name 0) (PV.b v_str)) (ss_one (s_ret (v_tup (d_cons v_str (d_cons (v_tup (d_cons (v_neg (b_name 2)) (d_cons (v_neg (b_name 3)) (d_cons (v_name 4) (d_cons (v_name 5) d_nil))))) d_nil))))) ss_nil) (ss_cons (s_if (t_cmp (o_eq hu) (b_name 0) (PV.b v_str)) (ss_one (s_ret (v_tup (d_cons v_str (d_cons (v_tup (d_cons (v_name 2) (d_cons (v_neg (b_name 3)) (d_cons (v_name 4) (d_cons (v_name 5) d_nil))))) d_nil))))) ss_nil) (ss_cons (s_if (PWd.t (w_and (t_cmp (o_eq hu) (b_name 0) (PV.b v_str)) (w_and (t_cmp (o_eq hu) (b_name 2) (PV.b v_int)) (w_and1 (t_cmp (o_eq hu) (b_name 3) (PV.b v_int)))))) (ss_one (s_ret (v_tup (d_cons v_str (d_cons (PN.v (n_lst (d_cons v_str d_nil))) (d_cons v_bl d_nil)))))) ss_nil) (ss_cons (s_if (t_cmp (o_eq hu) (b_name 0) (PV.b v_str)) (ss_one (s_ret (v_tup (d_cons v_str (d_cons (v_callX C__law_surd hG hgd hr (a_cons (v_bin o_mul (b_name 2) (b_name 4)) (a_cons (v_bin o_mul (PV.b (v_neg (b_name 3))) (b_name 4)) (a_cons (v_bin o_sub (PV.b (v_bin o_mul (b_name 2) (b_name 2))) (PV.b (v_bin o_mul (PV.b (v_bin o_mul (b_name 3) (b_name 3))) (b_name 5)))) (a_cons (v_name 5) a_nil))))) d_nil))))) ss_nil) (ss_cons (s_asg (v_ix (b_name 1) (PV.b v_int)) (g_sq hc (gs_cons (g_nm 6 hN) (gs_cons (g_nm 7 hN) (gs_cons (g_nm 8 hN) (gs_cons (g_nm 9 hN) gs_nil)))))) (ss_cons (s_set 10 hN (v_if (t_cmp o_gt (b_name 5) (PV.b v_int)) (v_name 5) (v_name 9))) (ss_cons (s_if (t_cmp (o_eq hu) (b_name 0) (PV.b v_str)) (ss_one (s_ret (v_tup (d_cons v_str (d_cons (v_callX C__law_surd hG hgd hr (a_cons (v_bin o_add (PV.b (v_bin o_mul (b_name 2) (b_name 8))) (PV.b (v_bin o_mul (b_name 6) (b_name 4)))) (a_cons (v_bin o_add (PV.b (v_bin o_mul (b_name 3) (b_name 8))) (PV.b (v_bin o_mul (b_name 7) (b_name 4)))) (a_cons (v_bin o_mul (b_name 4) (b_name 8)) (a_cons (v_name 10) a_nil))))) d_nil))))) ss_nil) (ss_one (s_ret (v_tup (d_cons v_str (d_cons (v_callX C__law_surd hG hgd hr (a_cons (v_bin o_add (PV.b (v_bin o_mul (b_name 2) (b_name 6))) (PV.b (v_bin o_mul (PV.b (v_bin o_mul (b_name 3) (b_name 7))) (b_name 10)))) (a_cons (v_bin o_add (PV.b (v_bin o_mul (b_name 2) (b_name 7))) (PV.b (v_bin o_mul (b_name 3) (b_name 6)))) (a_cons (v_bin o_mul (b_name 4) (b_name 8)) (a_cons (v_name 10) a_nil))))) d_nil)))))))))))))))
theorem ok__law_due {P : Program} {w : World} {K : PySem.W.Frag} {mg : Str → Option Value} {base : Heap} {f : Addr} {fd : FuncData} (F : Fun K "_law_due" "_law_due" s__law_due f fd) (bl : Bl mg) (eh : ErH P K mg) (C__law_own_of : Kn P w K mg base 3 "_law_own_of" ["a", "b", "c", "d"] S__law_own_of) (C__law_own_error : Kn P w K mg base 3 "_law_own_error" ["value"] S__law_own_error) (C__law_surd : Kn P w K mg base 3 "_law_surd" ["a", "b", "c", "d"] S__law_surd) : FnG IsLst P w K mg base 4 f fd ["word", "row"] S__law_due :=
  fng_of F sc__law_due m__law_due l__law_due fun cdv A outer s c hG hgd hr => ⟨g__law_due, der__law_due bl eh C__law_own_of C__law_own_error C__law_surd hG hgd hr, r__law_due⟩
theorem sc__law_any_root : FnScope N__law_any_root ["bag"] (defScope s__law_any_root) := ⟨rfl, rfl, rfl, by decide +kernel, rfl, by decide +kernel, by decide +kernel⟩
theorem der__law_any_root {P : Program} {w : World} {K : PySem.W.Frag} {mg : Str → Option Value} {base : Heap} {f : Addr} {cdv : Value} {A : Around} {outer : List PySem.Env} {s : Shared} {c : C} (bl : Bl mg) (eh : ErH P K mg) (C__law_draw : Kn P w K mg base 3 "_law_draw" ["bag", "below"] S__law_draw) (C__law_square_free : Kn P w K mg base 3 "_law_square_free" ["bag"] S__law_square_free) (C__law_pick : Kn P w K mg base 3 "_law_pick" ["bag", "some"] S__law_pick) (hG : IsLst c) (hgd : A.guards = some []) (hr : Room 3 (A.deeper (envOfC "_law_any_root" (defScope s__law_any_root) s.heap.objs.size f cdv))) : PSsd (XX P w K mg base N__law_any_root "_law_any_root" s__law_any_root f cdv A outer s c.H0) c (defBody s__law_any_root) g__law_any_root := by
  have hN : (XX P w K mg base N__law_any_root "_law_any_root" s__law_any_root f cdv A outer s c.H0).N.Nodup := sc__law_any_root.nd
  have hc : (XX P w K mg base N__law_any_root "_law_any_root" s__law_any_root f cdv A outer s c.H0).calm = true := rfl
  have hx : ∀ e s1, ¬ (XX P w K mg base N__law_any_root "_law_any_root" s__law_any_root f cdv A outer s c.H0).xe e s1 := fun _ _ z => z
  have hp : PassesOwn (model P w) (XX P w K mg base N__law_any_root "_law_any_root" s__law_any_root f cdv A outer s c.H0).A (XX P w K mg base N__law_any_root "_law_any_root" s__law_any_root f cdv A outer s c.H0).env (XX P w K mg base N__law_any_root "_law_any_root" s__law_any_root f cdv A outer s c.H0).xe := PassesOwn.never
  have hu : (XX P w K mg base N__law_any_root "_law_any_root" s__law_any_root f cdv A outer s c.H0).A.units + 64 < cLine := units_of hr
  have hu5 : (XX P w K mg base N__law_any_root "_law_any_root" s__law_any_root f cdv A outer s c.H0).A.units + 65 < cLine := units65 hr
  exact (ss_cons (s_set 1 hN (v_callX C__law_draw hG hgd hr (a_bag 0 (a_cons v_int a_nil)))) (ss_cons (s_if (t_cmp (o_eq hu) (b_name 1) (PV.b v_int)) (ss_one (s_ret (v_callX C__law_square_free hG hgd hr (a_bag 0 a_nil)))) ss_nil) (ss_cons (s_if (t_cmp (o_eq hu) (b_name 1) (PV.b v_int)) (ss_one (s_ret (v_callX C__law_draw hG hgd hr (a_bag 0 (a_cons (v_bin o_add (PV.b (v_bin o_pow (PV.b v_int) (PV.b v_int))) (PV.b v_int)) a_nil))))) ss_nil) (ss_cons (s_if (t_cmp (o_eq hu) (b_name 1) (PV.b v_int)) (ss_cons (s_set 2 hN (v_callX C__law_pick hG hgd hr (a_bag 0 (a_cons (PN.v (n_lst (d_cons v_int (d_cons v_int (d_cons v_int (d_cons v_int (d_cons v_int (d_cons v_int (d_cons v_int (d_cons v_int (d_cons v_int (d_cons v_int (d_cons v_int (d_cons v_int (d_cons v_int (d_cons v_int (d_cons v_int (d_cons v_int (d_cons v_int (d_cons v_int (d_cons v_int d_nil))))))))))))))))))))) a_nil)))) (ss_one (s_ret (v_bin o_mul (PV.b (v_bin o_mul (b_name 2) (b_name 2))) (PV.b (v_bin o_add (PV.b v_int) (PV.b (v_callX C__law_draw hG hgd hr (a_bag 0 (a_cons (v_bin o_div (PV.b (v_bin o_pow (PV.b v_int) (PV.b v_int))) (PV.b (v_bin o_mul (b_name 2) (b_name 2)))) a_nil)))))))))) ss_nil) (ss_cons (s_if (t_cmp (o_eq hu) (b_name 1) (PV.b v_int)) (ss_one (s_ret (v_bin o_pow (PV.b (v_callX C__law_pick hG hgd hr (a_bag 0 (a_cons (PN.v (n_lst (d_cons (v_bin o_add (PV.b v_int) (PV.b (v_callX C__law_draw hG hgd hr (a_bag 0 (a_cons v_int a_nil))))) (d_cons (v_bin o_add (PV.b v_int) (PV.b (v_callX C__law_draw hG hgd hr (a_bag 0 (a_cons v_int a_nil))))) d_nil)))) a_nil)))) (PV.b v_int)))) ss_nil) (ss_one (s_ret (v_callX C__law_pick hG hgd hr (a_bag 0 (a_cons (PN.v (n_lst (d_cons v_int (d_cons v_int (d_cons v_int (d_cons v_int (d_cons v_int (d_cons v_int (d_cons v_int (d_cons v_int (d_cons (v_bin o_pow (PV.b v_int) (PV.b v_int)) (d_cons v_int (d_cons v_int (d_cons v_int (d_cons v_int (d_cons (v_bin o_sub (PV.b (v_bin o_pow (PV.b v_int) (PV.b v_int))) (PV.b v_int)) d_nil)))))))))))))))) a_nil))))))))))
theorem ok__law_any_root {P : Program} {w : World} {K : PySem.W.Frag} {mg : Str → Option Value} {base : Heap} {f : Addr} {fd : FuncData} (F : Fun K "_law_any_root" "_law_any_root" s__law_any_root f fd) (bl : Bl mg) (eh : ErH P K mg) (C__law_draw : Kn P w K mg base 3 "_law_draw" ["bag", "below"] S__law_draw) (C__law_square_free : Kn P w K mg base 3 "_law_square_free" ["bag"] S__law_square_free) (C__law_pick : Kn P w K mg base 3 "_law_pick" ["bag", "some"] S__law_pick) : FnG IsLst P w K mg base 4 f fd ["bag"] S__law_any_root :=
  fng_of F sc__law_any_root m__law_any_root l__law_any_root fun cdv A outer s c hG hgd hr => ⟨g__law_any_root, der__law_any_root bl eh C__law_draw C__law_square_free C__law_pick hG hgd hr, r__law_any_root⟩
theorem sc__law_handed : FnScope N__law_handed ["bag", "root"] (defScope s__law_handed) := ⟨rfl, rfl, rfl, by decide +kernel, rfl, by decide +kernel, by decide +kernel⟩
theorem der__law_handed {P : Program} {w : World} {K : PySem.W.Frag} {mg : Str → Option Value} {base : Heap} {f : Addr} {cdv : Value} {A : Around} {outer : List PySem.Env} {s : Shared} {c : C} (bl : Bl mg) (eh : ErH P K mg) (C__law_integer : Kn P w K mg base 3 "_law_integer" ["bag"] S__law_integer) (C__law_draw : Kn P w K mg base 3 "_law_draw" ["bag", "below"] S__law_draw) (C__law_surd : Kn P w K mg base 3 "_law_surd" ["a", "b", "c", "d"] S__law_surd) (hG : IsLst c) (hgd : A.guards = some []) (hr : Room 3 (A.deeper (envOfC "_law_handed" (defScope s__law_handed) s.heap.objs.size f cdv))) : PSsd (XX P w K mg base N__law_handed "_law_handed" s__law_handed f cdv A outer s c.H0) c (defBody s__law_handed) g__law_handed := by
  have hN : (XX P w K mg base N__law_handed "_law_handed" s__law_handed f cdv A outer s c.H0).N.Nodup := sc__law_handed.nd
  have hc : (XX P w K mg base N__law_handed "_law_handed" s__law_handed f cdv A outer s c.H0).calm = true := rfl
  have hx : ∀ e s1, ¬ (XX P w K mg base N__law_handed "_law_handed" s__law_handed f cdv A outer s c.H0).xe e s1 := fun _ _ z => z
  have hp : PassesOwn (model P w) (XX P w K mg base N__law_handed "_law_handed" s__law_handed f cdv A outer s c.H0).A (XX P w K mg base N__law_handed "_law_handed" s__law_handed f cdv A outer s c.H0).env (XX P w K mg base N__law_handed "_law_handed" s__law_handed f cdv A outer s c.H0).xe := PassesOwn.never
  have hu : (XX P w K mg base N__law_handed "_law_handed" s__law_handed f cdv A outer s c.H0).A.units + 64 < cLine := units_of hr
  have hu5 : (XX P w K mg base N__law_handed "_law_handed" s__law_handed f cdv A outer s c.H0).A.units + 65 < cLine := units65 hr
  exact (ss_cons (s_set 2 hN (v_callB (c_max2 hc) bl.max (bb_cons (PV.b v_int) (bb_cons (PV.b (v_callB c_abs bl.abs (bb_cons (PV.b (v_callX C__law_integer hG hgd hr (a_bag 0 a_nil))) bb_nil))) bb_nil)))) (ss_cons (s_set 3 hN (v_if (t_cmp (o_eq hu) (PV.b (v_callX C__law_draw hG hgd hr (a_bag 0 (a_cons v_int a_nil)))) (PV.b v_int)) v_int (v_callX C__law_integer hG hgd hr (a_bag 0 a_nil)))) (ss_one (s_ret (v_callX C__law_surd hG hgd hr (a_cons (v_callX C__law_integer hG hgd hr (a_bag 0 a_nil)) (a_cons (v_name 3) (a_cons (v_name 2) (a_cons (v_name 1) a_nil)))))))))
theorem ok__law_handed {P : Program} {w : World} {K : PySem.W.Frag} {mg : Str → Option Value} {base : Heap} {f : Addr} {fd : FuncData} (F : Fun K "_law_handed" "_law_handed" s__law_handed f fd) (bl : Bl mg) (eh : ErH P K mg) (C__law_integer : Kn P w K mg base 3 "_law_integer" ["bag"] S__law_integer) (C__law_draw : Kn P w K mg base 3 "_law_draw" ["bag", "below"] S__law_draw) (C__law_surd : Kn P w K mg base 3 "_law_surd" ["a", "b", "c", "d"] S__law_surd) : FnG IsLst P w K mg base 4 f fd ["bag", "root"] S__law_handed :=
  fng_of F sc__law_handed m__law_handed l__law_handed fun cdv A outer s c hG hgd hr => ⟨g__law_handed, der__law_handed bl eh C__law_integer C__law_draw C__law_surd hG hgd hr, r__law_handed⟩
theorem sc__law_bent : FnScope N__law_bent ["bag", "value"] (defScope s__law_bent) := ⟨rfl, rfl, rfl, by decide +kernel, rfl, by decide +kernel, by decide +kernel⟩
theorem der__law_bent {P : Program} {w : World} {K : PySem.W.Frag} {mg : Str → Option Value} {base : Heap} {f : Addr} {cdv : Value} {A : Around} {outer : List PySem.Env} {s : Shared} {c : C} (bl : Bl mg) (eh : ErH P K mg) (C__law_draw : Kn P w K mg base 4 "_law_draw" ["bag", "below"] S__law_draw) (C__law_pick : Kn P w K mg base 4 "_law_pick" ["bag", "some"] S__law_pick) (C__law_any_root : Kn P w K mg base 4 "_law_any_root" ["bag"] S__law_any_root) (hG : IsLst c) (hgd : A.guards = some []) (hr : Room 4 (A.deeper (envOfC "_law_bent" (defScope s__law_bent) s.heap.objs.size f cdv))) : PSsd (XX P w K mg base N__law_bent "_law_bent" s__law_bent f cdv A outer s c.H0) c (defBody s__law_bent) g__law_bent := by
  have hN : (XX P w K mg base N__law_bent "_law_bent" s__law_bent f cdv A outer s c.H0).N.Nodup := sc__law_bent.nd
  have hc : (XX P w K mg base N__law_bent "_law_bent" s__law_bent f cdv A outer s c.H0).calm = true := rfl
  have hx : ∀ e s1, ¬ (XX P w K mg base N__law_bent "_law_bent" s__law_bent f cdv A outer s c.H0).xe e s1 := fun _ _ z => z
  have hp : PassesOwn (model P w) (XX P w K mg base N__law_bent "_law_bent" s__law_bent f cdv A outer s c.H0).A (XX P w K mg base N__law_bent "_law_bent" s__law_bent f cdv A outer s c.H0).env (XX P w K mg base N__law_bent "_law_bent" s__law_bent f cdv A outer s c.H0).xe := PassesOwn.never
  have hu : (XX P w K mg base N__law_bent "_law_bent" s__law_bent f cdv A outer s c.H0).A.units + 64 < cLine := units_of hr
  have hu5 : (XX P w K mg base N__law_bent "_law_bent" s__law_bent f cdv A outer s c.H0).A.units + 65 < cLine := units65 hr
  exact (ss_cons (s_par3 2 3 4 hc hN (m_n (n_list bl.list (b_name 1)) (m_v (v_callX C__law_draw hG hgd hr (a_bag 0 (a_cons v_int a_nil))) (m_v (v_callX C__law_draw hG hgd hr (a_bag 0 (a_cons v_int a_nil))) m_nil)))) (ss_cons (s_if (t_cmp (o_eq hu) (b_name 3) (PV.b v_int)) (ss_cons (s_set 5 hN (v_bin o_add (PV.b v_int) (PV.b (v_callX C__law_draw hG hgd hr (a_bag 0 (a_cons v_int a_nil)))))) (ss_one (s_setN 2 hN (n_lst (d_cons (v_bin o_mul (PV.b (v_ix (b_name 2) (PV.b v_int))) (b_name 5)) (d_cons (v_bin o_mul (PV.b (v_ix (b_name 2) (PV.b v_int))) (b_name 5)) (d_cons (v_bin o_mul (PV.b (v_ix (b_name 2) (PV.b v_int))) (b_name 5)) (d_cons (v_ix (b_name 2) (PV.b v_int)) d_nil)))))))) (ss_one (s_if (t_cmp (o_eq hu) (b_name 3) (PV.b v_int)) (ss_one (s_setIx 2 (v_callX C__law_pick hG hgd hr (a_bag 0 (a_cons (PN.v (n_lst (d_cons v_int (d_cons (v_neg (PV.b v_int)) (d_cons (v_neg (PV.b (v_ix (b_name 2) (PV.b v_int)))) (d_cons (v_bin o_sub (PV.b (v_ix (b_name 2) (PV.b v_int))) (PV.b (v_bin o_pow (PV.b v_int) (PV.b v_int)))) d_nil)))))) a_nil))) (PV.b v_int))) (ss_one (s_if (t_cmp (o_eq hu) (b_name 3) (PV.b v_int)) (ss_one (s_setIx 2 (v_callX C__law_pick hG hgd hr (a_bag 0 (a_cons (PN.v (n_lst (d_cons (v_bin o_add (PV.b (v_bin o_pow (PV.b v_int) (PV.b v_int))) (PV.b v_int)) (d_cons (v_bin o_sub (PV.b (v_neg (PV.b (v_bin o_pow (PV.b v_int) (PV.b v_int))))) (PV.b v_int)) (d_cons (v_bin o_pow (PV.b v_int) (PV.b v_int)) (d_cons (v_neg (PV.b (v_bin o_pow (PV.b v_int) (PV.b v_int)))) (d_cons (v_bin o_pow (PV.b v_int) (PV.b v_int)) d_nil))))))) a_nil))) (b_name 4))) (ss_one (s_if (t_cmp (o_eq hu) (b_name 3) (PV.b v_int)) (ss_one (s_setIx 2 (v_callX C__law_pick hG hgd hr (a_bag 0 (a_cons (PN.v (n_lst (d_cons (v_bin o_add (PV.b (v_bin o_pow (PV.b v_int) (PV.b v_int))) (PV.b v_int)) (d_cons (v_bin o_add (PV.b (v_bin o_pow (PV.b v_int) (PV.b v_int))) (PV.b v_int)) (d_cons (v_bin o_pow (PV.b v_int) (PV.b v_int)) (d_cons (v_bin o_pow (PV.b v_int) (PV.b v_int)) (d_cons v_int (d_cons v_int d_nil)))))))) a_nil))) (PV.b v_int))) (ss_one (s_if (t_cmp (o_eq hu) (b_name 3) (PV.b v_int)) (ss_one (s_setIx 2 (v_callX C__law_any_root hG hgd hr (a_bag 0 a_nil)) (PV.b v_int))) (ss_one (s_if (t_cmp (o_eq hu) (b_name 3) (PV.b v_int)) (ss_one (s_setIx 2 (v_callX C__law_pick hG hgd hr (a_bag 0 (a_cons (PN.v (n_lst (d_cons v_int (d_cons v_int (d_cons (v_neg (PV.b v_int)) (d_cons (v_neg (PV.b v_int)) (d_cons v_int d_nil))))))) a_nil))) (PV.b (v_callX C__law_pick hG hgd hr (a_bag 0 (a_cons (PN.v (n_lst (d_cons v_int (d_cons v_int d_nil)))) a_nil)))))) (ss_one (s_if (t_cmp (o_eq hu) (b_name 3) (PV.b v_int)) (ss_one (s_setIx 2 (v_callX C__law_pick hG hgd hr (a_bag 0 (a_cons (PN.v (n_lst (d_cons v_bl (d_cons v_bl (d_cons v_non (d_cons v_str (d_cons (v_tup (d_cons v_int d_nil)) (d_cons (PN.v (n_lst (d_cons v_int d_nil))) (d_cons v_str (d_cons v_dict0 d_nil)))))))))) a_nil))) (PV.b (v_callX C__law_draw hG hgd hr (a_bag 0 (a_cons v_int a_nil)))))) (ss_one (s_if (t_cmp (o_eq hu) (b_name 3) (PV.b v_int)) (ss_one (s_setIx 2 (v_neg (PV.b (v_ix (b_name 2) (b_name 4)))) (b_name 4))) (ss_one (s_setN 2 hN (n_lst (d_cons (v_bin o_sub (PV.b (v_callX C__law_draw hG hgd hr (a_bag 0 (a_cons v_int a_nil)))) (PV.b v_int)) (d_cons (v_bin o_sub (PV.b (v_callX C__law_draw hG hgd hr (a_bag 0 (a_cons v_int a_nil)))) (PV.b v_int)) (d_cons (v_callX C__law_draw hG hgd hr (a_bag 0 (a_cons v_int a_nil))) (d_cons (v_bin o_sub (PV.b (v_callX C__law_draw hG hgd hr (a_bag 0 (a_cons v_int a_nil)))) (PV.b v_int)) d_nil)))))))))))))))))))))) (ss_one (s_frz 2 (s_ret (v_name 2))))))
theorem ok__law_bent {P : Program} {w : World} {K : PySem.W.Frag} {mg : Str → Option Value} {base : Heap} {f : Addr} {fd : FuncData} (F : Fun K "_law_bent" "_law_bent" s__law_bent f fd) (bl : Bl mg) (eh : ErH P K mg) (C__law_draw : Kn P w K mg base 4 "_law_draw" ["bag", "below"] S__law_draw) (C__law_pick : Kn P w K mg base 4 "_law_pick" ["bag", "some"] S__law_pick) (C__law_any_root : Kn P w K mg base 4 "_law_any_root" ["bag"] S__law_any_root) : FnG IsLst P w K mg base 5 f fd ["bag", "value"] S__law_bent :=
  fng_of F sc__law_bent m__law_bent l__law_bent fun cdv A outer s c hG hgd hr => ⟨g__law_bent, der__law_bent bl eh C__law_draw C__law_pick C__law_any_root hG hgd hr, r__law_bent⟩
theorem sc__law_is_walk_right : FnScope N__law_is_walk_right ["bag", "some"] (defScope s__law_is_walk_right) := ⟨rfl, rfl, rfl, by decide +kernel, rfl, by decide +kernel, by decide +kernel⟩
theorem der__law_is_walk_right {P : Program} {w : World} {K : PySem.W.Frag} {mg : Str → Option Value} {base : Heap} {f : Addr} {cdv : Value} {A : Around} {outer : List PySem.Env} {s : Shared} {c : C} (bl : Bl mg) (eh : ErH P K mg) (C__law_pick : Kn P w K mg base 4 "_law_pick" ["bag", "some"] S__law_pick) (C__law_due : Kn P w K mg base 4 "_law_due" ["word", "row"] S__law_due) (C__law_told : Kn P w K mg base 4 "_law_told" ["word", "row", "is_named"] S__law_told) (C__law_like : Kn P w K mg base 4 "_law_like" ["told", "due"] S__law_like) (hG : IsLst c) (hgd : A.guards = some []) (hr : Room 4 (A.deeper (envOfC "_law_is_walk_right" (defScope s__law_is_walk_right) s.heap.objs.size f cdv))) : PSsd (XX P w K mg base N__law_is_walk_right "_law_is_walk_right" s__law_is_walk_right f cdv A outer s c.H0) c (defBody s__law_is_walk_right) g__law_is_walk_right := by
  have hN : (XX P w K mg base N__law_is_walk_right "_law_is_walk_right" s__law_is_walk_right f cdv A outer s c.H0).N.Nodup := sc__law_is_walk_right.nd
  have hc : (XX P w K mg base N__law_is_walk_right "_law_is_walk_right" s__law_is_walk_right f cdv A outer s c.H0).calm = true := rfl
  have hx : ∀ e s1, ¬ (XX P w K mg base N__law_is_walk_right "_law_is_walk_right" s__law_is_walk_right f cdv A outer s c.H0).xe e s1 := fun _ _ z => z
  have hp : PassesOwn (model P w) (XX P w K mg base N__law_is_walk_right "_law_is_walk_right" s__law_is_walk_right f cdv A outer s c.H0).A (XX P w K mg base N__law_is_walk_right "_law_is_walk_right" s__law_is_walk_right f cdv A outer s c.H0).env (XX P w K mg base N__law_is_walk_right "_law_is_walk_right" s__law_is_walk_right f cdv A outer s c.H0).xe := PassesOwn.never
  have hu : (XX P w K mg base N__law_is_walk_right "_law_is_walk_right" s__law_is_walk_right f cdv A outer s c.H0).A.units + 64 < cLine := units_of hr
  have hu5 : (XX P w K mg base N__law_is_walk_right "_law_is_walk_right" s__law_is_walk_right f cdv A outer s c.H0).A.units + 65 < cLine := units65 hr
  exact (ss_cons (s_set 2 hN (v_callX C__law_pick hG hgd hr (a_bag 0 (a_cons (v_name 1) a_nil)))) (ss_cons (s_for hp hc (i_rng1 bl.range (PV.b v_int)) (g_nm 3 hN) (ss_cons (s_set 4 hN (v_callX C__law_pick hG hgd hr (a_bag 0 (a_cons (PN.v (n_lst (d_cons v_str (d_cons v_str (d_cons v_str (d_cons v_str (d_cons v_str (d_cons v_str (d_cons v_str d_nil))))))))) a_nil)))) (ss_cons (s_set 5 hN (v_if (t_cmp (o_inT hu5) (b_name 4) (PV.b (v_tup (d_cons v_str (d_cons v_str d_nil))))) (PN.v (n_lst (d_cons (v_name 2) (d_cons (v_callX C__law_pick hG hgd hr (a_bag 0 (a_cons (v_name 1) a_nil))) d_nil)))) (PN.v (n_lst (d_cons (v_name 2) d_nil))))) (ss_cons (s_if (t_cmp (o_eq hu) (b_name 4) (PV.b v_str)) (ss_one (s_par 4 5 hc hN (m_v v_str (m_v (PN.v (n_lst (d_cons (v_name 2) (d_cons (v_name 2) d_nil)))) m_nil)))) ss_nil) (ss_cons (s_set 6 hN (v_callX C__law_due hG hgd hr (a_cons (v_name 4) (a_cons (v_name 5) a_nil)))) (ss_cons (s_set 7 hN (v_callX C__law_told hG hgd hr (a_cons (v_name 4) (a_cons (v_name 5) (a_cons (v_cmp o_gt (b_name 3) (PV.b v_int)) a_nil))))) (ss_cons (s_if (t_not (t_val (PV.b (v_callX C__law_like hG hgd hr (a_cons (v_name 7) (a_cons (v_name 6) a_nil)))))) (ss_one (s_ret v_bl)) ss_nil) (ss_one (s_if (t_cmp (o_eq hu) (PV.b (v_ix (b_name 6) (PV.b v_int))) (PV.b v_str)) (ss_one (s_set 2 hN (v_ix (b_name 7) (PV.b v_int)))) ss_nil))))))))) (ss_cons (s_set 6 hN (v_callX C__law_due hG hgd hr (a_cons v_str (a_cons (PN.v (n_lst (d_cons (v_name 2) d_nil))) a_nil)))) (ss_cons (s_if (t_not (t_val (PV.b (v_callX C__law_like hG hgd hr (a_cons (v_callX C__law_told hG hgd hr (a_cons v_str (a_cons (PN.v (n_lst (d_cons (v_name 2) d_nil))) (a_cons v_bl a_nil)))) (a_cons (v_name 6) a_nil)))))) (ss_one (s_ret v_bl)) ss_nil) (ss_cons (s_if (PWd.t (w_and (t_cmp (o_eq hu) (PV.b (v_ix (b_name 2) (PV.b v_int))) (PV.b v_int)) (w_and1 (t_cmp (o_eq hu) (PV.b (v_ix (b_name 2) (PV.b v_int))) (PV.b v_int))))) (ss_one (s_ret v_bl)) ss_nil) (ss_cons (s_set 8 hN (v_callX C__law_told hG hgd hr (a_cons v_str (a_cons (PN.v (n_lst (d_cons (v_name 2) d_nil))) (a_cons v_bl a_nil))))) (ss_cons (s_if (t_not (t_val (PV.b (v_callX C__law_like hG hgd hr (a_cons (v_name 8) (a_cons (v_callX C__law_due hG hgd hr (a_cons v_str (a_cons (PN.v (n_lst (d_cons (v_name 2) d_nil))) a_nil))) a_nil)))))) (ss_one (s_ret v_bl)) ss_nil) (ss_one (s_ret (v_callX C__law_like hG hgd hr (a_cons (v_callX C__law_told hG hgd hr (a_cons v_str (a_cons (PN.v (n_lst (d_cons (v_name 2) (d_cons (v_ix (b_name 8) (PV.b v_int)) d_nil)))) (a_cons v_bl a_nil)))) (a_cons (v_tup (d_cons v_str (d_cons (v_tup (d_cons v_int (d_cons v_int (d_cons v_int (d_cons v_int d_nil))))) d_nil))) a_nil))))))))))))
theorem ok__law_is_walk_right {P : Program} {w : World} {K : PySem.W.Frag} {mg : Str → Option Value} {base : Heap} {f : Addr} {fd : FuncData} (F : Fun K "_law_is_walk_right" "_law_is_walk_right" s__law_is_walk_right f fd) (bl : Bl mg) (eh : ErH P K mg) (C__law_pick : Kn P w K mg base 4 "_law_pick" ["bag", "some"] S__law_pick) (C__law_due : Kn P w K mg base 4 "_law_due" ["word", "row"] S__law_due) (C__law_told : Kn P w K mg base 4 "_law_told" ["word", "row", "is_named"] S__law_told) (C__law_like : Kn P w K mg base 4 "_law_like" ["told", "due"] S__law_like) : FnG IsLst P w K mg base 5 f fd ["bag", "some"] S__law_is_walk_right :=
  fng_of F sc__law_is_walk_right m__law_is_walk_right l__law_is_walk_right fun cdv A outer s c hG hgd hr => ⟨g__law_is_walk_right, der__law_is_walk_right bl eh C__law_pick C__law_due C__law_told C__law_like hG hgd hr, r__law_is_walk_right⟩
theorem sc__law_value : FnScope N__law_value ["bag", "some"] (defScope s__law_value) := ⟨rfl, rfl, rfl, by decide +kernel, rfl, by decide +kernel, by decide +kernel⟩
theorem der__law_value {P : Program} {w : World} {K : PySem.W.Frag} {mg : Str → Option Value} {base : Heap} {f : Addr} {cdv : Value} {A : Around} {outer : List PySem.Env} {s : Shared} {c : C} (bl : Bl mg) (eh : ErH P K mg) (C__law_pick : Kn P w K mg base 5 "_law_pick" ["bag", "some"] S__law_pick) (C__law_draw : Kn P w K mg base 5 "_law_draw" ["bag", "below"] S__law_draw) (C__law_square_free : Kn P w K mg base 5 "_law_square_free" ["bag"] S__law_square_free) (C__law_integer : Kn P w K mg base 5 "_law_integer" ["bag"] S__law_integer) (C__law_bent : Kn P w K mg base 5 "_law_bent" ["bag", "value"] S__law_bent) (hG : IsLst c) (hgd : A.guards = some []) (hr : Room 5 (A.deeper (envOfC "_law_value" (defScope s__law_value) s.heap.objs.size f cdv))) : PSsd (XX P w K mg base N__law_value "_law_value" s__law_value f cdv A outer s c.H0) c (defBody s__law_value) g__law_value := by
  have hN : (XX P w K mg base N__law_value "_law_value" s__law_value f cdv A outer s c.H0).N.Nodup := sc__law_value.nd
  have hc : (XX P w K mg base N__law_value "_law_value" s__law_value f cdv A outer s c.H0).calm = true := rfl
  have hx : ∀ e s1, ¬ (XX P w K mg base N__law_value "_law_value" s__law_value f cdv A outer s c.H0).xe e s1 := fun _ _ z => z
  have hp : PassesOwn (model P w) (XX P w K mg base N__law_value "_law_value" s__law_value f cdv A outer s c.H0).A (XX P w K mg base N__law_value "_law_value" s__law_value f cdv A outer s c.H0).env (XX P w K mg base N__law_value "_law_value" s__law_value f cdv A outer s c.H0).xe := PassesOwn.never
  have hu : (XX P w K mg base N__law_value "_law_value" s__law_value f cdv A outer s c.H0).A.units + 64 < cLine := units_of hr
  have hu5 : (XX P w K mg base N__law_value "_law_value" s__law_value f cdv A outer s c.H0).A.units + 65 < cLine := units65 hr
  exact (ss_cons (s_par 2 3 hc hN (m_v (v_callX C__law_draw hG hgd hr (a_bag 0 (a_cons v_int a_nil))) (m_v (v_callX C__law_pick hG hgd hr (a_bag 0 (a_cons (v_name 1) a_nil))) m_nil))) (ss_cons (s_if (t_cmp (o_eq hu) (b_name 2) (PV.b v_int)) (ss_one (s_ret (v_name 3))) ss_nil) (ss_cons (s_if (t_cmp (o_eq hu) (b_name 2) (PV.b v_int)) (ss_one (s_ret (v_tup (d_cons (v_callX C__law_integer hG hgd hr (a_bag 0 a_nil)) (d_cons (v_callX C__law_integer hG hgd hr (a_bag 0 a_nil)) (d_cons (v_callB (c_max2 hc) bl.max (bb_cons (PV.b v_int) (bb_cons (PV.b (v_callB c_abs bl.abs (bb_cons (PV.b (v_callX C__law_integer hG hgd hr (a_bag 0 a_nil))) bb_nil))) bb_nil))) (d_cons (v_callX C__law_square_free hG hgd hr (a_bag 0 a_nil)) d_nil))))))) ss_nil) (ss_cons (s_if (t_cmp (o_eq hu) (b_name 2) (PV.b v_int)) (ss_one (s_ret (v_callX C__law_pick hG hgd hr (a_bag 0 (a_cons (PN.v (n_lst (d_cons (PN.v (n_list bl.list (b_name 3))) (d_cons (v_slT (b_name 3) po_n (po_s (PV.b v_int))) (d_cons (v_bin o_add (b_name 3) (PV.b (v_tup (d_cons v_int d_nil)))) (d_cons (v_tup (d_cons (v_name 3) d_nil)) (d_cons v_non (d_cons v_bl (d_cons v_int (d_cons v_str (d_cons (v_tup d_nil) (d_cons v_dict0 (d_cons (v_callT (c_str hgd hu) bl.str (bb_cons (b_name 3) bb_nil)) (d_cons (v_bin o_add (PV.b (v_slT (b_name 3) po_n (po_s (PV.b v_int)))) (PV.b (v_tup (d_cons (PN.v (n_list bl.list (b_name 3))) d_nil)))) (d_cons (PN.v (n_lst (d_cons (v_name 3) d_nil))) (d_cons (v_dict1 pk_str (v_name 3)) (d_cons (v_tup (d_cons (v_name 3) (d_cons (v_name 3) (d_cons (v_name 3) (d_cons (v_name 3) d_nil))))) d_nil))))))))))))))))) a_nil))))) ss_nil) (ss_cons (s_set 4 hN (v_callX C__law_bent hG hgd hr (a_bag 0 (a_cons (v_name 3) a_nil)))) (ss_cons (s_if (PWd.t (w_and (t_cmp o_lt (b_name 2) (PV.b v_int)) (w_and1 (t_val (PV.b (v_callB (c_all hc) bl.all (bb_cons (PV.b (PN.v (n_lc hc hN (own := [("item", 5)]) (by first | rfl | decide +kernel) (i_seq (v_name 4)) (fun _ _ _ _ _ => (g_nm 5 (by exact hN))) (fun _ _ _ _ _ => ts_nil) (fun _ _ _ _ _ => (v_and (PV.b (v_isi kit_int bl.isinstance bl.int (b_name 5))) (v_one (v_not (PV.b (v_isi kit_bool bl.isinstance bl.bool (b_name 5)))))))))) bb_nil))))))) (ss_one (s_set 4 hN (v_callX C__law_bent hG hgd hr (a_bag 0 (a_cons (v_callT c_tuple bl.tuple (bb_cons (b_name 4) bb_nil)) a_nil))))) ss_nil) (ss_one (s_ret (v_callT c_tuple bl.tuple (bb_cons (b_name 4) bb_nil))))))))))
theorem ok__law_value {P : Program} {w : World} {K : PySem.W.Frag} {mg : Str → Option Value} {base : Heap} {f : Addr} {fd : FuncData} (F : Fun K "_law_value" "_law_value" s__law_value f fd) (bl : Bl mg) (eh : ErH P K mg) (C__law_pick : Kn P w K mg base 5 "_law_pick" ["bag", "some"] S__law_pick) (C__law_draw : Kn P w K mg base 5 "_law_draw" ["bag", "below"] S__law_draw) (C__law_square_free : Kn P w K mg base 5 "_law_square_free" ["bag"] S__law_square_free) (C__law_integer : Kn P w K mg base 5 "_law_integer" ["bag"] S__law_integer) (C__law_bent : Kn P w K mg base 5 "_law_bent" ["bag", "value"] S__law_bent) : FnG IsLst P w K mg base 6 f fd ["bag", "some"] S__law_value :=
  fng_of F sc__law_value m__law_value l__law_value fun cdv A outer s c hG hgd hr => ⟨g__law_value, der__law_value bl eh C__law_pick C__law_draw C__law_square_free C__law_integer C__law_bent hG hgd hr, r__law_value⟩
theorem sc__law_asks : FnScope N__law_asks ["bag", "some"] (defScope s__law_asks) := ⟨rfl, rfl, rfl, by decide +kernel, rfl, by decide +kernel, by decide +kernel⟩
theorem der__law_asks {P : Program} {w : World} {K : PySem.W.Frag} {mg : Str → Option Value} {base : Heap} {f : Addr} {cdv : Value} {A : Around} {outer : List PySem.Env} {s : Shared} {c : C} (bl : Bl mg) (eh : ErH P K mg) (C__law_integer : Kn P w K mg base 6 "_law_integer" ["bag"] S__law_integer) (C__law_any_root : Kn P w K mg base 6 "_law_any_root" ["bag"] S__law_any_root) (C__law_pick : Kn P w K mg base 6 "_law_pick" ["bag", "some"] S__law_pick) (C__law_value : Kn P w K mg base 6 "_law_value" ["bag", "some"] S__law_value) (hG : IsLst c) (hgd : A.guards = some []) (hr : Room 6 (A.deeper (envOfC "_law_asks" (defScope s__law_asks) s.heap.objs.size f cdv))) : PSsd (XX P w K mg base N__law_asks "_law_asks" s__law_asks f cdv A outer s c.H0) c (defBody s__law_asks) g__law_asks := by
  have hN : (XX P w K mg base N__law_asks "_law_asks" s__law_asks f cdv A outer s c.H0).N.Nodup := sc__law_asks.nd
  have hc : (XX P w K mg base N__law_asks "_law_asks" s__law_asks f cdv A outer s c.H0).calm = true := rfl
  have hx : ∀ e s1, ¬ (XX P w K mg base N__law_asks "_law_asks" s__law_asks f cdv A outer s c.H0).xe e s1 := fun _ _ z => z
  have hp : PassesOwn (model P w) (XX P w K mg base N__law_asks "_law_asks" s__law_asks f cdv A outer s c.H0).A (XX P w K mg base N__law_asks "_law_asks" s__law_asks f cdv A outer s c.H0).env (XX P w K mg base N__law_asks "_law_asks" s__law_asks f cdv A outer s c.H0).xe := PassesOwn.never
  have hu : (XX P w K mg base N__law_asks "_law_asks" s__law_asks f cdv A outer s c.H0).A.units + 64 < cLine := units_of hr
  have hu5 : (XX P w K mg base N__law_asks "_law_asks" s__law_asks f cdv A outer s c.H0).A.units + 65 < cLine := units65 hr
  exact (ss_cons (s_setN 2 hN (n_lst d_nil)) (ss_cons (s_for hp hc (i_rng1 bl.range (PV.b v_int)) (g_nm 3 hN) (ss_cons (s_set 4 hN (v_callX C__law_integer hG hgd hr (a_bag 0 a_nil))) (ss_one (s_app 2 (PN.v (n_lst (d_cons v_str (d_cons (PN.v (n_lst (d_cons (v_callX C__law_integer hG hgd hr (a_bag 0 a_nil)) (d_cons (v_callX C__law_integer hG hgd hr (a_bag 0 a_nil)) (d_cons (v_if (t_cmp (o_ne hu) (b_name 4) (PV.b v_int)) (v_name 4) (v_neg (PV.b v_int))) (d_cons (v_callX C__law_any_root hG hgd hr (a_bag 0 a_nil)) d_nil)))))) d_nil)))))))) (ss_cons (s_lc 5 hc hN (own := [("turn", 3)]) (by first | rfl | decide +kernel) (i_rng1 bl.range (PV.b v_int)) (fun _ _ _ _ _ => (g_nm 3 (by exact hN))) (fun _ _ _ _ _ => ts_nil) (fun _ _ _ _ _ => (v_callX C__law_pick hG (by exact hgd) (by exact hr) (a_bag 0 (a_cons (PN.v (n_lst (d_cons (v_bin o_pow (PV.b v_int) (PV.b v_int)) (d_cons (v_neg (PV.b (v_bin o_pow (PV.b v_int) (PV.b v_int)))) d_nil)))) a_nil))))) (ss_cons (s_app 2 (PN.v (n_lst (d_cons v_str (d_cons (v_bin o_add (b_name 5) (PV.b (PN.v (n_lst (d_cons (v_callX C__law_pick hG hgd hr (a_bag 0 (a_cons (PN.v (n_lst (d_cons (v_bin o_pow (PV.b v_int) (PV.b v_int)) (d_cons v_int (d_cons v_int (d_cons v_int d_nil)))))) a_nil))) d_nil))))) d_nil))))) (ss_cons (s_for hp hc (i_seq (v_name 1)) (g_nm 6 hN) (ss_cons (s_ext 2 (PV.b (PN.v (n_lst (d_cons (PN.v (n_lst (d_cons v_str (d_cons (PN.v (n_lst (d_cons (v_name 6) d_nil))) d_nil)))) (d_cons (PN.v (n_lst (d_cons v_str (d_cons (PN.v (n_lst (d_cons (v_name 6) d_nil))) d_nil)))) (d_cons (PN.v (n_lst (d_cons v_str (d_cons (PN.v (n_lst (d_cons (v_name 6) d_nil))) d_nil)))) (d_cons (PN.v (n_lst (d_cons v_str (d_cons (PN.v (n_lst (d_cons (v_name 6) d_nil))) d_nil)))) d_nil)))))))) (ss_cons (s_set 7 hN (v_callX C__law_pick hG hgd hr (a_bag 0 (a_cons (v_name 1) a_nil)))) (ss_one (s_ext 2 (PV.b (PN.v (n_lst (d_cons (PN.v (n_lst (d_cons v_str (d_cons (PN.v (n_lst (d_cons (v_name 6) (d_cons (v_name 7) d_nil)))) d_nil)))) (d_cons (PN.v (n_lst (d_cons v_str (d_cons (PN.v (n_lst (d_cons (v_name 6) (d_cons (v_name 7) d_nil)))) d_nil)))) d_nil)))))))))) (ss_cons (s_asg (v_ix (b_name 1) (PV.b v_int)) (g_sq hc (gs_cons (g_nm 8 hN) (gs_cons (g_nm 9 hN) (gs_cons (g_nm 4 hN) (gs_cons (g_nm 10 hN) gs_nil)))))) (ss_cons (s_ext 2 (PV.b (PN.v (n_lst (d_cons (PN.v (n_lst (d_cons v_str (d_cons (PN.v (n_lst (d_cons (v_ix (b_name 1) (PV.b v_int)) (d_cons (v_tup (d_cons (v_neg (b_name 8)) (d_cons (v_neg (b_name 9)) (d_cons (v_name 4) (d_cons (v_name 10) d_nil))))) d_nil)))) d_nil)))) (d_cons (PN.v (n_lst (d_cons v_str (d_cons (PN.v (n_lst (d_cons (v_ix (b_name 1) (PV.b v_int)) (d_cons (v_tup (d_cons (v_name 8) (d_cons (v_neg (b_name 9)) (d_cons (v_name 4) (d_cons (v_name 10) d_nil))))) d_nil)))) d_nil)))) d_nil)))))) (ss_cons (s_ext 2 (PV.b (PN.v (n_lst (d_cons (PN.v (n_lst (d_cons v_str (d_cons (PN.v (n_lst (d_cons (v_ix (b_name 1) (PV.b v_int)) (d_cons (v_tup (d_cons (v_name 8) (d_cons (v_neg (b_name 9)) (d_cons (v_name 4) (d_cons (v_name 10) d_nil))))) d_nil)))) d_nil)))) (d_cons (PN.v (n_lst (d_cons v_str (d_cons (PN.v (n_lst (d_cons (v_tup (d_cons v_int (d_cons v_int (d_cons v_int (d_cons v_int d_nil))))) d_nil))) d_nil)))) (d_cons (PN.v (n_lst (d_cons v_str (d_cons (PN.v (n_lst (d_cons (v_tup (d_cons (v_neg (PV.b v_int)) (d_cons v_int (d_cons (v_name 4) (d_cons v_int d_nil))))) d_nil))) d_nil)))) d_nil))))))) (ss_cons (s_for hp hc (i_rng1 bl.range (PV.b v_int)) (g_nm 3 hN) (ss_one (s_app 2 (PN.v (n_lst (d_cons v_str (d_cons (PN.v (n_lst (d_cons (v_callX C__law_value hG hgd hr (a_bag 0 (a_cons (v_name 1) a_nil))) d_nil))) d_nil))))))) (ss_cons (s_par 11 12 hc hN (m_v (v_bin o_add (PV.b v_int) (PV.b (v_callB c_abs bl.abs (bb_cons (PV.b (v_callX C__law_integer hG hgd hr (a_bag 0 a_nil))) bb_nil)))) (m_v (v_callX C__law_pick hG hgd hr (a_bag 0 (a_cons (PN.v (n_lst (d_cons v_int (d_cons v_int (d_cons v_int (d_cons v_int (d_cons (v_bin o_pow (PV.b v_int) (PV.b v_int)) (d_cons v_int d_nil)))))))) a_nil))) m_nil))) (ss_cons (s_app 2 (PN.v (n_lst (d_cons v_str (d_cons (PN.v (n_lst (d_cons (v_callX C__law_integer hG hgd hr (a_bag 0 a_nil)) (d_cons (v_bin o_add (PV.b (v_bin o_mod (PV.b (v_callT c_int bl.int (bb_cons (b_name 11) bb_nil))) (PV.b (v_bin o_pow (PV.b v_int) (PV.b v_int))))) (PV.b v_int)) (d_cons (v_neg (PV.b v_int)) (d_cons v_int d_nil)))))) d_nil))))) (ss_one (s_ret (v_bin o_add (b_name 2) (PV.b (PN.v (n_lst (d_cons (PN.v (n_lst (d_cons v_str (d_cons (PN.v (n_lst (d_cons (v_callX C__law_integer hG hgd hr (a_bag 0 a_nil)) (d_cons (v_bin o_add (PV.b (v_bin o_mod (PV.b (v_callT c_int bl.int (bb_cons (b_name 11) bb_nil))) (PV.b v_int))) (PV.b v_int)) (d_cons v_int (d_cons (v_name 12) d_nil)))))) d_nil)))) d_nil))))))))))))))))))
theorem ok__law_asks {P : Program} {w : World} {K : PySem.W.Frag} {mg : Str → Option Value} {base : Heap} {f : Addr} {fd : FuncData} (F : Fun K "_law_asks" "_law_asks" s__law_asks f fd) (bl : Bl mg) (eh : ErH P K mg) (C__law_integer : Kn P w K mg base 6 "_law_integer" ["bag"] S__law_integer) (C__law_any_root : Kn P w K mg base 6 "_law_any_root" ["bag"] S__law_any_root) (C__law_pick : Kn P w K mg base 6 "_law_pick" ["bag", "some"] S__law_pick) (C__law_value : Kn P w K mg base 6 "_law_value" ["bag", "some"] S__law_value) : FnG IsLst P w K mg base 7 f fd ["bag", "some"] S__law_asks :=
  fng_of F sc__law_asks m__law_asks l__law_asks fun cdv A outer s c hG hgd hr => ⟨g__law_asks, der__law_asks bl eh C__law_integer C__law_any_root C__law_pick C__law_value hG hgd hr, r__law_asks⟩
theorem sc_law : FnScope N_law ["script"] (defScope s_law) := ⟨rfl, rfl, rfl, by decide +kernel, rfl, by decide +kernel, by decide +kernel⟩
theorem sc__law_draw : FnScope ["bag", "below", "cell", "found"] ["bag", "below"] (defScope s__law_draw) := ⟨rfl, rfl, rfl, by decide +kernel, rfl, by decide +kernel, by decide +kernel⟩
theorem der__law_draw {P : Program} {w : World} {K : PySem.W.Frag} {mg : Str → Option Value} {base : Heap} {f : Addr} {cdv : Value} {A : Around} {outer : List PySem.Env} {s : Shared} {c : C} (bl : Bl mg) (hr : Room 0 (A.deeper (envOfC "_law_draw" (defScope s__law_draw) s.heap.objs.size f cdv))) : PSs (XX P w K mg base ["bag", "below", "cell", "found"] "_law_draw" s__law_draw f cdv A outer s c.H0) (defBody s__law_draw) (tDraw 69621 13 5) := by
  have hN : (XX P w K mg base ["bag", "below", "cell", "found"] "_law_draw" s__law_draw f cdv A outer s c.H0).N.Nodup := sc__law_draw.nd
  have hp : PassesOwn (model P w) (XX P w K mg base ["bag", "below", "cell", "found"] "_law_draw" s__law_draw f cdv A outer s c.H0).A (XX P w K mg base ["bag", "below", "cell", "found"] "_law_draw" s__law_draw f cdv A outer s c.H0).env (XX P w K mg base ["bag", "below", "cell", "found"] "_law_draw" s__law_draw f cdv A outer s c.H0).xe := PassesOwn.never
  have hu : (XX P w K mg base ["bag", "below", "cell", "found"] "_law_draw" s__law_draw f cdv A outer s c.H0).A.units + 64 < cLine := units_of hr
  have w1 : ∀ (σ : L2.St) (H : Hp) (b : Bool) (Q : Bool → Hp → Prop), (∃ x y, rNm 2 σ H x ∧ rPow (rK 10) (rK 9) σ H y ∧ b = gGtI x y) → Q b H → tIt gGtI (rNm 2) (rPow (rK 10) (rK 9)) σ H Q := fun σ H b Q ⟨x, y, h1, h2, e⟩ q => ⟨x, y, h1, h2, e ▸ q⟩
  exact pss_cons (ps_while hp (PW.pt (pw_and (pt_i iop_eq (pi_bag 0) pi_c) (pw_and1 (pt_full 0 hu)))) (pss_cons (ps_bagPop 0 2 hN) (pss_one (ps_bag 0 (pi_if (pt_i op_gt (pi_nm 2) (pi_bin op_pow pi_c pi_c)) w1 (pi_nm 2) pi_c)))))
    (pss_cons (ps_if (pt_i op_gt (pi_bag 0) pi_c) (pss_cons (ps_setI 3 hN (pi_bin op_mod (pi_int bl.int (pi_bag 0)) (pi_nm 1))) (pss_cons (ps_bag 0 (pi_bin iop_div (pi_bag 0) (pi_nm 1))) (pss_one (ps_retI (pi_nm 3))))) pss_nil)
    (pss_cons (ps_bag 0 (pi_bin op_mod (pi_bin iop_add (pi_bin op_mulW (pi_bag 0) pi_c) pi_c) pi_c)) (pss_one (ps_retI (pi_bin op_mod (pi_bin iop_div (pi_bin op_mod (pi_bin op_mulW (pi_bag 0) (pi_bag 0)) pi_c) pi_c) (pi_nm 1))))))
theorem ok__law_draw {P : Program} {w : World} {K : PySem.W.Frag} {mg : Str → Option Value} {base : Heap} {f : Addr} {fd : FuncData} (F : Fun K "_law_draw" "_law_draw" s__law_draw f fd) (bl : Bl mg) : FnG IsLst P w K mg base 1 f fd ["bag", "below"] S__law_draw :=
  fng_of F sc__law_draw spDraw_mono spDraw_len fun cdv A outer s c hG hgd hr => ⟨gDraw, draw_ss (a := 69621) (b := 13) (q := 5) hG (by decide) (by decide) (by decide) (der__law_draw (c := c) bl hr), spDraw_go rfl⟩
theorem der_law {P : Program} {w : World} {K : PySem.W.Frag} {mg : Str → Option Value} {base : Heap} {f : Addr} {cdv : Value} {s : Shared} {H : Hp} {c : C} (bl : Bl mg) (eh : ErH P K mg) (C__law_square_free : Kn P w K mg base 7 "_law_square_free" ["bag"] S__law_square_free) (C__law_handed : Kn P w K mg base 7 "_law_handed" ["bag", "root"] S__law_handed) (C__law_draw : Kn P w K mg base 7 "_law_draw" ["bag", "below"] S__law_draw) (C__law_asks : Kn P w K mg base 7 "_law_asks" ["bag", "some"] S__law_asks) (C__law_each_wrong : Kn P w K mg base 7 "_law_each_wrong" ["bag", "root"] S__law_each_wrong) (C__law_due : Kn P w K mg base 7 "_law_due" ["word", "row"] S__law_due) (C__law_like : Kn P w K mg base 7 "_law_like" ["told", "due"] S__law_like) (C__law_told : Kn P w K mg base 7 "_law_told" ["word", "row", "is_named"] S__law_told) (C__law_is_walk_right : Kn P w K mg base 7 "_law_is_walk_right" ["bag", "some"] S__law_is_walk_right) (hG : IsLst c) (hr : Room 7 (callerA.deeper (envOfC "law" (defScope s_law) s.heap.objs.size f cdv))) : PSsd (XX P w K mg base N_law "law" s_law f cdv callerA [] s H) c (defBody s_law).tail g_law := by
  have hN : (XX P w K mg base N_law "law" s_law f cdv callerA [] s H).N.Nodup := sc_law.nd
  have hc : (XX P w K mg base N_law "law" s_law f cdv callerA [] s H).calm = true := rfl
  have hx : ∀ e s1, ¬ (XX P w K mg base N_law "law" s_law f cdv callerA [] s H).xe e s1 := fun _ _ z => z
  have hgd : (XX P w K mg base N_law "law" s_law f cdv callerA [] s H).A.guards = some [] := rfl
  have hp : PassesOwn (model P w) (XX P w K mg base N_law "law" s_law f cdv callerA [] s H).A (XX P w K mg base N_law "law" s_law f cdv callerA [] s H).env (XX P w K mg base N_law "law" s_law f cdv callerA [] s H).xe := PassesOwn.never
  have hu : (XX P w K mg base N_law "law" s_law f cdv callerA [] s H).A.units + 64 < cLine := units_of hr
  have hu5 : (XX P w K mg base N_law "law" s_law f cdv callerA [] s H).A.units + 65 < cLine := units65 hr
  exact (ss_cons (s_set 2 hN (v_callX C__law_square_free hG hgd hr (a_bag 1 a_nil))) (ss_cons (s_lc 3 hc hN (own := [("turn", 4)]) (by first | rfl | decide +kernel) (i_rng1 bl.range (PV.b v_int)) (fun _ _ _ _ _ => (g_nm 4 (by exact hN))) (fun _ _ _ _ _ => ts_nil) (fun _ _ _ _ _ => (v_callX C__law_handed hG (by exact hgd) (by exact hr) (a_bag 1 (a_cons (v_name 2) a_nil))))) (ss_cons (s_if (t_cmp (o_eq hu) (PV.b (v_callX C__law_draw hG hgd hr (a_bag 1 (a_cons v_int a_nil)))) (PV.b v_int)) (ss_one (s_app 3 (v_tup (d_cons v_int (d_cons v_int (d_cons v_int (d_cons v_int d_nil))))))) ss_nil) (ss_cons (s_frz 3 (s_set 5 hN (v_bin o_add (PV.b (v_callX C__law_asks hG hgd hr (a_bag 1 (a_cons (v_name 3) a_nil)))) (PV.b (v_callX C__law_each_wrong hG hgd hr (a_bag 1 (a_cons (v_name 2) a_nil))))))) (ss_cons (s_lc 6 hc hN (own := [("word", 7), ("row", 8)]) (by first | rfl | decide +kernel) (i_seq (v_name 5)) (fun _ _ _ _ _ => (g_sq (by exact hc) (gs_cons (g_nm 7 (by exact hN)) (gs_cons (g_nm 8 (by exact hN)) gs_nil)))) (fun _ _ _ _ _ => ts_nil) (fun _ _ _ _ _ => (v_callX C__law_due hG (by exact hgd) (by exact hr) (a_cons (v_name 7) (a_cons (v_name 8) a_nil))))) (ss_cons (s_par 9 4 hc hN (m_v (v_callB (c_reprW eh.dig hgd hu) bl.repr (bb_cons (b_name 5) bb_nil)) (m_v (v_callX C__law_draw hG hgd hr (a_bag 1 (a_cons v_int a_nil))) m_nil))) (ss_cons (s_for hp hc (i_seq (PN.v (n_lrng1 hc bl.list bl.range (PV.b (v_callB c_len bl.len (bb_cons (b_name 5) bb_nil)))))) (g_nm 10 hN) (ss_one (s_if (t_not (t_val (PV.b (v_callX C__law_like hG hgd hr (a_cons (v_callX C__law_told hG hgd hr (a_cons (v_ix (PV.b (v_ix (b_name 5) (b_name 10))) (PV.b v_int)) (a_cons (v_ix (PV.b (v_ix (b_name 5) (b_name 10))) (PV.b v_int)) (a_cons (v_cmp (o_eq hu) (PV.b (v_bin o_mod (PV.b (v_callT c_int bl.int (bb_cons (PV.b (v_bin o_add (b_name 10) (b_name 4))) bb_nil))) (PV.b v_int))) (PV.b v_int)) a_nil)))) (a_cons (v_ix (b_name 6) (b_name 10)) a_nil)))))) (ss_one (s_ret v_bl)) ss_nil))) (ss_cons (s_for hp hc (i_rng1 bl.range (PV.b v_int)) (g_nm 11 hN) (ss_one (s_frz 3 (s_if (t_not (t_val (PV.b (v_callX C__law_is_walk_right hG hgd hr (a_bag 1 (a_cons (v_name 3) a_nil)))))) (ss_one (s_ret v_bl)) ss_nil)))) (ss_cons (s_for hp hc (i_seq (PN.v (n_listRev hc bl.list bl.reversed (PV.b (PN.v (n_lrng1 hc bl.list bl.range (PV.b (v_callB c_len bl.len (bb_cons (b_name 5) bb_nil))))))))) (g_nm 10 hN) (ss_one (s_if (t_not (t_val (PV.b (v_callX C__law_like hG hgd hr (a_cons (v_callX C__law_told hG hgd hr (a_cons (v_ix (PV.b (v_ix (b_name 5) (b_name 10))) (PV.b v_int)) (a_cons (v_ix (PV.b (v_ix (b_name 5) (b_name 10))) (PV.b v_int)) (a_cons (v_cmp (o_eq hu) (PV.b (v_bin o_mod (PV.b (v_callT c_int bl.int (bb_cons (PV.b (v_bin o_add (b_name 10) (b_name 4))) bb_nil))) (PV.b v_int))) (PV.b v_int)) a_nil)))) (a_cons (v_ix (b_name 6) (b_name 10)) a_nil)))))) (ss_one (s_ret v_bl)) ss_nil))) (ss_one (s_ret (v_cmp (o_eq hu) (PV.b (v_callB (c_reprW eh.dig hgd hu) bl.repr (bb_cons (b_name 5) bb_nil))) (b_name 9)))))))))))))
theorem ok_law {P : Program} {w : World} {K : PySem.W.Frag} {mg : Str → Option Value} {base : Heap} {f fO : Addr} {fd fdO : FuncData} (F : Fun K "law" "law" s_law f fd) (bl : Bl mg) (eh : ErH P K mg) (FO : FnG (GOwn K) P w K mg base 7 fO fdO ["script"] S__law_own_bag) (gO : mg "_law_own_bag" = some (.ref fO)) (kO : PySem.W.keepIn K (.ref fO) = true) (bO : Binds K fdO ["script"] []) (C__law_square_free : Kn P w K mg base 7 "_law_square_free" ["bag"] S__law_square_free) (C__law_handed : Kn P w K mg base 7 "_law_handed" ["bag", "root"] S__law_handed) (C__law_draw : Kn P w K mg base 7 "_law_draw" ["bag", "below"] S__law_draw) (C__law_asks : Kn P w K mg base 7 "_law_asks" ["bag", "some"] S__law_asks) (C__law_each_wrong : Kn P w K mg base 7 "_law_each_wrong" ["bag", "root"] S__law_each_wrong) (C__law_due : Kn P w K mg base 7 "_law_due" ["word", "row"] S__law_due) (C__law_like : Kn P w K mg base 7 "_law_like" ["told", "due"] S__law_like) (C__law_told : Kn P w K mg base 7 "_law_told" ["word", "row", "is_named"] S__law_told) (C__law_is_walk_right : Kn P w K mg base 7 "_law_is_walk_right" ["bag", "some"] S__law_is_walk_right) (hb : ∀ (s : Shared) (u : Value), BindsTo s fd ⟨[u], []⟩ [("script", u)]) : FnL P w K mg base f :=
  fnl_of (n := 10) (k := 7) F sc_law rfl ⟨rfl, by decide, by decide⟩ (fun cdv s H hr => law_ss (n := 10) (ps_set (i := 1) sc_law.nd rfl (by first | exact Or.inl rfl | exact Or.inr rfl) (pe_own FO rfl hr gO kO bO)) (fun c hG => der_law (c := c) bl eh C__law_square_free C__law_handed C__law_draw C__law_asks C__law_each_wrong C__law_due C__law_like C__law_told C__law_is_walk_right hG hr) r_law) hb
end T
end DL
namespace DL
namespace T
open PySem L2 PySem.Spec PyProof.Rows
/-! ### the head: facts by names -/
def dfOf (x : Str) (st : Stmt) : He.DefD := ⟨(x, none), x, x, defArgs st, defBody st, defScope st, [], []⟩
def fn : List He.DefD := ([dfOf "is_integer" s_is_integer, dfOf "is_tuple" s_is_tuple, dfOf "common" s_common, dfOf "whole_root" s_whole_root, dfOf "root_parts" s_root_parts, dfOf "lowest" s_lowest, dfOf "surd_of" s_surd_of, dfOf "surd_error" s_surd_error, dfOf "surd_sum" s_surd_sum, dfOf "surd_times" s_surd_times, dfOf "surd_turned" s_surd_turned, dfOf "surd_back" s_surd_back, dfOf "other_root" s_other_root, dfOf "_law_own_bag" s__law_own_bag, dfOf "_law_draw" s__law_draw, dfOf "_law_pick" s__law_pick, dfOf "_law_great" s__law_great, dfOf "_law_refused" s__law_refused, dfOf "_law_like" s__law_like, dfOf "_law_common" s__law_common, dfOf "_law_root_of" s__law_root_of, dfOf "_law_parts" s__law_parts, dfOf "_law_surd" s__law_surd, dfOf "_law_square_free" s__law_square_free, dfOf "_law_integer" s__law_integer, dfOf "_law_told" s__law_told, dfOf "_law_own_of" s__law_own_of, dfOf "_law_own_error" s__law_own_error, dfOf "_law_due" s__law_due, dfOf "_law_any_root" s__law_any_root] : List He.DefD) ++ ([dfOf "_law_handed" s__law_handed, dfOf "_law_bent" s__law_bent, dfOf "_law_value" s__law_value, dfOf "_law_each_wrong" s__law_each_wrong, dfOf "_law_asks" s__law_asks, dfOf "_law_is_walk_right" s__law_is_walk_right, dfOf "law" s_law] : List He.DefD)
def fa : List He.Fa := ([.glo "is_integer", .glo "is_tuple", .glo "common", .glo "whole_root", .glo "root_parts", .glo "lowest", .glo "surd_of", .glo "surd_error", .glo "surd_sum", .glo "surd_times", .glo "surd_turned", .glo "surd_back", .glo "other_root", .glo "_law_own_bag", .glo "_law_draw", .glo "_law_pick", .glo "_law_great", .glo "_law_refused", .glo "_law_like", .glo "_law_common", .glo "_law_root_of", .glo "_law_parts", .glo "_law_surd", .glo "_law_square_free", .glo "_law_integer", .glo "_law_told", .glo "_law_own_of", .glo "_law_own_error", .glo "_law_due", .glo "_law_any_root"] : List He.Fa) ++ ([.glo "_law_handed", .glo "_law_bent", .glo "_law_value", .glo "_law_each_wrong", .glo "_law_asks", .glo "_law_is_walk_right", .glo "law", .free "ValueError", .free "abs", .free "all", .free "any", .free "bool", .free "int", .free "isinstance", .free "len", .free "list", .free "max", .free "range", .free "repr", .free "reversed", .free "str", .free "tuple", .int "MAX_ROOT" 1000000, .int "MAX_PART" 1000000000000, .glo "LineError", .glo "Unfit", .glo "TooMany", .glo "BadText", .glo "BadChain", .glo "BadLog"] : List He.Fa) ++ ([.glo "Refused", .glo "NothingToUndo", .free "super"] : List He.Fa)
abbrev R : PySem.W.OpenRow := PySem.W.OpenLaw.row PySem.Challenge.rw_linecuts_k01_whole_surds
def er : List EX.ErD := [⟨"TooMany", "TooMany.__init__", defArgs (EX.clsIni (top 5)), defBody (EX.clsIni (top 5)), defScope (EX.clsIni (top 5))⟩, ⟨"BadText", "BadText.__init__", defArgs (EX.clsIni (top 6)), defBody (EX.clsIni (top 6)), defScope (EX.clsIni (top 6))⟩, ⟨"BadChain", "BadChain.__init__", defArgs (EX.clsIni (top 7)), defBody (EX.clsIni (top 7)), defScope (EX.clsIni (top 7))⟩, ⟨"BadLog", "BadLog.__init__", defArgs (EX.clsIni (top 8)), defBody (EX.clsIni (top 8)), defScope (EX.clsIni (top 8))⟩, ⟨"Refused", "Refused.__init__", defArgs (EX.clsIni (top 9)), defBody (EX.clsIni (top 9)), defScope (EX.clsIni (top 9))⟩, ⟨"Unfit", "Unfit.__init__", defArgs (EX.clsIni (top 4)), defBody (EX.clsIni (top 4)), defScope (EX.clsIni (top 4))⟩, ⟨"NothingToUndo", "NothingToUndo.__init__", defArgs (EX.clsIni (top 10)), defBody (EX.clsIni (top 10)), defScope (EX.clsIni (top 10))⟩]
abbrev P0 : Program := PySem.Challenge.pw_linecuts_k01_whole_surds
abbrev hk : PySem.W.Hook := EX.hookX 5 P0.main.file fa fn er
def ob (s : PySem.W.SharedT) : EX.AlX := EX.obsXG 5 P0.main.file fa fn er (HandSHeadRun.getT s)
theorem ob_eq (s : PySem.W.SharedT) : ob s = hk.obs s.abs := EX.obsXG_eq (HandSHeadRun.getT_eq s)
def loose : List PySem.Str := (["MAX_PART", "MAX_ROOT", "LineError", "Unfit", "TooMany", "BadText", "BadChain", "BadLog", "Refused", "NothingToUndo", "is_integer", "is_tuple", "common", "whole_root", "root_parts", "lowest", "surd_of", "surd_error", "surd_sum", "surd_times", "surd_turned", "surd_back", "other_root", "_law_own_bag", "_law_draw", "_law_pick", "_law_great", "_law_refused", "_law_like", "_law_common"] : List PySem.Str) ++ (["_law_root_of", "_law_parts", "_law_surd", "_law_square_free", "_law_integer", "_law_told", "_law_own_of", "_law_own_error", "_law_due", "_law_any_root", "_law_handed", "_law_bent", "_law_value", "_law_each_wrong", "_law_asks", "_law_is_walk_right"] : List PySem.Str)
theorem run (w : World) : HandSHeadRun.RunEq R (PySem.W.view R.prog [50]) hk ob 20000 loose w := by
  intro os
  kernel_rfl
theorem iniF_ok {K : PySem.W.Frag} (c : EX.SaysX P0.main.file fa fn er K) (i : Nat) {d : EX.ErD} (h : er[i]? = some d) (kS : d.scope.names.lookup ("super" : Str) = some .globalImplicit) (kC : d.scope.names.lookup ("__class__" : Str) = some .free) (kI : d.scope.kind = .function) (co : d.scope.isCoroutine = false) (gen : d.scope.isGenerator = false) : ∃ f cda cc, EX.IniF P0 K (He.ga K d.nm) f d.qual d.params d.body d.scope cda cc :=
  EX.ErD.iniF (c.err i h).1 (c.err i h).2 (by kernel_rfl) kS kC kI co gen
theorem e_TooMany {K : PySem.W.Frag} (c : EX.SaysX P0.main.file fa fn er K) : EX.Ec1 P0 K (He.ga K "TooMany") "limit" :=
  EX.ec1_of (d := ⟨"TooMany", "TooMany.__init__", defArgs (EX.clsIni (top 5)), defBody (EX.clsIni (top 5)), defScope (EX.clsIni (top 5))⟩) (sf := "self") rfl (iniF_ok c 0 rfl rfl rfl rfl rfl rfl) ⟨_, rfl, rfl⟩ (fun _ _ _ _ _ _ _ _ _ => rfl) rfl rfl (by decide +kernel) (by decide) (by decide) (c.fld _ (by decide) _ (by decide)) (fun _ _ => rfl) (fun _ _ => rfl) (fun _ _ _ _ => ⟨_, rfl⟩)
theorem e_BadText {K : PySem.W.Frag} (c : EX.SaysX P0.main.file fa fn er K) : EX.Ec1 P0 K (He.ga K "BadText") "place" :=
  EX.ec1_of (d := ⟨"BadText", "BadText.__init__", defArgs (EX.clsIni (top 6)), defBody (EX.clsIni (top 6)), defScope (EX.clsIni (top 6))⟩) (sf := "self") rfl (iniF_ok c 1 rfl rfl rfl rfl rfl rfl) ⟨_, rfl, rfl⟩ (fun _ _ _ _ _ _ _ _ _ => rfl) rfl rfl (by decide +kernel) (by decide) (by decide) (c.fld _ (by decide) _ (by decide)) (fun _ _ => rfl) (fun _ _ => rfl) (fun _ _ _ _ => ⟨_, rfl⟩)
theorem e_BadChain {K : PySem.W.Frag} (c : EX.SaysX P0.main.file fa fn er K) : EX.Ec1 P0 K (He.ga K "BadChain") "error" :=
  EX.ec1_of (d := ⟨"BadChain", "BadChain.__init__", defArgs (EX.clsIni (top 7)), defBody (EX.clsIni (top 7)), defScope (EX.clsIni (top 7))⟩) (sf := "self") rfl (iniF_ok c 2 rfl rfl rfl rfl rfl rfl) ⟨_, rfl, rfl⟩ (fun _ _ _ _ _ _ _ _ _ => rfl) rfl rfl (by decide +kernel) (by decide) (by decide) (c.fld _ (by decide) _ (by decide)) (fun _ _ => rfl) (fun _ _ => rfl) (fun _ _ _ _ => ⟨_, rfl⟩)
theorem e_BadLog {K : PySem.W.Frag} (c : EX.SaysX P0.main.file fa fn er K) : EX.Ec1 P0 K (He.ga K "BadLog") "place" :=
  EX.ec1_of (d := ⟨"BadLog", "BadLog.__init__", defArgs (EX.clsIni (top 8)), defBody (EX.clsIni (top 8)), defScope (EX.clsIni (top 8))⟩) (sf := "self") rfl (iniF_ok c 3 rfl rfl rfl rfl rfl rfl) ⟨_, rfl, rfl⟩ (fun _ _ _ _ _ _ _ _ _ => rfl) rfl rfl (by decide +kernel) (by decide) (by decide) (c.fld _ (by decide) _ (by decide)) (fun _ _ => rfl) (fun _ _ => rfl) (fun _ _ _ _ => ⟨_, rfl⟩)
theorem e_Refused {K : PySem.W.Frag} (c : EX.SaysX P0.main.file fa fn er K) : EX.Ec1 P0 K (He.ga K "Refused") "word" :=
  EX.ec1_of (d := ⟨"Refused", "Refused.__init__", defArgs (EX.clsIni (top 9)), defBody (EX.clsIni (top 9)), defScope (EX.clsIni (top 9))⟩) (sf := "self") rfl (iniF_ok c 4 rfl rfl rfl rfl rfl rfl) ⟨_, rfl, rfl⟩ (fun _ _ _ _ _ _ _ _ _ => rfl) rfl rfl (by decide +kernel) (by decide) (by decide) (c.fld _ (by decide) _ (by decide)) (fun _ _ => rfl) (fun _ _ => rfl) (fun _ _ _ _ => ⟨_, rfl⟩)
theorem e_Unfit {K : PySem.W.Frag} (c : EX.SaysX P0.main.file fa fn er K) : EX.Ec0 P0 K (He.ga K "Unfit") :=
  EX.ec0_of (d := ⟨"Unfit", "Unfit.__init__", defArgs (EX.clsIni (top 4)), defBody (EX.clsIni (top 4)), defScope (EX.clsIni (top 4))⟩) (sf := "self") rfl (iniF_ok c 5 rfl rfl rfl rfl rfl rfl) ⟨_, rfl, rfl⟩ (fun _ _ _ _ _ _ _ _ => rfl) rfl (by decide +kernel) (fun _ => rfl) (fun _ _ _ _ => ⟨_, rfl⟩)
theorem e_NothingToUndo {K : PySem.W.Frag} (c : EX.SaysX P0.main.file fa fn er K) : EX.Ec0 P0 K (He.ga K "NothingToUndo") :=
  EX.ec0_of (d := ⟨"NothingToUndo", "NothingToUndo.__init__", defArgs (EX.clsIni (top 10)), defBody (EX.clsIni (top 10)), defScope (EX.clsIni (top 10))⟩) (sf := "self") rfl (iniF_ok c 6 rfl rfl rfl rfl rfl rfl) ⟨_, rfl, rfl⟩ (fun _ _ _ _ _ _ _ _ => rfl) rfl (by decide +kernel) (fun _ => rfl) (fun _ _ _ _ => ⟨_, rfl⟩)
theorem errs {K : PySem.W.Frag} {h : Heap} {mg : Str → Option Value} (X : K.In h) (G : h.Ns mainGlobals mg) (c : EX.SaysX P0.main.file fa fn er K) : ErH P0 K mg := by
  refine ⟨c.erF, c.fld, He.free_ok X G (c.d.fact 62 (f := .free "super") rfl), fun T hT => ?_, fun p hp => ?_, fun n hn => ?_, c.dig⟩
  · simp only [errN, List.mem_cons, List.not_mem_nil, or_false] at hT
    rcases hT with rfl | rfl | rfl | rfl | rfl | rfl | rfl | rfl
    · exact He.glo_ok X G (c.d.fact 54 (f := .glo "LineError") rfl)
    · exact He.glo_ok X G (c.d.fact 55 (f := .glo "Unfit") rfl)
    · exact He.glo_ok X G (c.d.fact 56 (f := .glo "TooMany") rfl)
    · exact He.glo_ok X G (c.d.fact 57 (f := .glo "BadText") rfl)
    · exact He.glo_ok X G (c.d.fact 58 (f := .glo "BadChain") rfl)
    · exact He.glo_ok X G (c.d.fact 59 (f := .glo "BadLog") rfl)
    · exact He.glo_ok X G (c.d.fact 60 (f := .glo "Refused") rfl)
    · exact He.glo_ok X G (c.d.fact 61 (f := .glo "NothingToUndo") rfl)
  · simp only [err1, List.mem_cons, List.not_mem_nil, or_false] at hp
    rcases hp with rfl | rfl | rfl | rfl | rfl
    · exact e_TooMany c
    · exact e_BadText c
    · exact e_BadChain c
    · exact e_BadLog c
    · exact e_Refused c
  · simp only [err0, List.mem_cons, List.not_mem_nil, or_false] at hn
    rcases hn with rfl | rfl
    · exact e_Unfit c
    · exact e_NothingToUndo c
theorem facts {P : Program} {w : World} {K : PySem.W.Frag} {h : Heap} {mg : Str → Option Value} {f : Addr} (X : K.In h) (G : h.Ns mainGlobals mg) (hfa : mg ("law" : Str) = some (.ref f)) (c : He.SaysD fa fn K) (eh : ErH P K mg) : ∀ base : Heap, K.In base → base.Ns mainGlobals mg → FnL P w K mg base f := by
  have bl : Bl mg := ⟨He.free_ok X G (c.fact 43 (f := .free "isinstance") rfl), He.free_ok X G (c.fact 41 (f := .free "bool") rfl), He.free_ok X G (c.fact 42 (f := .free "int") rfl), He.free_ok X G (c.fact 44 (f := .free "len") rfl), He.free_ok X G (c.fact 51 (f := .free "tuple") rfl), He.free_ok X G (c.fact 47 (f := .free "range") rfl), He.free_ok X G (c.fact 38 (f := .free "abs") rfl), He.free_ok X G (c.fact 39 (f := .free "all") rfl), He.free_ok X G (c.fact 46 (f := .free "max") rfl), He.free_ok X G (c.fact 45 (f := .free "list") rfl), He.free_ok X G (c.fact 49 (f := .free "reversed") rfl), He.free_ok X G (c.fact 37 (f := .free "ValueError") rfl), He.free_ok X G (c.fact 48 (f := .free "repr") rfl), He.free_ok X G (c.fact 40 (f := .free "any") rfl), He.free_ok X G (c.fact 50 (f := .free "str") rfl), He.int_ok X G (c.fact 52 (f := .int "MAX_ROOT" 1000000) rfl), He.int_ok X G (c.fact 53 (f := .int "MAX_PART" 1000000000000) rfl)⟩
  obtain ⟨fd__law_draw, F__law_draw⟩ := c.def_ 14 (d := dfOf "_law_draw" s__law_draw) rfl
  have z__law_draw := He.glo_ok X G (c.fact 14 (f := .glo "_law_draw") rfl)
  obtain ⟨fd_is_integer, F_is_integer⟩ := c.def_ 0 (d := dfOf "is_integer" s_is_integer) rfl
  have z_is_integer := He.glo_ok X G (c.fact 0 (f := .glo "is_integer") rfl)
  obtain ⟨fd_is_tuple, F_is_tuple⟩ := c.def_ 1 (d := dfOf "is_tuple" s_is_tuple) rfl
  have z_is_tuple := He.glo_ok X G (c.fact 1 (f := .glo "is_tuple") rfl)
  obtain ⟨fd_common, F_common⟩ := c.def_ 2 (d := dfOf "common" s_common) rfl
  have z_common := He.glo_ok X G (c.fact 2 (f := .glo "common") rfl)
  obtain ⟨fd_whole_root, F_whole_root⟩ := c.def_ 3 (d := dfOf "whole_root" s_whole_root) rfl
  have z_whole_root := He.glo_ok X G (c.fact 3 (f := .glo "whole_root") rfl)
  obtain ⟨fd_surd_turned, F_surd_turned⟩ := c.def_ 10 (d := dfOf "surd_turned" s_surd_turned) rfl
  have z_surd_turned := He.glo_ok X G (c.fact 10 (f := .glo "surd_turned") rfl)
  obtain ⟨fd_other_root, F_other_root⟩ := c.def_ 12 (d := dfOf "other_root" s_other_root) rfl
  have z_other_root := He.glo_ok X G (c.fact 12 (f := .glo "other_root") rfl)
  obtain ⟨fd__law_own_bag, F__law_own_bag⟩ := c.def_ 13 (d := dfOf "_law_own_bag" s__law_own_bag) rfl
  have z__law_own_bag := He.glo_ok X G (c.fact 13 (f := .glo "_law_own_bag") rfl)
  obtain ⟨fd__law_refused, F__law_refused⟩ := c.def_ 17 (d := dfOf "_law_refused" s__law_refused) rfl
  have z__law_refused := He.glo_ok X G (c.fact 17 (f := .glo "_law_refused") rfl)
  obtain ⟨fd__law_like, F__law_like⟩ := c.def_ 18 (d := dfOf "_law_like" s__law_like) rfl
  have z__law_like := He.glo_ok X G (c.fact 18 (f := .glo "_law_like") rfl)
  obtain ⟨fd__law_common, F__law_common⟩ := c.def_ 19 (d := dfOf "_law_common" s__law_common) rfl
  have z__law_common := He.glo_ok X G (c.fact 19 (f := .glo "_law_common") rfl)
  obtain ⟨fd__law_root_of, F__law_root_of⟩ := c.def_ 20 (d := dfOf "_law_root_of" s__law_root_of) rfl
  have z__law_root_of := He.glo_ok X G (c.fact 20 (f := .glo "_law_root_of") rfl)
  obtain ⟨fd_root_parts, F_root_parts⟩ := c.def_ 4 (d := dfOf "root_parts" s_root_parts) rfl
  have z_root_parts := He.glo_ok X G (c.fact 4 (f := .glo "root_parts") rfl)
  obtain ⟨fd_lowest, F_lowest⟩ := c.def_ 5 (d := dfOf "lowest" s_lowest) rfl
  have z_lowest := He.glo_ok X G (c.fact 5 (f := .glo "lowest") rfl)
  obtain ⟨fd__law_pick, F__law_pick⟩ := c.def_ 15 (d := dfOf "_law_pick" s__law_pick) rfl
  have z__law_pick := He.glo_ok X G (c.fact 15 (f := .glo "_law_pick") rfl)
  obtain ⟨fd__law_great, F__law_great⟩ := c.def_ 16 (d := dfOf "_law_great" s__law_great) rfl
  have z__law_great := He.glo_ok X G (c.fact 16 (f := .glo "_law_great") rfl)
  obtain ⟨fd__law_parts, F__law_parts⟩ := c.def_ 21 (d := dfOf "_law_parts" s__law_parts) rfl
  have z__law_parts := He.glo_ok X G (c.fact 21 (f := .glo "_law_parts") rfl)
  obtain ⟨fd__law_surd, F__law_surd⟩ := c.def_ 22 (d := dfOf "_law_surd" s__law_surd) rfl
  have z__law_surd := He.glo_ok X G (c.fact 22 (f := .glo "_law_surd") rfl)
  obtain ⟨fd_surd_of, F_surd_of⟩ := c.def_ 6 (d := dfOf "surd_of" s_surd_of) rfl
  have z_surd_of := He.glo_ok X G (c.fact 6 (f := .glo "surd_of") rfl)
  obtain ⟨fd_surd_error, F_surd_error⟩ := c.def_ 7 (d := dfOf "surd_error" s_surd_error) rfl
  have z_surd_error := He.glo_ok X G (c.fact 7 (f := .glo "surd_error") rfl)
  obtain ⟨fd_surd_sum, F_surd_sum⟩ := c.def_ 8 (d := dfOf "surd_sum" s_surd_sum) rfl
  have z_surd_sum := He.glo_ok X G (c.fact 8 (f := .glo "surd_sum") rfl)
  obtain ⟨fd_surd_times, F_surd_times⟩ := c.def_ 9 (d := dfOf "surd_times" s_surd_times) rfl
  have z_surd_times := He.glo_ok X G (c.fact 9 (f := .glo "surd_times") rfl)
  obtain ⟨fd_surd_back, F_surd_back⟩ := c.def_ 11 (d := dfOf "surd_back" s_surd_back) rfl
  have z_surd_back := He.glo_ok X G (c.fact 11 (f := .glo "surd_back") rfl)
  obtain ⟨fd__law_square_free, F__law_square_free⟩ := c.def_ 23 (d := dfOf "_law_square_free" s__law_square_free) rfl
  have z__law_square_free := He.glo_ok X G (c.fact 23 (f := .glo "_law_square_free") rfl)
  obtain ⟨fd__law_integer, F__law_integer⟩ := c.def_ 24 (d := dfOf "_law_integer" s__law_integer) rfl
  have z__law_integer := He.glo_ok X G (c.fact 24 (f := .glo "_law_integer") rfl)
  obtain ⟨fd__law_own_of, F__law_own_of⟩ := c.def_ 26 (d := dfOf "_law_own_of" s__law_own_of) rfl
  have z__law_own_of := He.glo_ok X G (c.fact 26 (f := .glo "_law_own_of") rfl)
  obtain ⟨fd__law_own_error, F__law_own_error⟩ := c.def_ 27 (d := dfOf "_law_own_error" s__law_own_error) rfl
  have z__law_own_error := He.glo_ok X G (c.fact 27 (f := .glo "_law_own_error") rfl)
  obtain ⟨fd__law_each_wrong, F__law_each_wrong⟩ := c.def_ 33 (d := dfOf "_law_each_wrong" s__law_each_wrong) rfl
  have z__law_each_wrong := He.glo_ok X G (c.fact 33 (f := .glo "_law_each_wrong") rfl)
  obtain ⟨fd__law_told, F__law_told⟩ := c.def_ 25 (d := dfOf "_law_told" s__law_told) rfl
  have z__law_told := He.glo_ok X G (c.fact 25 (f := .glo "_law_told") rfl)
  obtain ⟨fd__law_due, F__law_due⟩ := c.def_ 28 (d := dfOf "_law_due" s__law_due) rfl
  have z__law_due := He.glo_ok X G (c.fact 28 (f := .glo "_law_due") rfl)
  obtain ⟨fd__law_any_root, F__law_any_root⟩ := c.def_ 29 (d := dfOf "_law_any_root" s__law_any_root) rfl
  have z__law_any_root := He.glo_ok X G (c.fact 29 (f := .glo "_law_any_root") rfl)
  obtain ⟨fd__law_handed, F__law_handed⟩ := c.def_ 30 (d := dfOf "_law_handed" s__law_handed) rfl
  have z__law_handed := He.glo_ok X G (c.fact 30 (f := .glo "_law_handed") rfl)
  obtain ⟨fd__law_bent, F__law_bent⟩ := c.def_ 31 (d := dfOf "_law_bent" s__law_bent) rfl
  have z__law_bent := He.glo_ok X G (c.fact 31 (f := .glo "_law_bent") rfl)
  obtain ⟨fd__law_is_walk_right, F__law_is_walk_right⟩ := c.def_ 35 (d := dfOf "_law_is_walk_right" s__law_is_walk_right) rfl
  have z__law_is_walk_right := He.glo_ok X G (c.fact 35 (f := .glo "_law_is_walk_right") rfl)
  obtain ⟨fd__law_value, F__law_value⟩ := c.def_ 32 (d := dfOf "_law_value" s__law_value) rfl
  have z__law_value := He.glo_ok X G (c.fact 32 (f := .glo "_law_value") rfl)
  obtain ⟨fd__law_asks, F__law_asks⟩ := c.def_ 34 (d := dfOf "_law_asks" s__law_asks) rfl
  have z__law_asks := He.glo_ok X G (c.fact 34 (f := .glo "_law_asks") rfl)
  obtain ⟨fd_law, F_law⟩ := c.def_ 36 (d := dfOf "law" s_law) rfl
  have e := hfa.symm.trans (He.glo_ok X G (c.fact 36 (f := .glo "law") rfl))
  cases e
  intro base _ _
  have b__law_draw : Binds K fd__law_draw ["bag", "below"] [] := F__law_draw.bindsN (fun _ _ _ _ _ _ us hl => match us, hl with | [_, _], _ => rfl)
  have O__law_draw := ok__law_draw (P := P) (w := w) (base := base) (fun_of F__law_draw) bl 
  have C__law_draw : Kn P w K mg base 1 "_law_draw" ["bag", "below"] S__law_draw := Kn.mk O__law_draw z__law_draw F__law_draw.kp b__law_draw
  have b_is_integer : Binds K fd_is_integer ["value"] [] := F_is_integer.bindsN (fun _ _ _ _ _ _ us hl => match us, hl with | [_], _ => rfl)
  have O_is_integer := ok_is_integer (P := P) (w := w) (base := base) (fun_of F_is_integer) bl eh 
  have C_is_integer : Kn P w K mg base 1 "is_integer" ["value"] S_is_integer := Kn.mk O_is_integer z_is_integer F_is_integer.kp b_is_integer
  have b_is_tuple : Binds K fd_is_tuple ["value", "many"] [] := F_is_tuple.bindsN (fun _ _ _ _ _ _ us hl => match us, hl with | [_, _], _ => rfl)
  have O_is_tuple := ok_is_tuple (P := P) (w := w) (base := base) (fun_of F_is_tuple) bl eh 
  have C_is_tuple : Kn P w K mg base 1 "is_tuple" ["value", "many"] S_is_tuple := Kn.mk O_is_tuple z_is_tuple F_is_tuple.kp b_is_tuple
  have b_common : Binds K fd_common ["one", "other"] [] := F_common.bindsN (fun _ _ _ _ _ _ us hl => match us, hl with | [_, _], _ => rfl)
  have O_common := ok_common (P := P) (w := w) (base := base) (fun_of F_common) bl eh 
  have C_common : Kn P w K mg base 1 "common" ["one", "other"] S_common := Kn.mk O_common z_common F_common.kp b_common
  have b_whole_root : Binds K fd_whole_root ["number"] [] := F_whole_root.bindsN (fun _ _ _ _ _ _ us hl => match us, hl with | [_], _ => rfl)
  have O_whole_root := ok_whole_root (P := P) (w := w) (base := base) (fun_of F_whole_root) bl eh 
  have C_whole_root : Kn P w K mg base 1 "whole_root" ["number"] S_whole_root := Kn.mk O_whole_root z_whole_root F_whole_root.kp b_whole_root
  have b_surd_turned : Binds K fd_surd_turned ["one"] [] := F_surd_turned.bindsN (fun _ _ _ _ _ _ us hl => match us, hl with | [_], _ => rfl)
  have O_surd_turned := ok_surd_turned (P := P) (w := w) (base := base) (fun_of F_surd_turned) bl eh 
  have C_surd_turned : Kn P w K mg base 1 "surd_turned" ["one"] S_surd_turned := Kn.mk O_surd_turned z_surd_turned F_surd_turned.kp b_surd_turned
  have K_surd_turned_one := KnK.mk (ks := ["one"]) (is := [0]) O_surd_turned z_surd_turned F_surd_turned.kp (kwb_of (x := "surd_turned") (qual := "surd_turned") (st := s_surd_turned) (fun_of F_surd_turned) (fun _ _ _ _ _ _ ws hl => match ws, hl with | [_], _ => rfl))
  have b_other_root : Binds K fd_other_root ["one"] [] := F_other_root.bindsN (fun _ _ _ _ _ _ us hl => match us, hl with | [_], _ => rfl)
  have O_other_root := ok_other_root (P := P) (w := w) (base := base) (fun_of F_other_root) bl eh 
  have C_other_root : Kn P w K mg base 1 "other_root" ["one"] S_other_root := Kn.mk O_other_root z_other_root F_other_root.kp b_other_root
  have K_other_root_one := KnK.mk (ks := ["one"]) (is := [0]) O_other_root z_other_root F_other_root.kp (kwb_of (x := "other_root") (qual := "other_root") (st := s_other_root) (fun_of F_other_root) (fun _ _ _ _ _ _ ws hl => match ws, hl with | [_], _ => rfl))
  have b__law_own_bag : Binds K fd__law_own_bag ["script"] [] := F__law_own_bag.bindsN (fun _ _ _ _ _ _ us hl => match us, hl with | [_], _ => rfl)
  have O__law_own_bag := ok__law_own_bag (P := P) (w := w) (base := base) (fun_of F__law_own_bag) bl eh 
  have b__law_refused : Binds K fd__law_refused ["error"] [] := F__law_refused.bindsN (fun _ _ _ _ _ _ us hl => match us, hl with | [_], _ => rfl)
  have O__law_refused := ok__law_refused (P := P) (w := w) (base := base) (fun_of F__law_refused) bl eh 
  have C__law_refused : KnX P w K mg base 1 "_law_refused" "error" S__law_refused := KnX.mk O__law_refused z__law_refused F__law_refused.kp b__law_refused
  have b__law_like : Binds K fd__law_like ["told", "due"] [] := F__law_like.bindsN (fun _ _ _ _ _ _ us hl => match us, hl with | [_, _], _ => rfl)
  have O__law_like := ok__law_like (P := P) (w := w) (base := base) (fun_of F__law_like) bl eh 
  have C__law_like : Kn P w K mg base 1 "_law_like" ["told", "due"] S__law_like := Kn.mk O__law_like z__law_like F__law_like.kp b__law_like
  have b__law_common : Binds K fd__law_common ["one", "other"] [] := F__law_common.bindsN (fun _ _ _ _ _ _ us hl => match us, hl with | [_, _], _ => rfl)
  have O__law_common := ok__law_common (P := P) (w := w) (base := base) (fun_of F__law_common) bl eh 
  have C__law_common : Kn P w K mg base 1 "_law_common" ["one", "other"] S__law_common := Kn.mk O__law_common z__law_common F__law_common.kp b__law_common
  have b__law_root_of : Binds K fd__law_root_of ["n"] [] := F__law_root_of.bindsN (fun _ _ _ _ _ _ us hl => match us, hl with | [_], _ => rfl)
  have O__law_root_of := ok__law_root_of (P := P) (w := w) (base := base) (fun_of F__law_root_of) bl eh 
  have C__law_root_of : Kn P w K mg base 1 "_law_root_of" ["n"] S__law_root_of := Kn.mk O__law_root_of z__law_root_of F__law_root_of.kp b__law_root_of
  have b_root_parts : Binds K fd_root_parts ["number"] [] := F_root_parts.bindsN (fun _ _ _ _ _ _ us hl => match us, hl with | [_], _ => rfl)
  have O_root_parts := ok_root_parts (P := P) (w := w) (base := base) (fun_of F_root_parts) bl eh (C_whole_root.up (by decide))
  have C_root_parts : Kn P w K mg base 2 "root_parts" ["number"] S_root_parts := Kn.mk O_root_parts z_root_parts F_root_parts.kp b_root_parts
  have b_lowest : Binds K fd_lowest ["a", "b", "c", "d"] [] := F_lowest.bindsN (fun _ _ _ _ _ _ us hl => match us, hl with | [_, _, _, _], _ => rfl)
  have O_lowest := ok_lowest (P := P) (w := w) (base := base) (fun_of F_lowest) bl eh (C_common.up (by decide))
  have C_lowest : Kn P w K mg base 2 "lowest" ["a", "b", "c", "d"] S_lowest := Kn.mk O_lowest z_lowest F_lowest.kp b_lowest
  have b__law_pick : Binds K fd__law_pick ["bag", "some"] [] := F__law_pick.bindsN (fun _ _ _ _ _ _ us hl => match us, hl with | [_, _], _ => rfl)
  have O__law_pick := ok__law_pick (P := P) (w := w) (base := base) (fun_of F__law_pick) bl eh (C__law_draw.up (by decide))
  have C__law_pick : Kn P w K mg base 2 "_law_pick" ["bag", "some"] S__law_pick := Kn.mk O__law_pick z__law_pick F__law_pick.kp b__law_pick
  have b__law_great : Binds K fd__law_great ["bag", "below"] [] := F__law_great.bindsN (fun _ _ _ _ _ _ us hl => match us, hl with | [_, _], _ => rfl)
  have O__law_great := ok__law_great (P := P) (w := w) (base := base) (fun_of F__law_great) bl eh (C__law_draw.up (by decide))
  have C__law_great : Kn P w K mg base 2 "_law_great" ["bag", "below"] S__law_great := Kn.mk O__law_great z__law_great F__law_great.kp b__law_great
  have b__law_parts : Binds K fd__law_parts ["d"] [] := F__law_parts.bindsN (fun _ _ _ _ _ _ us hl => match us, hl with | [_], _ => rfl)
  have O__law_parts := ok__law_parts (P := P) (w := w) (base := base) (fun_of F__law_parts) bl eh (C__law_root_of.up (by decide))
  have C__law_parts : Kn P w K mg base 2 "_law_parts" ["d"] S__law_parts := Kn.mk O__law_parts z__law_parts F__law_parts.kp b__law_parts
  have b__law_surd : Binds K fd__law_surd ["a", "b", "c", "d"] [] := F__law_surd.bindsN (fun _ _ _ _ _ _ us hl => match us, hl with | [_, _, _, _], _ => rfl)
  have O__law_surd := ok__law_surd (P := P) (w := w) (base := base) (fun_of F__law_surd) bl eh (C__law_common.up (by decide))
  have C__law_surd : Kn P w K mg base 2 "_law_surd" ["a", "b", "c", "d"] S__law_surd := Kn.mk O__law_surd z__law_surd F__law_surd.kp b__law_surd
  have b_surd_of : Binds K fd_surd_of ["a", "b", "c", "d"] [] := F_surd_of.bindsN (fun _ _ _ _ _ _ us hl => match us, hl with | [_, _, _, _], _ => rfl)
  have O_surd_of := ok_surd_of (P := P) (w := w) (base := base) (fun_of F_surd_of) bl eh (C_root_parts.up (by decide)) (C_lowest.up (by decide))
  have C_surd_of : Kn P w K mg base 3 "surd_of" ["a", "b", "c", "d"] S_surd_of := Kn.mk O_surd_of z_surd_of F_surd_of.kp b_surd_of
  have K_surd_of_d_c_b_a := KnK.mk (ks := ["d", "c", "b", "a"]) (is := [3, 2, 1, 0]) O_surd_of z_surd_of F_surd_of.kp (kwb_of (x := "surd_of") (qual := "surd_of") (st := s_surd_of) (fun_of F_surd_of) (fun _ _ _ _ _ _ ws hl => match ws, hl with | [_, _, _, _], _ => rfl))
  have b_surd_error : Binds K fd_surd_error ["value"] [] := F_surd_error.bindsN (fun _ _ _ _ _ _ us hl => match us, hl with | [_], _ => rfl)
  have O_surd_error := ok_surd_error (P := P) (w := w) (base := base) (fun_of F_surd_error) bl eh (C_is_integer.up (by decide)) (C_is_tuple.up (by decide)) (C_common.up (by decide)) (C_root_parts.up (by decide))
  have C_surd_error : Kn P w K mg base 3 "surd_error" ["value"] S_surd_error := Kn.mk O_surd_error z_surd_error F_surd_error.kp b_surd_error
  have K_surd_error_value := KnK.mk (ks := ["value"]) (is := [0]) O_surd_error z_surd_error F_surd_error.kp (kwb_of (x := "surd_error") (qual := "surd_error") (st := s_surd_error) (fun_of F_surd_error) (fun _ _ _ _ _ _ ws hl => match ws, hl with | [_], _ => rfl))
  have b_surd_sum : Binds K fd_surd_sum ["one", "other"] [] := F_surd_sum.bindsN (fun _ _ _ _ _ _ us hl => match us, hl with | [_, _], _ => rfl)
  have O_surd_sum := ok_surd_sum (P := P) (w := w) (base := base) (fun_of F_surd_sum) bl eh (C_lowest.up (by decide))
  have C_surd_sum : Kn P w K mg base 3 "surd_sum" ["one", "other"] S_surd_sum := Kn.mk O_surd_sum z_surd_sum F_surd_sum.kp b_surd_sum
  have K_surd_sum_other_one := KnK.mk (ks := ["other", "one"]) (is := [1, 0]) O_surd_sum z_surd_sum F_surd_sum.kp (kwb_of (x := "surd_sum") (qual := "surd_sum") (st := s_surd_sum) (fun_of F_surd_sum) (fun _ _ _ _ _ _ ws hl => match ws, hl with | [_, _], _ => rfl))
  have b_surd_times : Binds K fd_surd_times ["one", "other"] [] := F_surd_times.bindsN (fun _ _ _ _ _ _ us hl => match us, hl with | [_, _], _ => rfl)
  have O_surd_times := ok_surd_times (P := P) (w := w) (base := base) (fun_of F_surd_times) bl eh (C_lowest.up (by decide))
  have C_surd_times : Kn P w K mg base 3 "surd_times" ["one", "other"] S_surd_times := Kn.mk O_surd_times z_surd_times F_surd_times.kp b_surd_times
  have K_surd_times_other_one := KnK.mk (ks := ["other", "one"]) (is := [1, 0]) O_surd_times z_surd_times F_surd_times.kp (kwb_of (x := "surd_times") (qual := "surd_times") (st := s_surd_times) (fun_of F_surd_times) (fun _ _ _ _ _ _ ws hl => match ws, hl with | [_, _], _ => rfl))
  have b_surd_back : Binds K fd_surd_back ["one"] [] := F_surd_back.bindsN (fun _ _ _ _ _ _ us hl => match us, hl with | [_], _ => rfl)
  have O_surd_back := ok_surd_back (P := P) (w := w) (base := base) (fun_of F_surd_back) bl eh (C_lowest.up (by decide))
  have C_surd_back : KnE P w K mg base 3 "surd_back" ["one"] S_surd_back := KnE.mk O_surd_back z_surd_back F_surd_back.kp b_surd_back
  have K_surd_back_one := KnEK.mk (ks := ["one"]) (is := [0]) O_surd_back z_surd_back F_surd_back.kp (kwb_of (x := "surd_back") (qual := "surd_back") (st := s_surd_back) (fun_of F_surd_back) (fun _ _ _ _ _ _ ws hl => match ws, hl with | [_], _ => rfl))
  have b__law_square_free : Binds K fd__law_square_free ["bag"] [] := F__law_square_free.bindsN (fun _ _ _ _ _ _ us hl => match us, hl with | [_], _ => rfl)
  have O__law_square_free := ok__law_square_free (P := P) (w := w) (base := base) (fun_of F__law_square_free) bl eh (C__law_draw.up (by decide)) (C__law_pick.up (by decide)) (C__law_parts.up (by decide))
  have C__law_square_free : Kn P w K mg base 3 "_law_square_free" ["bag"] S__law_square_free := Kn.mk O__law_square_free z__law_square_free F__law_square_free.kp b__law_square_free
  have b__law_integer : Binds K fd__law_integer ["bag"] [] := F__law_integer.bindsN (fun _ _ _ _ _ _ us hl => match us, hl with | [_], _ => rfl)
  have O__law_integer := ok__law_integer (P := P) (w := w) (base := base) (fun_of F__law_integer) bl eh (C__law_pick.up (by decide)) (C__law_great.up (by decide)) (C__law_draw.up (by decide))
  have C__law_integer : Kn P w K mg base 3 "_law_integer" ["bag"] S__law_integer := Kn.mk O__law_integer z__law_integer F__law_integer.kp b__law_integer
  have b__law_own_of : Binds K fd__law_own_of ["a", "b", "c", "d"] [] := F__law_own_of.bindsN (fun _ _ _ _ _ _ us hl => match us, hl with | [_, _, _, _], _ => rfl)
  have O__law_own_of := ok__law_own_of (P := P) (w := w) (base := base) (fun_of F__law_own_of) bl eh (C__law_surd.up (by decide)) (C__law_parts.up (by decide))
  have C__law_own_of : Kn P w K mg base 3 "_law_own_of" ["a", "b", "c", "d"] S__law_own_of := Kn.mk O__law_own_of z__law_own_of F__law_own_of.kp b__law_own_of
  have b__law_own_error : Binds K fd__law_own_error ["value"] [] := F__law_own_error.bindsN (fun _ _ _ _ _ _ us hl => match us, hl with | [_], _ => rfl)
  have O__law_own_error := ok__law_own_error (P := P) (w := w) (base := base) (fun_of F__law_own_error) bl eh (C__law_common.up (by decide)) (C__law_parts.up (by decide))
  have C__law_own_error : Kn P w K mg base 3 "_law_own_error" ["value"] S__law_own_error := Kn.mk O__law_own_error z__law_own_error F__law_own_error.kp b__law_own_error
  have b__law_each_wrong : Binds K fd__law_each_wrong ["bag", "root"] [] := F__law_each_wrong.bindsN (fun _ _ _ _ _ _ us hl => match us, hl with | [_, _], _ => rfl)
  have O__law_each_wrong := ok__law_each_wrong (P := P) (w := w) (base := base) (fun_of F__law_each_wrong) bl eh (C__law_surd.up (by decide)) (C__law_draw.up (by decide)) (C__law_pick.up (by decide))
  have C__law_each_wrong : Kn P w K mg base 3 "_law_each_wrong" ["bag", "root"] S__law_each_wrong := Kn.mk O__law_each_wrong z__law_each_wrong F__law_each_wrong.kp b__law_each_wrong
  have b__law_told : Binds K fd__law_told ["word", "row", "is_named"] [] := F__law_told.bindsN (fun _ _ _ _ _ _ us hl => match us, hl with | [_, _, _], _ => rfl)
  have O__law_told := ok__law_told (P := P) (w := w) (base := base) (fun_of F__law_told) bl eh (C_surd_of.up (by decide)) (C_surd_sum.up (by decide)) (C_surd_times.up (by decide)) (C_surd_turned.up (by decide)) (C_surd_back.up (by decide)) (C_other_root.up (by decide)) (C_surd_error.up (by decide)) (C__law_refused.up (by decide)) (K_surd_of_d_c_b_a.up (by decide)) (K_surd_sum_other_one.up (by decide)) (K_surd_times_other_one.up (by decide)) (K_surd_turned_one.up (by decide)) (K_surd_back_one.up (by decide)) (K_other_root_one.up (by decide)) (K_surd_error_value.up (by decide))
  have C__law_told : Kn P w K mg base 4 "_law_told" ["word", "row", "is_named"] S__law_told := Kn.mk O__law_told z__law_told F__law_told.kp b__law_told
  have b__law_due : Binds K fd__law_due ["word", "row"] [] := F__law_due.bindsN (fun _ _ _ _ _ _ us hl => match us, hl with | [_, _], _ => rfl)
  have O__law_due := ok__law_due (P := P) (w := w) (base := base) (fun_of F__law_due) bl eh (C__law_own_of.up (by decide)) (C__law_own_error.up (by decide)) (C__law_surd.up (by decide))
  have C__law_due : Kn P w K mg base 4 "_law_due" ["word", "row"] S__law_due := Kn.mk O__law_due z__law_due F__law_due.kp b__law_due
  have b__law_any_root : Binds K fd__law_any_root ["bag"] [] := F__law_any_root.bindsN (fun _ _ _ _ _ _ us hl => match us, hl with | [_], _ => rfl)
  have O__law_any_root := ok__law_any_root (P := P) (w := w) (base := base) (fun_of F__law_any_root) bl eh (C__law_draw.up (by decide)) (C__law_square_free.up (by decide)) (C__law_pick.up (by decide))
  have C__law_any_root : Kn P w K mg base 4 "_law_any_root" ["bag"] S__law_any_root := Kn.mk O__law_any_root z__law_any_root F__law_any_root.kp b__law_any_root
  have b__law_handed : Binds K fd__law_handed ["bag", "root"] [] := F__law_handed.bindsN (fun _ _ _ _ _ _ us hl => match us, hl with | [_, _], _ => rfl)
  have O__law_handed := ok__law_handed (P := P) (w := w) (base := base) (fun_of F__law_handed) bl eh (C__law_integer.up (by decide)) (C__law_draw.up (by decide)) (C__law_surd.up (by decide))
  have C__law_handed : Kn P w K mg base 4 "_law_handed" ["bag", "root"] S__law_handed := Kn.mk O__law_handed z__law_handed F__law_handed.kp b__law_handed
  have b__law_bent : Binds K fd__law_bent ["bag", "value"] [] := F__law_bent.bindsN (fun _ _ _ _ _ _ us hl => match us, hl with | [_, _], _ => rfl)
  have O__law_bent := ok__law_bent (P := P) (w := w) (base := base) (fun_of F__law_bent) bl eh (C__law_draw.up (by decide)) (C__law_pick.up (by decide)) (C__law_any_root.up (by decide))
  have C__law_bent : Kn P w K mg base 5 "_law_bent" ["bag", "value"] S__law_bent := Kn.mk O__law_bent z__law_bent F__law_bent.kp b__law_bent
  have b__law_is_walk_right : Binds K fd__law_is_walk_right ["bag", "some"] [] := F__law_is_walk_right.bindsN (fun _ _ _ _ _ _ us hl => match us, hl with | [_, _], _ => rfl)
  have O__law_is_walk_right := ok__law_is_walk_right (P := P) (w := w) (base := base) (fun_of F__law_is_walk_right) bl eh (C__law_pick.up (by decide)) (C__law_due.up (by decide)) (C__law_told.up (by decide)) (C__law_like.up (by decide))
  have C__law_is_walk_right : Kn P w K mg base 5 "_law_is_walk_right" ["bag", "some"] S__law_is_walk_right := Kn.mk O__law_is_walk_right z__law_is_walk_right F__law_is_walk_right.kp b__law_is_walk_right
  have b__law_value : Binds K fd__law_value ["bag", "some"] [] := F__law_value.bindsN (fun _ _ _ _ _ _ us hl => match us, hl with | [_, _], _ => rfl)
  have O__law_value := ok__law_value (P := P) (w := w) (base := base) (fun_of F__law_value) bl eh (C__law_pick.up (by decide)) (C__law_draw.up (by decide)) (C__law_square_free.up (by decide)) (C__law_integer.up (by decide)) (C__law_bent.up (by decide))
  have C__law_value : Kn P w K mg base 6 "_law_value" ["bag", "some"] S__law_value := Kn.mk O__law_value z__law_value F__law_value.kp b__law_value
  have b__law_asks : Binds K fd__law_asks ["bag", "some"] [] := F__law_asks.bindsN (fun _ _ _ _ _ _ us hl => match us, hl with | [_, _], _ => rfl)
  have O__law_asks := ok__law_asks (P := P) (w := w) (base := base) (fun_of F__law_asks) bl eh (C__law_integer.up (by decide)) (C__law_any_root.up (by decide)) (C__law_pick.up (by decide)) (C__law_value.up (by decide))
  have C__law_asks : Kn P w K mg base 7 "_law_asks" ["bag", "some"] S__law_asks := Kn.mk O__law_asks z__law_asks F__law_asks.kp b__law_asks
  have hb := FunD.bindsA (ps := ["script"]) F_law (fun _ _ _ _ _ _ us hl => match us, hl with | [_], _ => rfl)
  exact ok_law (fun_of F_law) bl eh (O__law_own_bag.up (by decide)) z__law_own_bag F__law_own_bag.kp b__law_own_bag (C__law_square_free.up (by decide)) (C__law_handed.up (by decide)) (C__law_draw.up (by decide)) (C__law_asks.up (by decide)) (C__law_each_wrong.up (by decide)) (C__law_due.up (by decide)) (C__law_like.up (by decide)) (C__law_told.up (by decide)) (C__law_is_walk_right.up (by decide)) fun s v => hb s [v] rfl
end T
end DL
open PySem PySem.W PySem.Calls PyProof.Rows
theorem PySem.Challenge.cw_linecuts_k01_whole_surds_holds : PySem.Challenge.rw_linecuts_k01_whole_surds.Holds := by
  w_on; o_law
  refine HandSHeadRun.head_any (r := OpenLaw.row PySem.Challenge.rw_linecuts_k01_whole_surds) (q := view (OpenLaw.row PySem.Challenge.rw_linecuts_k01_whole_surds).prog [50]) (H := DL.T.hk) (ob := DL.T.ob) (M := 20000) (loose := DL.T.loose) (d := HandSHeadRun.topDef (OpenLaw.row PySem.Challenge.rw_linecuts_k01_whole_surds).prog 50) (kwd := []) DL.T.ob_eq
    (by kernel_rfl) (fun s => by kernel_rfl) DL.T.run (by kernel_rfl) (by kernel_rfl) (by kernel_rfl) (by rfl) (by first | assumption | decide +kernel) (by decide +kernel) ⟨rfl, rfl, rfl, rfl, rfl, by decide +kernel⟩ ?hw ?hc
  case hw => w_witness2
  case hc =>
    refine DL.walk_law (l := PySem.Challenge.rw_linecuts_k01_whole_surds) (n := 63) rfl (by decide) (by kernel_rfl) ?F
    intro w mg fa h Y G hmg0
    obtain ⟨K, KX, c⟩ := Y
    have hmg : mg ("law" : PySem.Str) = some (.ref fa) := by
      have e : (HandSHeadRun.topDef (OpenLaw.row PySem.Challenge.rw_linecuts_k01_whole_surds).prog 50).name = ("law" : PySem.Str) := by kernel_rfl
      rw [← e]
      exact hmg0
    exact ⟨K, KX, DL.T.facts (P := (PySem.Challenge.rw_linecuts_k01_whole_surds).prog) (w := w) KX G hmg c.d (DL.T.errs KX G c)⟩
