import PyProof.Rows.All
import Wide.All
import OpenK.AllK
import Wide.FinOn
import HandS.ForMost
import HandS.IsInst
import HandS.TupAny
import HandS.Walk
import HandS.Ends
import HandS.RaiseMore
import PyProof.StrLawsRepr
import HandS.Star
import HandS.More
import PyProof.ListStr
import HandS.Evl
import PyProof.ReprLoop
import PyProof.P3Eq
import PySem.Challenge.RW_namesone_k17_failing_exchanges
set_option Elab.async false
set_option linter.all false
set_option maxRecDepth 100000
set_option maxHeartbeats 2000000
/-! Data over a heap that only grows: what a value is worth (Den), what an expression is worth (EvD). -/
namespace Nm
open PySem PySem.Spec L2

inductive D where
  | non
  | bl (b : Bool)
  | int (i : Int)
  | str (x : Str)
  | lst (ds : List D)
  | tup (ds : List D)
  | dic (es : List (Key × D))
  | obj (C : Addr) (fs : List (Str × D))
  | ty (n : String)
  | cls (C : Addr)

mutual
inductive Den (K : PySem.W.Frag) (F : Hp) : V → D → Prop
  | non : Den K F .non .non
  | bl (b : Bool) : Den K F (.bl b) (.bl b)
  | int (i : Int) : Den K F (.int i) (.int i)
  | str (x : Str) : Den K F (.str x) (.str x)
  | lst {a : Addr} {xs : List V} {ds : List D} : F a = some (.lst xs) → DenL K F xs ds → Den K F (.ref a) (.lst ds)
  | ty (n : String) : Den K F (.ty n) (.ty n)
  | cls (C : Addr) : Den K F (.ref C) (.cls C)
  | tup {a : Addr} {xs : List V} {ds : List D} : SqT K F a xs → DenL K F xs ds → Den K F (.ref a) (.tup ds)
  | dic {a : Addr} {o : Obj} {kvs : List (Key × V)} {es : List (Key × D)} : F a = some (.frz o (.dK kvs)) → DenK K F kvs es → Den K F (.ref a) (.dic es)
  | obj {a C dx : Addr} {fs : List (Str × V)} {gs : List (Str × D)} : F a = some (.ins C dx fs) → DenF K F fs gs → Den K F (.ref a) (.obj C gs)
inductive DenL (K : PySem.W.Frag) (F : Hp) : List V → List D → Prop
  | nil : DenL K F [] []
  | cons {v : V} {vs : List V} {d : D} {ds : List D} : Den K F v d → DenL K F vs ds → DenL K F (v :: vs) (d :: ds)
inductive DenK (K : PySem.W.Frag) (F : Hp) : List (Key × V) → List (Key × D) → Prop
  | nil : DenK K F [] []
  | cons {k : Key} {v : V} {vs : List (Key × V)} {d : D} {ds : List (Key × D)} : Den K F v d → DenK K F vs ds → DenK K F ((k, v) :: vs) ((k, d) :: ds)
inductive DenF (K : PySem.W.Frag) (F : Hp) : List (Str × V) → List (Str × D) → Prop
  | nil : DenF K F [] []
  | cons {k : Str} {v : V} {vs : List (Str × V)} {d : D} {ds : List (Str × D)} : Den K F v d → DenF K F vs ds → DenF K F ((k, v) :: vs) ((k, d) :: ds)
end

section
variable {K : PySem.W.Frag} {F F' H H' : Hp}
theorem same_rd {a : Addr} {u : HO} (e : Same F F') (h : Rd F a u) : Rd F' a u := by
  rcases h with h | ⟨o, h⟩
  · exact Or.inl (e a _ h)
  · exact Or.inr ⟨o, e a _ h⟩
theorem same_l {a : Addr} {xs : List V} (e : Same F F') (h : SqL K F a xs) : SqL K F' a xs := e.seq h
theorem same_t {a : Addr} {xs : List V} (e : Same F F') (h : SqT K F a xs) : SqT K F' a xs := by
  rcases h with h | h
  · exact Or.inl (same_rd e h)
  · exact Or.inr h
mutual
theorem Den.mono (e : Same F F') : ∀ (d : D) {v : V}, Den K F v d → Den K F' v d
  | .non, _, h => by cases h; exact .non
  | .bl _, _, h => by cases h; exact .bl _
  | .int _, _, h => by cases h; exact .int _
  | .str _, _, h => by cases h; exact .str _
  | .ty _, _, h => by cases h; exact .ty _
  | .cls _, _, h => by cases h; exact .cls _
  | .lst ds, _, h => by cases h with | lst s l => exact .lst (e _ _ s) (DenL.mono e ds l)
  | .tup ds, _, h => by cases h with | tup s l => exact .tup (same_t e s) (DenL.mono e ds l)
  | .dic es, _, h => by cases h with | dic s l => exact .dic (e _ _ s) (DenK.mono e es l)
  | .obj _ gs, _, h => by cases h with | obj s l => exact .obj (e _ _ s) (DenF.mono e gs l)
theorem DenL.mono (e : Same F F') : ∀ (ds : List D) {vs : List V}, DenL K F vs ds → DenL K F' vs ds
  | [], _, h => by cases h; exact .nil
  | d :: ds, _, h => by cases h with | cons a b => exact .cons (Den.mono e d a) (DenL.mono e ds b)
theorem DenK.mono (e : Same F F') : ∀ (ds : List (Key × D)) {vs : List (Key × V)}, DenK K F vs ds → DenK K F' vs ds
  | [], _, h => by cases h; exact .nil
  | (k, d) :: ds, _, h => by cases h with | cons a b => exact .cons (Den.mono e d a) (DenK.mono e ds b)
theorem DenF.mono (e : Same F F') : ∀ (ds : List (Str × D)) {vs : List (Str × V)}, DenF K F vs ds → DenF K F' vs ds
  | [], _, h => by cases h; exact .nil
  | (k, d) :: ds, _, h => by cases h with | cons a b => exact .cons (Den.mono e d a) (DenF.mono e ds b)
end
theorem Den.up {v : V} {d : D} (h : Den K F v d) (e : Same F F') : Den K F' v d := Den.mono e d h
theorem DenL.up {v : List V} {d : List D} (h : DenL K F v d) (e : Same F F') : DenL K F' v d := DenL.mono e d h
theorem DenL.length : ∀ {vs : List V} {ds : List D}, DenL K F vs ds → vs.length = ds.length
  | _, _, .nil => rfl
  | _, _, .cons _ t => congrArg (· + 1) t.length
theorem DenL.get : ∀ {vs : List V} {ds : List D} {i : Nat} {d : D}, DenL K F vs ds → ds[i]? = some d → ∃ v, vs[i]? = some v ∧ Den K F v d
  | _, _, _, _, .nil, e => by simp at e
  | _, _, 0, _, .cons r _, e => by simp at e; subst e; exact ⟨_, rfl, r⟩
  | _, _, i + 1, _, .cons _ t, e => by
    obtain ⟨v, h1, h2⟩ := DenL.get (i := i) t (by simpa using e)
    exact ⟨v, by simpa using h1, h2⟩
theorem DenL.getV : ∀ {vs : List V} {ds : List D} {i : Nat} {v : V}, DenL K F vs ds → vs[i]? = some v → ∃ d, ds[i]? = some d ∧ Den K F v d
  | _, _, _, _, .nil, e => by simp at e
  | _, _, 0, _, .cons r _, e => by simp at e; subst e; exact ⟨_, rfl, r⟩
  | _, _, i + 1, _, .cons _ t, e => by
    obtain ⟨v, h1, h2⟩ := DenL.getV (i := i) t (by simpa using e)
    exact ⟨v, by simpa using h1, h2⟩
theorem DenL.append : ∀ {xs ys : List V} {us ws : List D}, DenL K F xs us → DenL K F ys ws → DenL K F (xs ++ ys) (us ++ ws)
  | _, _, _, _, .nil, s => s
  | _, _, _, _, .cons r t, s => .cons r (DenL.append t s)
theorem DenL.ints : ∀ ns : List Int, DenL K F (ns.map V.int) (ns.map D.int)
  | [] => .nil
  | n :: ns => .cons (.int n) (DenL.ints ns)
end

/-! ### the frozen part grows beside what may change (M: what has changed) -/
structure Ext (M : List Addr) (F H F' H' : Hp) : Prop where
  f : Same F F'
  h : ∀ a o, a ∉ M → H a = some o → H' a = some o
  s : Same F' H'
  n : ∀ a, F a = none → H a ≠ none → F' a = none
  k : ∀ a, H a ≠ none → H' a ≠ none
section
variable {M : List Addr} {F H F1 H1 F2 H2 : Hp}
theorem Ext.of {F H F' H' : Hp} (f : Same F F') (h : Same H H') (s : Same F' H') (n : ∀ a, F a = none → H a ≠ none → F' a = none) : Ext [] F H F' H' :=
  ⟨f, fun a o _ e => h a o e, s, n, fun a e => by
    cases q : H a with
    | none => exact absurd q e
    | some o => rw [h a o q]; simp⟩
theorem Ext.refl (e : Same F H) : Ext M F H F H := ⟨Same.refl _, fun _ _ _ h => h, e, fun _ h _ => h, fun _ h => h⟩
theorem Ext.same (x : Ext [] F H F1 H1) : Same H H1 := fun a o h => x.h a o (by simp) h
theorem Ext.trans (x : Ext M F H F1 H1) (y : Ext M F1 H1 F2 H2) : Ext M F H F2 H2 :=
  ⟨x.f.trans y.f, fun a o m h => y.h a o m (x.h a o m h), y.s, fun a h k => y.n a (x.n a h k) (x.k a k), fun a h => y.k a (x.k a h)⟩
theorem Ext.wide {M' : List Addr} (x : Ext M F H F1 H1) (h : ∀ a, a ∈ M → a ∈ M') : Ext M' F H F1 H1 :=
  ⟨x.f, fun a o m => x.h a o (fun z => m (h a z)), x.s, x.n, x.k⟩
theorem Ext.tr (x : Ext [] F H F1 H1) (y : Ext M F1 H1 F2 H2) : Ext M F H F2 H2 := (x.wide (by simp)).trans y
theorem Ext.tl (x : Ext M F H F1 H1) (y : Ext [] F1 H1 F2 H2) : Ext M F H F2 H2 := x.trans (y.wide (by simp))
/-- a new object, frozen at once -/
theorem Ext.new {p : Addr} {o : HO} (e : Same F H) (hp : H p = none) : Ext [] F H (upd F p o) (upd H p o) := by
  have fp : F p = none := e.free hp
  refine Ext.of (fun a u h => ?_) (fun a u h => ?_) (fun a u h => ?_) (fun a h k => ?_)
  · rw [upd_ne (ne_of_none h fp)]; exact h
  · rw [upd_ne (ne_of_none h hp)]; exact h
  · by_cases z : a = p
    · subst z; rw [upd_same] at h ⊢; exact h
    · rw [upd_ne z] at h ⊢; exact e a u h
  · rw [upd_ne (fun z => k (by rw [z]; exact hp))]; exact h
/-- a new object that may change -/
theorem Ext.newM {p : Addr} {o : HO} (e : Same F H) (hp : H p = none) : Ext [] F H F (upd H p o) :=
  Ext.of (Same.refl _) (fun a u h => by rw [upd_ne (ne_of_none h hp)]; exact h) (fun a u h => by rw [upd_ne (ne_of_none (e a u h) hp)]; exact e a u h) (fun _ h _ => h)
theorem upd_keeps {p : Addr} {o : HO} (a : Addr) (h : H a ≠ none) : upd H p o a ≠ none := by
  by_cases z : a = p
  · subst z; rw [upd_same]; simp
  · rw [upd_ne z]; exact h
end
/-- what may change: not frozen, standing at b -/
structure Own (F H : Hp) (b : Addr) (o : HO) : Prop where
  f : F b = none
  h : H b = some o
theorem Own.ext {M : List Addr} {F H F1 H1 : Hp} {b : Addr} {o : HO} (w : Own F H b o) (x : Ext M F H F1 H1) (hb : b ∉ M) : Own F1 H1 b o :=
  ⟨x.n b w.f (by rw [w.h]; simp), x.h b o hb w.h⟩
theorem Own.ext0 {F H F1 H1 : Hp} {b : Addr} {o : HO} (w : Own F H b o) (x : Ext [] F H F1 H1) : Own F1 H1 b o := w.ext x (by simp)
theorem Own.ne {F H : Hp} {b c : Addr} {o u : HO} (w : Own F H b o) (h : F c = some u) : c ≠ b := fun z => by rw [z, w.f] at h; cases h
theorem Own.set {F H : Hp} {b : Addr} {o u : HO} (w : Own F H b o) (e : Same F H) : Ext [b] F H F (upd H b u) :=
  ⟨Same.refl _, fun a v m h => by rw [upd_ne (by simpa using m)]; exact h, fun a v h => by rw [upd_ne (w.ne h)]; exact e a v h, fun _ h _ => h, fun a h => upd_keeps a h⟩

/-! ### the frame -/
inductive Sl where
  | u
  | d (x : D)
  | v (x : V)
def SlOk (K : PySem.W.Frag) (F : Hp) : Sl → Option V → Prop
  | .u, _ => True
  | .d x, o => ∃ v, o = some v ∧ Den K F v x
  | .v x, o => o = some x
abbrev EnvD (K : PySem.W.Frag) (F : Hp) : List Sl → L2.St → Prop := Paired (SlOk K F)
section
variable {K : PySem.W.Frag} {F F' H : Hp}
theorem SlOk.up {s : Sl} {o : Option V} (h : SlOk K F s o) (e : Same F F') : SlOk K F' s o := by
  cases s with
  | u => trivial
  | d x => obtain ⟨v, h1, h2⟩ := h; exact ⟨v, h1, h2.up e⟩
  | v x => exact h
theorem EnvD.up {r : List Sl} {σ : L2.St} (h : EnvD K F r σ) (e : Same F F') : EnvD K F' r σ := Paired.mapP h fun _ _ q => SlOk.up q e
theorem EnvD.get : ∀ {r : List Sl} {σ : L2.St} {i : Nat} {s : Sl}, EnvD K F r σ → r[i]? = some s → ∃ o, σ[i]? = some o ∧ SlOk K F s o
  | _, _, _, _, .nil, e => by simp at e
  | _, _, 0, _, .cons r _, e => by simp at e; subst e; exact ⟨_, rfl, r⟩
  | _, _, i + 1, _, .cons _ t, e => by
    obtain ⟨v, h1, h2⟩ := EnvD.get (i := i) t (by simpa using e)
    exact ⟨v, by simpa using h1, h2⟩
theorem EnvD.set : ∀ {r : List Sl} {σ : L2.St} (i : Nat) {s : Sl} {o : Option V}, EnvD K F r σ → SlOk K F s o → EnvD K F (r.set i s) (σ.set i o)
  | _, _, _, _, _, .nil, _ => .nil
  | _, _, 0, _, _, .cons _ t, h => .cons h t
  | _, _, i + 1, _, _, .cons q t, h => .cons q (EnvD.set i t h)
def wipeR (r : List Sl) : List Nat → List Sl
  | [] => r
  | v :: vs => (wipeR r vs).set v .u
theorem EnvD.wipe {r : List Sl} {σ : L2.St} (h : EnvD K F r σ) : ∀ vs : List Nat, EnvD K F (wipeR r vs) (wipe σ vs)
  | [] => h
  | v :: vs => EnvD.set v (EnvD.wipe h vs) trivial
end

/-! ### what an expression is worth, whatever else stands in the heap -/
def EvD (K : PySem.W.Frag) (te : TE) (σ : L2.St) (F : Hp) (d : D) : Prop := ∀ H, Same F H → ∀ Q : VK, (∀ v F' H', Ext [] F H F' H' → Den K F' v d → Q v H') → te σ H Q
def EvT (K : PySem.W.Frag) (tt : TT) (σ : L2.St) (F : Hp) (b : Bool) : Prop := ∀ H, Same F H → ∀ Q : Bool → Hp → Prop, (∀ F' H', Ext [] F H F' H' → Q b H') → tt σ H Q
def EvA (K : PySem.W.Frag) (ta : TA) (σ : L2.St) (F : Hp) (ds : List D) : Prop := ∀ H, Same F H → ∀ Q : List V → Hp → Prop, (∀ vs F' H', Ext [] F H F' H' → DenL K F' vs ds → Q vs H') → ta σ H Q
def RvD (K : PySem.W.Frag) (r : R2) (a b d : D) : Prop := ∀ F H x y, Same F H → Den K F x a → Den K F y b → ∀ Q : VK, (∀ v F' H', Ext [] F H F' H' → Den K F' v d → Q v H') → r x y H Q
def RuD (K : PySem.W.Frag) (r : V → Hp → VK → Prop) (a d : D) : Prop := ∀ F H x, Same F H → Den K F x a → ∀ Q : VK, (∀ v F' H', Ext [] F H F' H' → Den K F' v d → Q v H') → r x H Q
def RcD (K : PySem.W.Frag) (r : List V → Hp → VK → Prop) (as : List D) (d : D) : Prop := ∀ F H xs, Same F H → DenL K F xs as → ∀ Q : VK, (∀ v F' H', Ext [] F H F' H' → Den K F' v d → Q v H') → r xs H Q

section
variable {K : PySem.W.Frag} {F F' H : Hp} {σ : L2.St} {ta tb tc te : TE} {tt tu : TT} {d e : D}
/-- two frozen parts of one heap, put together -/
def uni (F G : Hp) : Hp := fun a => (F a).or (G a)
theorem uni_l {F G : Hp} : Same F (uni F G) := fun a o h => by unfold uni; rw [h]; rfl
theorem uni_r {F G H : Hp} (e : Same F H) (e' : Same G H) : Same G (uni F G) := fun a o h => by
  unfold uni
  cases q : F a with
  | none => exact h
  | some u =>
    have h1 := e a u q
    have h2 := e' a o h
    rw [h1] at h2
    exact h2
theorem uni_s {F G H : Hp} (e : Same F H) (e' : Same G H) : Same (uni F G) H := fun a o h => by
  unfold uni at h
  cases q : F a with
  | none => rw [q] at h; exact e' a o h
  | some u => rw [q] at h; cases h; exact e a _ q
theorem Ext.uni {F F1 F2 H1 H2 : Hp} (e : Same F F1) (e1 : Same F1 H1) (x : Ext [] F H1 F2 H2) : Ext [] F1 H1 (uni F1 F2) H2 := by
  have e1' : Same F1 H2 := e1.trans x.same
  refine Ext.of uni_l x.same (uni_s e1' x.s) fun a h k => ?_
  unfold Nm.uni
  rw [h]
  exact x.n a (e.free h) k
theorem EvD.up (h : EvD K te σ F d) (e : Same F F') : EvD K te σ F' d := fun H s Q q => h H (e.trans s) Q fun v F2 H2 x r =>
  q v _ H2 (Ext.uni e s x) (r.up (uni_r (s.trans x.same) x.s))
theorem EvT.up {b : Bool} (h : EvT K tt σ F b) (e : Same F F') : EvT K tt σ F' b := fun H s Q q => h H (e.trans s) Q fun F2 H2 x => q _ H2 (Ext.uni e s x)
theorem EvA.up {ta : TA} {ds : List D} (h : EvA K ta σ F ds) (e : Same F F') : EvA K ta σ F' ds := fun H s Q q => h H (e.trans s) Q fun v F2 H2 x r =>
  q v _ H2 (Ext.uni e s x) (r.up (uni_r (s.trans x.same) x.s))

theorem ev_var {r : List Sl} {i : Nat} (E : EnvD K F r σ) (h : r[i]? = some (.d d)) : EvD K (tVar i) σ F d := fun H s Q q => by
  obtain ⟨o, h1, v, h2, h3⟩ := E.get h
  subst h2
  exact ⟨v, h1, q v F H (Ext.refl s) h3⟩
theorem ev_c {v : V} (h : Den K F v d) : EvD K (tC v) σ F d := fun H s Q q => q v F H (Ext.refl s) h
theorem ev_op {a b : D} {r : R2} (ha : EvD K ta σ F a) (hb : EvD K tb σ F b) (hr : RvD K r a b d) : EvD K (tOp r ta tb) σ F d := fun H s Q q =>
  ha H s _ fun x F1 H1 x1 d1 => (hb.up x1.f) H1 x1.s _ fun y F2 H2 x2 d2 => hr F2 H2 x y x2.s (d1.up x2.f) d2 Q fun v F3 H3 x3 d3 => q v F3 H3 ((x1.tr x2).tr x3) d3
theorem ev_un {a : D} {r : V → Hp → VK → Prop} (ha : EvD K ta σ F a) (hr : RuD K r a d) : EvD K (tUn r ta) σ F d := fun H s Q q =>
  ha H s _ fun x F1 H1 x1 d1 => hr F1 H1 x x1.s d1 Q fun v F3 H3 x3 d3 => q v F3 H3 (x1.tr x3) d3
theorem ev_cb {as : List D} {ta : TA} {r : List V → Hp → VK → Prop} (ha : EvA K ta σ F as) (hr : RcD K r as d) : EvD K (tCB r ta) σ F d := fun H s Q q =>
  ha H s _ fun x F1 H1 x1 d1 => hr F1 H1 x x1.s d1 Q fun v F3 H3 x3 d3 => q v F3 H3 (x1.tr x3) d3
theorem ea_nil : EvA K tNil σ F [] := fun H s Q q => q [] F H (Ext.refl s) .nil
theorem ea_cons {a : D} {as : List D} {tr : TA} (ha : EvD K ta σ F a) (hr : EvA K tr σ F as) : EvA K (tCons ta tr) σ F (a :: as) := fun H s Q q =>
  ha H s _ fun x F1 H1 x1 d1 => (hr.up x1.f) H1 x1.s _ fun xs F2 H2 x2 d2 => q (x :: xs) F2 H2 (x1.tr x2) (.cons (d1.up x2.f) d2)
theorem ev_and {a b : Bool} (h1 : EvD K ta σ F (.bl a)) (h2 : a = true → EvD K tb σ F (.bl b)) : EvD K (tAndV ta tb) σ F (.bl (a && b)) := fun H s Q q =>
  h1 H s _ fun x F1 H1 x1 d1 => by
    cases d1
    refine ⟨a, rfl, ?_⟩
    cases a with
    | true =>
      rw [if_pos rfl]
      exact ((h2 rfl).up x1.f) H1 x1.s _ fun v F2 H2 x2 d2 => q v F2 H2 (x1.tr x2) d2
    | false =>
      rw [if_neg (by decide)]
      exact q _ F1 H1 x1 (.bl false)
theorem ev_or {a b : Bool} (h1 : EvD K ta σ F (.bl a)) (h2 : a = false → EvD K tb σ F (.bl b)) : EvD K (tOrV ta tb) σ F (.bl (a || b)) := fun H s Q q =>
  h1 H s _ fun x F1 H1 x1 d1 => by
    cases d1
    refine ⟨a, rfl, ?_⟩
    cases a with
    | true =>
      rw [if_pos rfl]
      exact q _ F1 H1 x1 (.bl true)
    | false =>
      rw [if_neg (by decide)]
      exact ((h2 rfl).up x1.f) H1 x1.s _ fun v F2 H2 x2 d2 => q v F2 H2 (x1.tr x2) d2
theorem ev_not {a : Bool} (h1 : EvD K ta σ F (.bl a)) : EvD K (tNotV ta) σ F (.bl (!a)) := fun H s Q q =>
  h1 H s _ fun x F1 H1 x1 d1 => by
    cases d1
    exact ⟨a, rfl, q _ F1 H1 x1 (.bl _)⟩
theorem ev_if {b : Bool} (h : EvT K tt σ F b) (h1 : b = true → EvD K ta σ F d) (h2 : b = false → EvD K tb σ F d) : EvD K (tIf tt ta tb) σ F d := fun H s Q q =>
  h H s _ fun F1 H1 x1 => by
    cases b with
    | true =>
      show ta σ H1 Q
      exact ((h1 rfl).up x1.f) H1 x1.s _ fun v F2 H2 x2 d2 => q v F2 H2 (x1.tr x2) d2
    | false =>
      show tb σ H1 Q
      exact ((h2 rfl).up x1.f) H1 x1.s _ fun v F2 H2 x2 d2 => q v F2 H2 (x1.tr x2) d2
theorem et_test {b : Bool} (h : EvD K te σ F (.bl b)) : EvT K (tTest te) σ F b := fun H s Q q => h H s _ fun v F1 H1 x1 d1 => by cases d1; exact ⟨b, rfl, q F1 H1 x1⟩
theorem et_B {b : Bool} (h : EvD K te σ F (.bl b)) : EvT K (tB te) σ F b := fun H s Q q => h H s _ fun v F1 H1 x1 d1 => by cases d1; exact ⟨b, rfl, q F1 H1 x1⟩
theorem et_and {a b : Bool} (h1 : EvT K tt σ F a) (h2 : a = true → EvT K tu σ F b) : EvT K (tAnd tt tu) σ F (a && b) := fun H s Q q => h1 H s _ fun F1 H1 x1 => by
  cases a with
  | true =>
    show tu σ H1 Q
    exact ((h2 rfl).up x1.f) H1 x1.s _ fun F2 H2 x2 => q F2 H2 (x1.tr x2)
  | false =>
    show Q false H1
    exact q F1 H1 x1
theorem et_or {a b : Bool} (h1 : EvT K tt σ F a) (h2 : a = false → EvT K tu σ F b) : EvT K (tOr tt tu) σ F (a || b) := fun H s Q q => h1 H s _ fun F1 H1 x1 => by
  cases a with
  | true =>
    show Q true H1
    exact q F1 H1 x1
  | false =>
    show tu σ H1 Q
    exact ((h2 rfl).up x1.f) H1 x1.s _ fun F2 H2 x2 => q F2 H2 (x1.tr x2)
theorem et_not {a : Bool} (h1 : EvT K tt σ F a) : EvT K (tNot tt) σ F (!a) := fun H s Q q => h1 H s _ fun F1 H1 x1 => q F1 H1 x1
theorem ev_is (h : EvD K te σ F e) (q : e = d) : EvD K te σ F d := by rw [← q]; exact h
theorem et_is {a b : Bool} (h : EvT K tt σ F a) (q : a = b) : EvT K tt σ F b := by rw [← q]; exact h
theorem ev_lst {as : List D} {ta : TA} (h : EvA K ta σ F as) (hl : as.length ≤ sizeLine) : EvD K (tLst ta) σ F (.lst as) := fun H s Q q =>
  h H s _ fun vs F1 H1 x1 d1 => ⟨by rw [d1.length]; exact hl, fun p hp => q _ _ _ (x1.tr (Ext.new x1.s hp)) (.lst upd_same (d1.up (Ext.new (o := .lst vs) x1.s hp).f))⟩
theorem ev_tup {as : List D} {ta : TA} (h : EvA K ta σ F as) (hl : as.length ≤ sizeLine) : EvD K (tTup ta) σ F (.tup as) := fun H s Q q =>
  h H s _ fun vs F1 H1 x1 d1 => ⟨by rw [d1.length]; exact hl, fun p hp => q _ _ _ (x1.tr (Ext.new x1.s hp)) (.tup (SqT.of upd_same) (d1.up (Ext.new (o := .tup vs) x1.s hp).f))⟩
end
end Nm

set_option Elab.async false
set_option linter.all false
set_option maxRecDepth 100000
set_option maxHeartbeats 2000000
namespace Nm
open PySem PySem.Spec L2

/-! ### rules by values, of several kinds at once -/
section
variable {X : Cx}
theorem opr_or {f : Value → Value → Sem Value} {r r' : R2} (h : OpR X f r) (h' : OpR X f r') : OpR X f (fun x y H Q => r x y H Q ∨ r' x y H Q) :=
  fun pins s σ H x y v u Q I rx ry q => q.elim (fun q => h pins s σ H x y v u Q I rx ry q) fun q => h' pins s σ H x y v u Q I rx ry q
theorem calr_or {f : Value} {r r' : List V → Hp → VK → Prop} (h : CallR X f r) (h' : CallR X f r') : CallR X f (fun xs H Q => r xs H Q ∨ r' xs H Q) :=
  fun pins s σ H xs us Q I rx q => q.elim (fun q => h pins s σ H xs us Q I rx q) fun q => h' pins s σ H xs us Q I rx q

/-- + -/
def rAddS : R2 := fun x y H Q => ∃ i j, x = .str i ∧ y = .str j ∧ i.length + j.length ≤ sizeLine ∧ Q (.str (i ++ j)) H
def rAddA (K : PySem.W.Frag) : R2 := fun x y H Q => rI0 (fun i j => .int (i + j)) x y H Q ∨ rAddS x y H Q ∨ rCat x y H Q ∨ rCatA K x y H Q
theorem o_add : OpR X (binaryOp .Add) (rAddA X.K) := opr_or op_add (opr_or op_add_str (opr_or op_cat op_catA))
/-- in, not in -/
def rInSign (f : Bool → Bool) : R2 := fun x y H Q => ∃ (c : Nat) (z : Str), x = .str ⟨#[c]⟩ ∧ y = .str z ∧ Q (.bl (f (decide (c ∈ z.cps.toList)))) H
def rInDict (f : Bool → Bool) : R2 := fun x y H Q => ∃ a o, y = .ref a ∧ DGet H a x o ∧ Q (.bl (f o.isSome)) H
theorem o_din (hu : X.A.units + 1 < cLine) : OpR X (compareOp .In) (rInDict id) := by
  intro pins s σ H x y v u Q I rx ry h
  obtain ⟨a, o, rfl, g, q⟩ := h
  cases (show u = Value.ref a from ry)
  exact d_in hu I g rx fun s3 I3 => ⟨.bl o.isSome, H, I3, rfl, q⟩
theorem o_dnotin (hu : X.A.units + 1 < cLine) : OpR X (compareOp .NotIn) (rInDict (!·)) := by
  intro pins s σ H x y v u Q I rx ry h
  obtain ⟨a, o, rfl, g, q⟩ := h
  cases (show u = Value.ref a from ry)
  exact d_notIn hu I g rx fun s3 I3 => ⟨.bl (!o.isSome), H, I3, rfl, q⟩
def rInA (K : PySem.W.Frag) : R2 := fun x y H Q => rInSign id x y H Q ∨ rIn K false x y H Q ∨ rInDict id x y H Q
def rNotInA (K : PySem.W.Frag) : R2 := fun x y H Q => rInSign (!·) x y H Q ∨ rIn K true x y H Q ∨ rInDict (!·) x y H Q
theorem o_in (hu : X.A.units + 1 < cLine) : OpR X (compareOp .In) (rInA X.K) := opr_or op_in_sign (opr_or op_in_seq (o_din hu))
theorem o_notin (hu : X.A.units + 1 < cLine) : OpR X (compareOp .NotIn) (rNotInA X.K) := opr_or op_notIn_sign (opr_or op_notIn_seq (o_dnotin hu))
/-- len -/
def rLenA (K : PySem.W.Frag) : List V → Hp → VK → Prop := fun xs H Q => (∃ p ys, xs = [.ref p] ∧ (SqL K H p ys ∨ SqT K H p ys) ∧ Q (.int ys.length) H) ∨ (∃ z, xs = [.str z] ∧ z.length ≤ sizeLine ∧ Q (.int z.length) H) ∨
  (∃ a kvs, xs = [V.ref a] ∧ Rd H a (.dK kvs) ∧ Q (.int kvs.length) H)
theorem c_len_dict : CallR X (.builtin "len") (fun xs H Q => ∃ a kvs, xs = [V.ref a] ∧ Rd H a (.dK kvs) ∧ Q (.int kvs.length) H) := by
  intro pins s σ H xs us Q I r h
  obtain ⟨a, kvs, rfl, ha, q⟩ := h
  obtain ⟨u, rfl, ru⟩ := vals1 r
  cases (show u = Value.ref a from ru)
  exact d_len I ha fun t s' I' => ⟨.int kvs.length, H, I', ⟨t, rfl⟩, q⟩
theorem c_len : CallR X (.builtin "len") (rLenA X.K) := calr_or call_len_seq (calr_or call_len_str c_len_dict)
/-- < <= > >= -/
def rCmpA (f : Int → Int → Bool) (g : List Nat → List Nat → Bool) : R2 := fun x y H Q => rI0 (fun i j => .bl (f i j)) x y H Q ∨ ∃ i j, x = .str i ∧ y = .str j ∧ Q (.bl (g i.cps.toList j.cps.toList)) H
theorem o_lt : OpR X (compareOp .Lt) (rCmpA (fun i j => decide (i < j)) fun a b => decide (a < b)) := opr_or op_lt op_lt_str
theorem o_le : OpR X (compareOp .LtE) (rCmpA (fun i j => decide (i ≤ j)) fun a b => !decide (b < a)) := opr_or op_le op_le_str
theorem o_gt : OpR X (compareOp .Gt) (rCmpA (fun i j => decide (j < i)) fun a b => decide (b < a)) := opr_or op_gt op_gt_str
theorem o_ge : OpR X (compareOp .GtE) (rCmpA (fun i j => decide (j ≤ i)) fun a b => !decide (a < b)) := opr_or op_ge op_ge_str
/-- a[i] -/
theorem ix_or {r r' : R2} (h : IxR X r) (h' : IxR X r') : IxR X (fun x y H Q => r x y H Q ∨ r' x y H Q) := h.or h'
end

/-! ### the same by data -/
section
variable {K : PySem.W.Frag}
theorem rv_add_int {i j : Int} : RvD K (rAddA K) (.int i) (.int j) (.int (i + j)) := fun F H x y s hx hy Q q => by
  cases hx; cases hy
  exact .inl ⟨i, j, rfl, rfl, q _ F H (Ext.refl s) (.int _)⟩
theorem rv_add_str {i j : Str} (hz : i.length + j.length ≤ sizeLine) : RvD K (rAddA K) (.str i) (.str j) (.str (i ++ j)) := fun F H x y s hx hy Q q => by
  cases hx; cases hy
  exact .inr (.inl ⟨i, j, rfl, rfl, hz, q _ F H (Ext.refl s) (.str _)⟩)
theorem rv_add_lst {i j : List D} (hz : i.length + j.length ≤ sizeLine) : RvD K (rAddA K) (.lst i) (.lst j) (.lst (i ++ j)) := fun F H x y s hx hy Q q => by
  cases hx with
  | lst h1 l1 =>
    cases hy with
    | lst h2 l2 =>
      refine .inr (.inr (.inl ⟨_, _, _, _, rfl, rfl, s _ _ h1, s _ _ h2, by rw [l1.length, l2.length]; exact hz, fun p hp => q _ _ _ (Ext.new s hp) (.lst upd_same ?_)⟩))
      exact (l1.append l2).up (Ext.new s hp).f
theorem rv_add_tup {i j : List D} (hz : i.length + j.length ≤ sizeLine) : RvD K (rAddA K) (.tup i) (.tup j) (.tup (i ++ j)) := fun F H x y s hx hy Q q => by
  cases hx with
  | tup h1 l1 =>
    cases hy with
    | tup h2 l2 =>
      refine .inr (.inr (.inr ⟨_, _, _, _, rfl, rfl, same_t s h1, same_t s h2, by rw [l1.length, l2.length]; exact hz, fun e => ?_, fun _ e => ?_, fun _ _ p hp => q _ _ _ (Ext.new s hp) (.tup (SqT.of upd_same) ?_)⟩))
      · subst e; cases l1; exact q _ F H (Ext.refl s) (.tup h2 l2)
      · subst e; cases l2; rw [List.append_nil] at q; exact q _ F H (Ext.refl s) (.tup h1 l1)
      · exact (l1.append l2).up (Ext.new s hp).f
theorem rv_I0 {g : Int → Int → Int} {i j : Int} : RvD K (rI0 fun i j => .int (g i j)) (.int i) (.int j) (.int (g i j)) := fun F H x y s hx hy Q q => by
  cases hx; cases hy
  exact ⟨i, j, rfl, rfl, q _ F H (Ext.refl s) (.int _)⟩
theorem rv_I {C : Int → Int → Prop} {g : Int → Int → Int} {i j : Int} (hc : C i j) : RvD K (rI C fun i j => .int (g i j)) (.int i) (.int j) (.int (g i j)) := fun F H x y s hx hy Q q => by
  cases hx; cases hy
  exact ⟨i, j, rfl, rfl, hc, q _ F H (Ext.refl s) (.int _)⟩
theorem rv_cmp_int {f : Int → Int → Bool} {g : List Nat → List Nat → Bool} {i j : Int} : RvD K (rCmpA f g) (.int i) (.int j) (.bl (f i j)) := fun F H x y s hx hy Q q => by
  cases hx; cases hy
  exact .inl ⟨i, j, rfl, rfl, q _ F H (Ext.refl s) (.bl _)⟩
theorem rv_cmp_str {f : Int → Int → Bool} {g : List Nat → List Nat → Bool} {i j : Str} : RvD K (rCmpA f g) (.str i) (.str j) (.bl (g i.cps.toList j.cps.toList)) := fun F H x y s hx hy Q q => by
  cases hx; cases hy
  exact .inr ⟨i, j, rfl, rfl, q _ F H (Ext.refl s) (.bl _)⟩
theorem rv_eq_int {i j : Int} : RvD K rEq (.int i) (.int j) (.bl (decide (i = j))) := fun F H x y s hx hy Q q => by
  cases hx; cases hy
  refine ⟨rfl, ?_⟩
  rw [dec_int, show (i == j) = decide (i = j) from rfl]
  exact q _ F H (Ext.refl s) (.bl _)
theorem rv_ne_int {i j : Int} : RvD K rNe (.int i) (.int j) (.bl (!decide (i = j))) := fun F H x y s hx hy Q q => by
  cases hx; cases hy
  refine ⟨rfl, ?_⟩
  rw [dec_int, show (i == j) = decide (i = j) from rfl]
  exact q _ F H (Ext.refl s) (.bl _)
theorem dec_strD {i j : Str} : decide (V.str i = V.str j) = decide (i = j) := by
  by_cases h : i = j
  · subst h; simp
  · rw [decide_eq_false h, decide_eq_false (fun z => h (V.str.inj z))]
theorem rv_eq_str {i j : Str} : RvD K rEq (.str i) (.str j) (.bl (decide (i = j))) := fun F H x y s hx hy Q q => by
  cases hx; cases hy
  refine ⟨rfl, ?_⟩
  rw [dec_strD]
  exact q _ F H (Ext.refl s) (.bl _)
theorem rv_ne_str {i j : Str} : RvD K rNe (.str i) (.str j) (.bl (!decide (i = j))) := fun F H x y s hx hy Q q => by
  cases hx; cases hy
  refine ⟨rfl, ?_⟩
  rw [dec_strD]
  exact q _ F H (Ext.refl s) (.bl _)
theorem rv_in_sign {c : Nat} {z : Str} : RvD K (rInA K) (.str ⟨#[c]⟩) (.str z) (.bl (decide (c ∈ z.cps.toList))) := fun F H x y s hx hy Q q => by
  cases hx; cases hy
  exact .inl ⟨c, z, rfl, rfl, q _ F H (Ext.refl s) (.bl _)⟩
theorem rc_len_str {z : Str} (hz : z.length ≤ sizeLine) : RcD K (rLenA K) [.str z] (.int z.length) := fun F H xs s hx Q q => by
  cases hx with
  | cons h t =>
    cases h; cases t
    exact .inr (.inl ⟨z, rfl, hz, q _ F H (Ext.refl s) (.int _)⟩)
theorem rc_len_lst {ds : List D} : RcD K (rLenA K) [.lst ds] (.int ds.length) := fun F H xs s hx Q q => by
  cases hx with
  | cons h t =>
    cases t
    cases h with
    | lst h l => exact .inl ⟨_, _, rfl, .inl (SqL.of (s _ _ h)), by rw [l.length]; exact q _ F H (Ext.refl s) (.int _)⟩
theorem rc_len_tup {ds : List D} : RcD K (rLenA K) [.tup ds] (.int ds.length) := fun F H xs s hx Q q => by
  cases hx with
  | cons h t =>
    cases t
    cases h with
    | tup h l => exact .inl ⟨_, _, rfl, .inr (same_t s h), by rw [l.length]; exact q _ F H (Ext.refl s) (.int _)⟩
/-- the built-in type of data -/
def tyD : D → Option String
  | .non => some "NoneType" | .bl _ => some "bool" | .int _ => some "int" | .str _ => some "str" | .lst _ => some "list" | .tup _ => some "tuple" | .dic _ => some "dict" | _ => none
theorem ty_of {F H : Hp} {x : V} {d : D} {t : String} (s : Same F H) (h : Den K F x d) (e : tyD d = some t) : TyX K H x (.type t) := by
  cases h with
  | non => cases e; exact .base .non
  | bl b => cases e; exact .base (.bl b)
  | int b => cases e; exact .base (.int b)
  | str b => cases e; exact .base (.str b)
  | lst h l => cases e; exact .base (.lst (s _ _ h))
  | tup h l =>
    cases e
    rcases same_t s h with (h | ⟨o, h⟩) | ⟨o, its, n, h1, h2, _⟩
    · exact .base (.tup h)
    · exact .fTuple h
    · exact .kTuple h1 (by first | exact h2 | (obtain ⟨h2, _⟩ := h2; exact h2))
  | dic h l =>
    cases e
    exact .fDict (s _ _ h)
  | obj h l => cases e
  | ty n => cases e
  | cls C => cases e
theorem rc_isi {d : D} {t n : String} {b : Bool} (e : tyD d = some t) (hb : kitB t n = some b) : RcD K (rIsi K) [d, .ty n] (.bl b) := fun F H xs s hx Q q => by
  cases hx with
  | cons h t =>
    cases t with
    | cons h2 t =>
      cases t; cases h2
      exact ⟨_, _, _, _, b, rfl, .ty n, ty_of s h e, kit_ty hb, q _ F H (Ext.refl s) (.bl _)⟩
theorem denL_bls : ∀ {F : Hp} {bs : List Bool} {vs : List V}, DenL K F vs (bs.map D.bl) → vs = bs.map V.bl
  | _, [], _, h => by cases h; rfl
  | _, b :: bs, _, h => by cases h with | cons a t => cases a; rw [denL_bls t]; rfl
theorem denL_strs : ∀ {F : Hp} {bs : List Str} {vs : List V}, DenL K F vs (bs.map D.str) → vs = bs.map V.str
  | _, [], _, h => by cases h; rfl
  | _, b :: bs, _, h => by cases h with | cons a t => cases a; rw [denL_strs t]; rfl
theorem denL_ints : ∀ {F : Hp} {bs : List Int} {vs : List V}, DenL K F vs (bs.map D.int) → vs = bs.map V.int
  | _, [], _, h => by cases h; rfl
  | _, b :: bs, _, h => by cases h with | cons a t => cases a; rw [denL_ints t]; rfl
theorem rc_all {bs : List Bool} : RcD K (rAll K) [.lst (bs.map D.bl)] (.bl (bs.all id)) := fun F H xs s hx Q q => by
  cases hx with
  | cons h t =>
    cases t
    cases h with
    | lst h l =>
      rw [denL_bls l] at h
      exact ⟨_, bs, rfl, SqL.of (s _ _ h), q _ F H (Ext.refl s) (.bl _)⟩
theorem rc_any {bs : List Bool} : RcD K (rAny K) [.lst (bs.map D.bl)] (.bl (bs.any id)) := fun F H xs s hx Q q => by
  cases hx with
  | cons h t =>
    cases t
    cases h with
    | lst h l =>
      rw [denL_bls l] at h
      exact ⟨_, bs, rfl, SqL.of (s _ _ h), q _ F H (Ext.refl s) (.bl _)⟩
end
end Nm

set_option Elab.async false
set_option linter.all false
set_option maxRecDepth 100000
set_option maxHeartbeats 2000000
namespace Nm
open PySem PySem.Spec L2

/-! ### what is walked -/
section
variable {X : Cx} {tg e : Expr}
theorem pi_or {wi wj : TI} (h : PI X tg e wi) (h' : PI X tg e wj) : PI X tg e (fun σ H R => wi σ H R ∨ wj σ H R) :=
  ⟨fun pins s σ H R I q => q.elim (h.run pins s σ H R I) (h'.run pins s σ H R I)⟩
/-- for x in e: a list, a tuple, a text -/
def iSeq (K : PySem.W.Frag) (te : TE) : TI := fun σ H R => iList K te σ H R ∨ iTup K te σ H R ∨ iStr te σ H R ∨ iKeys te σ H R
theorem pi_seq {te : TE} (h : PE X e te) : PI X tg e (iSeq X.K te) := pi_or (pi_list h) (pi_or (pi_tup h) (pi_or (pi_str h) (pi_keys h)))
end
def WalkD (K : PySem.W.Frag) (F : Hp) (J : It) (items : List D) : Prop := ∃ G Y, Walk J items.length G Y ∧ (∀ H, Same F H → G H) ∧
  ∀ i H x H', i < items.length → Same F H → Y i H x H' → ∃ d F', items[i]? = some d ∧ Ext [] F H F' H' ∧ Den K F' x d
def EvI (K : PySem.W.Frag) (wi : TI) (σ : L2.St) (F : Hp) (items : List D) : Prop :=
  ∀ H, Same F H → ∀ R : It → Hp → Prop, (∀ J F' H', Ext [] F H F' H' → WalkD K F' J items → R J H') → wi σ H R
/-- a text's signs, one by one -/
def signs (x : Str) : List D := x.cps.toList.map fun c => .str ⟨#[c]⟩
section
variable {K : PySem.W.Frag} {F F' H : Hp} {σ : L2.St} {te : TE}
theorem walkD_up {J : It} {items : List D} (h : WalkD K F J items) (e : Same F F') : WalkD K F' J items := by
  obtain ⟨G, Y, w, g, y⟩ := h
  refine ⟨G, Y, w, fun H s => g H (e.trans s), fun i H x H' hi s hy => ?_⟩
  obtain ⟨d, F2, h1, h2, h3⟩ := y i H x H' hi (e.trans s) hy
  exact ⟨d, _, h1, Ext.uni e s h2, h3.up (uni_r (s.trans h2.same) h2.s)⟩
theorem ei_lst {ds : List D} (h : EvD K te σ F (.lst ds)) : EvI K (iSeq K te) σ F ds := fun H s R q => .inl (h H s _ fun v F1 H1 x1 d1 => by
  cases d1 with
  | lst h l =>
    rename_i a xs
    refine ⟨a, rfl, ⟨xs, SqL.of (x1.s _ _ h)⟩, q _ F1 H1 x1 ⟨fun H => SqL K H a xs, YAt xs, ?_, fun H s => SqL.of (s _ _ h), fun i H x H' hi s y => ?_⟩⟩
    · rw [← l.length]; exact walk_list
    · obtain ⟨rfl, y⟩ := y
      obtain ⟨d, h1, h2⟩ := l.getV y
      exact ⟨d, F1, h1, Ext.refl s, h2⟩)
theorem ei_tup {ds : List D} (h : EvD K te σ F (.tup ds)) : EvI K (iSeq K te) σ F ds := fun H s R q => .inr (.inl (h H s _ fun v F1 H1 x1 d1 => by
  cases d1 with
  | tup h l =>
    rename_i a xs
    refine ⟨a, rfl, ⟨xs, same_t x1.s h⟩, q _ F1 H1 x1 ⟨fun H => SqT K H a xs, YAt xs, ?_, fun H s => same_t s h, fun i H x H' hi s y => ?_⟩⟩
    · rw [← l.length]; exact walk_tup
    · obtain ⟨rfl, y⟩ := y
      obtain ⟨d, h1, h2⟩ := l.getV y
      exact ⟨d, F1, h1, Ext.refl s, h2⟩))
theorem ei_str {z : Str} (h : EvD K te σ F (.str z)) : EvI K (iSeq K te) σ F (signs z) := fun H s R q => .inr (.inr (.inl (h H s _ fun v F1 H1 x1 d1 => by
  cases d1
  refine ⟨z, rfl, q _ F1 H1 x1 ⟨fun _ => True, fun i H v H' => H' = H ∧ ∃ c, z.cps[i]? = some c ∧ v = .str ⟨#[c]⟩, ?_, fun _ _ => trivial, fun i H x H' hi s y => ?_⟩⟩
  · have e : (signs z).length = z.cps.size := by unfold signs; simp
    rw [e]; exact walk_str
  · obtain ⟨rfl, c, y, rfl⟩ := y
    refine ⟨_, F1, ?_, Ext.refl s, .str _⟩
    unfold signs
    rw [List.getElem?_map, Array.getElem?_toList, y]; rfl)))
theorem ei_rng1 {ta : TA} {n : Int} (h : EvA K ta σ F [.int n]) (h1 : -(2 ^ 62) ≤ n) (h2 : n < 2 ^ 62) : EvI K (iRng1 ta) σ F ((List.range n.toNat).map fun i => .int (i : Nat)) := fun H s R q => h H s _ fun vs F1 H1 x1 d1 => by
  cases d1 with
  | cons a t =>
    cases a; cases t
    refine ⟨n, rfl, h1, h2, q _ F1 H1 x1 ⟨fun _ => True, YFn fun i => .int (0 + (i : Nat)), ?_, fun _ _ => trivial, fun i H x H' hi s y => ?_⟩⟩
    · have e : ((List.range n.toNat).map fun i => D.int (i : Nat)).length = n.toNat := by simp
      rw [e]; exact walk_range
    · obtain ⟨rfl, rfl⟩ := y
      refine ⟨.int (i : Nat), F1, ?_, Ext.refl s, ?_⟩
      · rw [List.length_map] at hi
        rw [List.getElem?_map, List.getElem?_eq_getElem hi]; simp
      · show Den K F1 (.int (0 + (i : Int))) (.int (i : Int))
        rw [Int.zero_add]; exact .int _

/-! ### lists that are built -/
variable {F1 H1 F2 H2 : Hp} {Dl : Addr}
theorem Ext.mutNew {M : List Addr} {o : HO} (x : Ext M F H F1 H1) (h : H Dl = none) (f : F1 Dl = none) : Ext M F H F1 (upd H1 Dl o) :=
  ⟨x.f, fun a u m e => by rw [upd_ne (ne_of_none e h)]; exact x.h a u m e, fun a u e => by rw [upd_ne (ne_of_none e f)]; exact x.s a u e, x.n, fun a e => upd_keeps a (x.k a e)⟩
theorem Ext.freeze {M : List Addr} {o : HO} (x : Ext M F H F1 H1) (h : H Dl = none) (e : H1 Dl = some o) (f : F1 Dl = none) : Ext M F H (upd F1 Dl o) H1 :=
  ⟨fun a u q => by rw [upd_ne (ne_of_none (x.f a u q) f)]; exact x.f a u q, x.h, fun a u q => by
    by_cases z : a = Dl
    · subst z; rw [upd_same] at q; rw [← q]; exact e
    · rw [upd_ne z] at q; exact x.s a u q, fun a q k => by rw [upd_ne (fun z => k (by rw [z]; exact h))]; exact x.n a q k, x.k⟩
theorem same_new {o : HO} (f : F Dl = none) : Same F (upd F Dl o) := fun a u q => by rw [upd_ne (ne_of_none q f)]; exact q
theorem take_succ' {α : Type} {l : List α} {i : Nat} {x : α} (h : l[i]? = some x) : l.take (i + 1) = l.take i ++ [x] := by
  rw [List.take_add_one, h]; rfl
theorem ev_lcIf {r : List Sl} {items : List D} {f : D → D} {p : D → Bool} {j : Nat} {vs : List Nat} {tt : TT} {wi : TI} (E : EnvD K F r σ) (hi : EvI K wi σ F items) (hn : items.length < sizeLine)
    (hw : ∀ (σ' : L2.St) (x : Option V), wipe ((wipe σ' vs).set j x) vs = wipe σ' vs)
    (ht : ∀ d F' σ', d ∈ items → Same F F' → EnvD K F' ((wipeR r vs).set j (.d d)) σ' → EvT K tt σ' F' (p d))
    (he : ∀ d F' σ', d ∈ items → Same F F' → EnvD K F' ((wipeR r vs).set j (.d d)) σ' → p d = true → EvD K te σ' F' (f d)) :
    EvD K (tLc wi (gName j) tt te vs) σ F (.lst ((items.filter p).map f)) := fun H s Q q => hi H s _ fun J F1 H1 x1 W1 Dl hD => by
  obtain ⟨G, Y, w, hg, hy⟩ := W1
  refine lc_it w (fun i H' => ∃ F' acc, Ext [] F1 H1 F' H' ∧ F' Dl = none ∧ H' Dl = some (.lst acc) ∧ DenL K F' acc (((items.take i).filter p).map f)) ?_ ?_ ?_ ?_
  · exact ⟨F1, [], Ext.newM x1.s hD, x1.s.free hD, upd_same, .nil⟩
  · rintro i H' _ ⟨F', acc, x, _⟩
    exact hg H' (x.f.trans x.s)
  · rintro i v H' H'' hlt ⟨F', acc, x, fD, eD, l⟩ y
    obtain ⟨d, F2, h1, h2, h3⟩ := hy i H' v H'' hlt (x.f.trans x.s) y
    have hd : d ∈ items := List.mem_of_getElem? h1
    have x2 := Ext.uni x.f x.s h2
    have h3' : Den K (uni F' F2) v d := h3.up (uni_r (x.s.trans h2.same) h2.s)
    have fD2 : uni F' F2 Dl = none := x2.n Dl fD (by rw [eD]; simp)
    have eD2 : H'' Dl = some (.lst acc) := x2.same _ _ eD
    have E2 : EnvD K (uni F' F2) ((wipeR r vs).set j (.d d)) ((wipe σ vs).set j (some v)) := EnvD.set j ((EnvD.wipe E vs).up ((x1.f.trans x.f).trans x2.f)) ⟨v, rfl, h3'⟩
    have sF : Same F (uni F' F2) := (x1.f.trans x.f).trans x2.f
    refine ⟨hw σ _, ?_⟩
    refine ht d _ _ hd sF E2 H'' x2.s _ fun F3 H3 x3 => ?_
    have fD3 : F3 Dl = none := x3.n Dl fD2 (by rw [eD2]; simp)
    have eD3 : H3 Dl = some (.lst acc) := x3.same _ _ eD2
    cases hp : p d with
    | true =>
      rw [if_pos rfl]
      refine ((he d _ _ hd sF E2 hp).up x3.f) H3 x3.s _ fun z F4 H4 x4 d4 => ?_
      have fD4 : F4 Dl = none := x4.n Dl fD3 (by rw [eD3]; simp)
      have eD4 : H4 Dl = some (.lst acc) := x4.same _ _ eD3
      refine ⟨acc, eD4, ?_, F4, acc ++ [z], Ext.mutNew (((x.tr x2).tr x3).tr x4) hD fD4, fD4, upd_same, ?_⟩
      · have := l.length
        rw [List.length_map] at this
        have h5 := List.length_filter_le p (items.take i)
        have h6 := List.length_take_le i items
        omega
      · rw [take_succ' h1, List.filter_append, List.map_append, List.filter_cons, if_pos hp]
        exact (l.up ((x2.f.trans x3.f).trans x4.f)).append (.cons d4 .nil)
    | false =>
      rw [if_neg (by decide)]
      refine ⟨F3, acc, (x.tr x2).tr x3, fD3, eD3, ?_⟩
      rw [take_succ' h1, List.filter_append, List.map_append, List.filter_cons, if_neg (by rw [hp]; decide)]
      show DenL K F3 acc (_ ++ [])
      rw [List.append_nil]
      exact l.up (x2.f.trans x3.f)
  · rintro H' ⟨F', acc, x, fD, eD, l⟩
    rw [List.take_length] at l
    exact q _ _ _ (x1.tr (Ext.freeze x hD eD fD)) (.lst upd_same (l.up (same_new fD)))
theorem et_yes : EvT K tYes σ F true := fun H s Q q => q F H (Ext.refl s)
theorem ev_lc {r : List Sl} {items : List D} {f : D → D} {j : Nat} {vs : List Nat} {wi : TI} (E : EnvD K F r σ) (hi : EvI K wi σ F items) (hn : items.length < sizeLine)
    (hw : ∀ (σ' : L2.St) (x : Option V), wipe ((wipe σ' vs).set j x) vs = wipe σ' vs)
    (he : ∀ d F' σ', d ∈ items → Same F F' → EnvD K F' ((wipeR r vs).set j (.d d)) σ' → EvD K te σ' F' (f d)) :
    EvD K (tLc wi (gName j) tYes te vs) σ F (.lst (items.map f)) := by
  have h := ev_lcIf (p := fun _ => true) E hi hn hw (fun _ _ _ _ _ _ => et_yes) fun d F' σ' h1 h2 h3 _ => he d F' σ' h1 h2 h3
  rwa [List.filter_eq_self.mpr (fun _ _ => rfl)] at h
theorem wipe1 (j : Nat) (σ' : L2.St) (x : Option V) : wipe ((wipe σ' [j]).set j x) [j] = wipe σ' [j] := by
  show ((σ'.set j none).set j x).set j none = σ'.set j none
  rw [List.set_set, List.set_set]

/-! ### statements -/
variable {DE : Ends} {tz tb : TS} {r : List Sl} {d : D}
theorem s_ret (S : Same F H) (h : EvD K te σ F d) (k : ∀ v F' H', Ext [] F H F' H' → Den K F' v d → DE.rt v H') : tRet te DE σ H := h H S _ k
theorem q_asg {j : Nat} (S : Same F H) (E : EnvD K F r σ) (h : EvD K te σ F d) (k : ∀ F' H' σ', Ext [] F H F' H' → EnvD K F' (r.set j (.d d)) σ' → tz DE σ' H') : tSeq (tAsg te (gName j)) tz DE σ H :=
  h H S _ fun v F' H' x dv => k F' H' _ x (EnvD.set j (E.up x.f) ⟨v, rfl, dv⟩)
theorem s_asg {j : Nat} (S : Same F H) (E : EnvD K F r σ) (h : EvD K te σ F d) (k : ∀ F' H' σ', Ext [] F H F' H' → EnvD K F' (r.set j (.d d)) σ' → DE.nx σ' H') : tAsg te (gName j) DE σ H :=
  h H S _ fun v F' H' x dv => k F' H' _ x (EnvD.set j (E.up x.f) ⟨v, rfl, dv⟩)
theorem q_if {tt : TT} {tu tw : TS} {b : Bool} (S : Same F H) (h : EvT K tt σ F b) (h1 : b = true → ∀ F' H', Ext [] F H F' H' → tu { DE with nx := tz DE } σ H') (h2 : b = false → ∀ F' H', Ext [] F H F' H' → tw { DE with nx := tz DE } σ H') :
    tSeq (tIfS tt tu tw) tz DE σ H := h H S _ fun F' H' x => by
  cases b with
  | true => exact h1 rfl F' H' x
  | false => exact h2 rfl F' H' x
theorem s_if {tt : TT} {tu tw : TS} {b : Bool} (S : Same F H) (h : EvT K tt σ F b) (h1 : b = true → ∀ F' H', Ext [] F H F' H' → tu DE σ H') (h2 : b = false → ∀ F' H', Ext [] F H F' H' → tw DE σ H') :
    tIfS tt tu tw DE σ H := h H S _ fun F' H' x => by
  cases b with
  | true => exact h1 rfl F' H' x
  | false => exact h2 rfl F' H' x
/-- a for over data; Pv: turn, frozen part, heap, frame -/
theorem s_for (M : List Addr) (Pv : Nat → Hp → Hp → List Sl → Prop) {items : List D} {wi : TI} {j : Nat} (S : Same F H) (E : EnvD K F r σ) (hi : EvI K wi σ F items)
    (h0 : ∀ F' H', Ext [] F H F' H' → Pv 0 F' H' r)
    (hs : ∀ i d F1 H1 F2 H2 r' σ' (N : L2.St → Hp → Prop), items[i]? = some d → Ext M F H F1 H1 → Pv i F1 H1 r' → Ext [] F1 H1 F2 H2 → EnvD K F2 (r'.set j (.d d)) σ' →
      (∀ F3 H3 r3 σ3, Ext M F2 H2 F3 H3 → EnvD K F3 r3 σ3 → Pv (i + 1) F3 H3 r3 → N σ3 H3) → tb { DE with nx := N, ct := N, bk := DE.nx } σ' H2)
    (hd : ∀ F' H' r' σ', Ext M F H F' H' → EnvD K F' r' σ' → Pv items.length F' H' r' → DE.nx σ' H') : tFor wi (gName j) tb DE σ H :=
  hi H S _ fun J F1 H1 x1 W1 => by
    obtain ⟨G, Y, w, hg, hy⟩ := W1
    refine ⟨fun i m σ3 H3 => m = items.length - i ∧ i ≤ items.length ∧ ∃ F3 r3, Ext M F H F3 H3 ∧ Same F1 F3 ∧ EnvD K F3 r3 σ3 ∧ Pv i F3 H3 r3, ⟨items.length, by simp, Nat.zero_le _, F1, r, x1.wide (by simp), Same.refl _, E.up x1.f, h0 F1 H1 x1⟩, ?_⟩
    rintro i m σ3 H3 ⟨rfl, hle, F3, r3, x, e, E3, p⟩
    have hG := hg H3 (e.trans x.s)
    by_cases hlt : i < items.length
    · refine .inr ⟨w.goes i H3 hlt hG, fun σ' H' => ∃ F4 r4, Ext M F H F4 H' ∧ Same F1 F4 ∧ EnvD K F4 r4 σ' ∧ Pv (i + 1) F4 H' r4, fun σ' H' q => ⟨items.length - (i + 1), by omega, rfl, hlt, q⟩, fun v H4 y => ?_⟩
      obtain ⟨d, F2, h1, h2, h3⟩ := hy i H3 v H4 hlt (e.trans x.s) (w.yields i H3 v H4 hlt hG y)
      have x2 := Ext.uni e x.s h2
      have h3' : Den K (uni F3 F2) v d := h3.up (uni_r (x.s.trans h2.same) h2.s)
      exact hs i d F3 H3 _ H4 r3 _ _ h1 x p x2 (EnvD.set j (E3.up x2.f) ⟨v, rfl, h3'⟩) fun F5 H5 r5 σ5 x5 E5 p5 => ⟨F5, r5, (x.tl x2).trans x5, (e.trans x2.f).trans x5.f, E5, p5⟩
    · have ei : i = items.length := by omega
      subst ei
      exact .inl ⟨w.stops H3 hG, hd F3 H3 r3 σ3 x E3 p⟩
end

/-! ### a def that is pure: its arguments and what it gives, by data -/
def spP (K : PySem.W.Frag) (n : Nat) (f : List D → Option D) : Sp := fun vs H Q _ => ∃ F ds d, Same F H ∧ DenL K F vs ds ∧ f ds = some d ∧ ds.length = n ∧ ∀ v F' H', Ext [] F H F' H' → Den K F' v d → Q v H'
theorem spP_len {K : PySem.W.Frag} {n : Nat} {f : List D → Option D} {vs : List V} {H : Hp} {Q : VK} {E : XK} (h : spP K n f vs H Q E) : vs.length = n := by
  obtain ⟨F, ds, d, _, l, _, e, _⟩ := h
  rw [l.length, e]
theorem ev_call {K : PySem.W.Frag} {n : Nat} {f : List D → Option D} {F : Hp} {σ : L2.St} {ta : TA} {E : XK} {ds : List D} {d : D} (ha : EvA K ta σ F ds) (hf : f ds = some d) (hn : ds.length = n) : EvD K (tCall (spP K n f) [] E ta) σ F d := fun H s Q q =>
  ha H s _ fun vs F1 H1 x1 l1 => ⟨F1, ds, d, x1.s, by rw [List.append_nil]; exact l1, hf, hn, fun v F2 H2 x2 d2 => q v F2 H2 (x1.tr x2) d2⟩
end Nm

set_option Elab.async false
set_option linter.all false
set_option maxRecDepth 100000
set_option maxHeartbeats 2000000
namespace Nm
open PySem PySem.Spec L2

theorem hu4 {k : Nat} {A : Around} (hr : Room k A) : A.units + 64 < cLine := hr.units
section
variable {X : Cx}
/-- text * number -/
def rMulS : R2 := fun x y H Q => ∃ (z : Str) (n : Int), x = .str z ∧ y = .int n ∧ 0 ≤ n ∧ n ≤ 1000000 ∧ z.length * n.toNat ≤ sizeLine ∧ Q (.str ⟨(List.replicate n.toNat z.cps.toList).flatten.toArray⟩) H
theorem fold_cat : ∀ (l : List (Array Nat)) (acc : Array Nat), (l.foldl (· ++ ·) acc).toList = acc.toList ++ (l.map Array.toList).flatten
  | [], acc => by simp
  | a :: l, acc => by simp [fold_cat l, List.append_assoc]
theorem str_ext {a b : Str} (h : a.cps.toList = b.cps.toList) : a = b := by
  obtain ⟨⟨a⟩⟩ := a
  obtain ⟨⟨b⟩⟩ := b
  have e : a = b := h
  rw [e]
theorem o_mul_str : OpR X (binaryOp .Mult) rMulS := by
  intro pins s σ H x y v u Q I rx ry h
  obtain ⟨z, n, rfl, rfl, h0, h1, hz, q⟩ := h
  obtain ⟨t, rfl⟩ := rx
  obtain ⟨t', rfl⟩ := ry
  have big : sizeLine = 16777216 := sizeLine_eq
  have e1 : (decide (n < -(2 ^ 63 : Int)) || decide (n ≥ 2 ^ 63)) = false := by
    rw [decide_eq_false (by omega), decide_eq_false (by omega)]; rfl
  have lz : z.length = z.cps.toList.length := by simp [Str.length]
  refine PySem.P.mul_str e1 (fun a b => ?_) (fun a b => ?_) ?_
  · have hn : 1 ≤ n.toNat := by omega
    have h2 : z.length ≤ z.length * n.toNat := Nat.le_mul_of_pos_right _ hn
    have h3 : (2 ^ 63 - 1 : Int) / n ≥ (2 ^ 63 - 1 : Int) / 1000000 := by
      have : (2 ^ 63 - 1 : Int) / 1000000 * n ≤ 2 ^ 63 - 1 := by
        have : (2 ^ 63 - 1 : Int) / 1000000 * n ≤ (2 ^ 63 - 1 : Int) / 1000000 * 1000000 := Int.mul_le_mul_of_nonneg_left h1 (by decide)
        omega
      exact (Int.le_ediv_iff_mul_le (by omega)).mpr this
    have h4 : (2 ^ 63 - 1 : Int) / 1000000 ≥ 16777216 := by decide
    omega
  · unfold Builtin.Str.tooLong
    simp only [decide_eq_false_iff_not]
    omega
  · by_cases c : n < 1
    · rw [if_pos c]
      have : n.toNat = 0 := by omega
      rw [this] at q
      exact ⟨by decide, .str _, H, I.tok _, ⟨_, rfl⟩, q⟩
    · rw [if_neg c]
      by_cases d : (n == 1 || z.length == 0) = true
      · rw [if_pos d]
        refine ⟨.str z, H, I, ⟨_, rfl⟩, ?_⟩
        have e : (⟨(List.replicate n.toNat z.cps.toList).flatten.toArray⟩ : Str) = z := by
          apply str_ext
          show (List.replicate n.toNat z.cps.toList).flatten = z.cps.toList
          rcases Bool.or_eq_true_iff.mp d with d | d
          · have : n = 1 := by simpa using d
            subst this; simp
          · have : z.cps.toList = [] := by
              have : z.length = 0 := by simpa using d
              rw [lz] at this
              exact List.length_eq_zero_iff.mp this
            rw [this]; simp
        rw [e] at q
        exact q
      · rw [if_neg d]
        have e : (⟨(List.replicate n.toNat z.cps).foldl (· ++ ·) #[]⟩ : Str) = ⟨(List.replicate n.toNat z.cps.toList).flatten.toArray⟩ := by
          apply str_ext
          show ((List.replicate n.toNat z.cps).foldl (· ++ ·) #[]).toList = (List.replicate n.toNat z.cps.toList).flatten
          rw [fold_cat, List.map_replicate]; simp
        refine ⟨?_, .str _, H, I.tok _, ⟨_, rfl⟩, ?_⟩
        · rw [e]
          have : (⟨(List.replicate n.toNat z.cps.toList).flatten.toArray⟩ : Str).length = n.toNat * z.cps.toList.length := by simp [Str.length]
          rw [this, ← lz, Nat.mul_comm]; exact hz
        · rw [e]; exact q
def rMulA (K : PySem.W.Frag) : R2 := fun x y H Q => rI CMul (fun i j => .int (i * j)) x y H Q ∨ rMulS x y H Q ∨ rRep x y H Q
theorem o_mul : OpR X (binaryOp .Mult) (rMulA X.K) := opr_or op_mul (opr_or o_mul_str op_rep)

/-- a[i]: list, tuple, text, dict -/
def rIxD : R2 := fun x y H Q => ∃ a v, x = .ref a ∧ DGet H a y (some v) ∧ Q v H
theorem ix_dict (hu : X.A.units + 1 < cLine) : IxR X Nm.rIxD := by
  intro value slice pins s σ H x y v u Q I rx ry h hs
  obtain ⟨a, z, rfl, g, q⟩ := h
  cases (show v = Value.ref a from rx)
  exact PyProof.Rows.tail_any (dict_typeIs I g) PySem.F.slot_dict_getitem.lookup (d_getItem hu I g ry fun w' s' I' rw' => ⟨z, H, I', rw', q⟩) hs
def rIxA (K : PySem.W.Frag) : R2 := fun x y H Q => rIx K x y H Q ∨ Nm.rIxD x y H Q
theorem ix_any (hu : X.A.units + 1 < cLine) : IxR X (rIxA X.K) := ix_seq.or (ix_dict hu)
/-- a[i:j] -/
def rSlAny (K : PySem.W.Frag) : V → Option Int → Option Int → Hp → VK → Prop := fun x lo hi H Q => rSlS x lo hi H Q ∨ rSlL K x lo hi H Q ∨ rSlA K x lo hi H Q
theorem sl_any : SlR X (rSlAny X.K) := sl_str.or (sl_list.or sl_tupA)
abbrev tSome (t : TE) : TO := tPart t
abbrev tNo : TO := tNoPart
/-- == != -/
def rEqA (K : PySem.W.Frag) : R2 := fun x y H Q => rEq x y H Q ∨ rEqD K x y H Q
def rNeA (K : PySem.W.Frag) : R2 := fun x y H Q => rNe x y H Q ∨ rNeD K x y H Q
theorem o_eq (hu : X.A.units + 64 < cLine) : OpR X (compareOp .Eq) (rEqA X.K) := opr_or op_eq (op_eqD hu)
theorem o_ne (hu : X.A.units + 64 < cLine) : OpR X (compareOp .NotEq) (rNeA X.K) := opr_or op_ne (op_neD hu)
def rIsNone : R2 := fun x y H Q => y = .non ∧ Q (.bl (decide (x = .non))) H
def rNotNone : R2 := fun x y H Q => y = .non ∧ Q (.bl (!decide (x = .non))) H
def rAbs : List V → Hp → VK → Prop := fun xs H Q => ∃ i, xs = [.int i] ∧ Q (.int (if i < 0 then -i else i)) H
def rMax2 : List V → Hp → VK → Prop := fun xs H Q => ∃ i j, xs = [.int i, .int j] ∧ Q (.int (if j > i then j else i)) H
def rMin2 : List V → Hp → VK → Prop := fun xs H Q => ∃ i j, xs = [.int i, .int j] ∧ Q (.int (if j < i then j else i)) H
def rJoin (K : PySem.W.Frag) : V → List V → Hp → VK → Prop := fun x xs H Q => ∃ a p, ∃ ys : List Str, x = .str a ∧ xs = [.ref p] ∧ (SqL K H p (ys.map V.str) ∨ SqT K H p (ys.map V.str)) ∧
  (ys.map (·.length)).sum + ys.length * a.length ≤ 16777216 ∧ Q (.str (Txt.join a ys)) H
def rIsiA (K : PySem.W.Frag) : List V → Hp → VK → Prop := fun xs H Q => rIsi K xs H Q ∨ rIsiT K xs H Q
theorem c_isi : CallR X (.builtin "isinstance") (rIsiA X.K) := calr_or call_isi call_isiT
def rLtA (K : PySem.W.Frag) : R2 := rCmpA (fun i j => decide (i < j)) fun a b => decide (a < b)
def rLeA (K : PySem.W.Frag) : R2 := rCmpA (fun i j => decide (i ≤ j)) fun a b => !decide (b < a)
def rGtA (K : PySem.W.Frag) : R2 := rCmpA (fun i j => decide (j < i)) fun a b => decide (b < a)
def rGeA (K : PySem.W.Frag) : R2 := rCmpA (fun i j => decide (j ≤ i)) fun a b => !decide (a < b)
theorem x_lt (hu : X.A.units < cLine) : OpR X (compareOp .Lt) (rLtA X.K) := o_lt
theorem x_le (hu : X.A.units < cLine) : OpR X (compareOp .LtE) (rLeA X.K) := o_le
theorem x_gt (hu : X.A.units < cLine) : OpR X (compareOp .Gt) (rGtA X.K) := o_gt
theorem x_ge (hu : X.A.units < cLine) : OpR X (compareOp .GtE) (rGeA X.K) := o_ge

/-! ### repr -/
def rReprD (K : PySem.W.Frag) : List V → Hp → VK → Prop := fun xs H Q => ∃ v d, xs = [v] ∧ Dp K H v d ∧ d.showable = true ∧ d.depth ≤ 40 ∧ d.shown.length ≤ sizeLine ∧ Q (.str d.shown) H
theorem reads_of_ref {h : Heap} {u : Value} {d : PyData} {as : List Addr} (r : Reads h u d as) : d.hasDict = false → (∃ a, u = .ref a) ∨ ((d = .none ∧ u = .none) ∨ (∃ b, d = .bool b ∧ u = .bool b) ∨ (∃ i t, d = .int i ∧ u = .int i t) ∨ ∃ x t, d = .str x ∧ u = .str x t) := fun hd => by
  cases r with
  | none => exact .inr (.inl ⟨rfl, rfl⟩)
  | bool b => exact .inr (.inr (.inl ⟨b, rfl, rfl⟩))
  | int i t => exact .inr (.inr (.inr (.inl ⟨i, t, rfl, rfl⟩)))
  | str x t => exact .inr (.inr (.inr (.inr ⟨x, t, rfl, rfl⟩)))
  | list => exact .inl ⟨_, rfl⟩
  | tuple => exact .inl ⟨_, rfl⟩
  | dict => exact .inl ⟨_, rfl⟩
mutual
theorem dp_noDict {K : PySem.W.Frag} {H : Hp} : ∀ (d : PyData) {v : V}, Dp K H v d → d.hasDict = false
  | .none, _, _ => by simp only [PyData.hasDict]
  | .bool _, _, _ => by simp only [PyData.hasDict]
  | .int _, _, _ => by simp only [PyData.hasDict]
  | .str _, _, _ => by simp only [PyData.hasDict]
  | .list ds, _, h => by cases h with | lst _ l => simp only [PyData.hasDict]; exact dp_noDictL ds l
  | .tuple ds, _, h => by cases h with | tup _ l => simp only [PyData.hasDict]; exact dp_noDictL ds l
  | .dict _, _, h => by cases h
theorem dp_noDictL {K : PySem.W.Frag} {H : Hp} : ∀ (ds : List PyData) {vs : List V}, DpAll K H vs ds → PyData.hasDictAll ds = false
  | [], _, _ => by simp only [PyData.hasDictAll]
  | d :: ds, _, h => by cases h with | cons a b => simp only [PyData.hasDictAll, dp_noDict d a, dp_noDictL ds b, Bool.or_self]
end
theorem c_reprD (hg : X.A.guards = some []) (hu : X.A.units + 64 < cLine) : CallR X (.builtin "repr") (rReprD X.K) := by
  intro pins s σ H xs us Q I r h
  obtain ⟨v, d, rfl, dp, hs, hd, hz, q⟩ := h
  obtain ⟨u, rfl, ru⟩ := vals1 r
  obtain ⟨as, rd⟩ := Dp.reads I d v u dp ru
  rcases reads_of_ref rd (dp_noDict d dp) with ⟨a, rfl⟩ | ⟨rfl, rfl⟩ | ⟨b, rfl, rfl⟩ | ⟨i, t, rfl, rfl⟩ | ⟨x, t, rfl, rfl⟩
  · exact repr_of_reads' rd hs (fun e => absurd e (by rw [dp_noDict d dp]; decide)) hg (by omega) (fun _ _ e => e) (fun h' u tk hk => ⟨.str d.shown, H, I.kept (t' := tk) hk, ⟨_, rfl⟩, q⟩) hz
  · have e : PyData.none.shown = "None" := by simp only [PyData.shown]
    rw [e] at q
    exact PySem.P.repr_of_none ⟨.str _, H, I.tok _, ⟨_, rfl⟩, q⟩
  · have e : (PyData.bool b).shown = if b = true then Str.ofString "True" else Str.ofString "False" := by simp only [PyData.shown]
    rw [e] at q
    exact PySem.P.repr_of_bool ⟨.str _, H, I.tok _, ⟨_, rfl⟩, q⟩
  · have e : (PyData.int i).shown = toString i := by simp only [PyData.shown]
    rw [e] at q
    exact PySem.P.repr_of_int (by simpa [PyData.showable] using hs) ⟨.str _, H, I.tok _, ⟨_, rfl⟩, q⟩
  · have e : (PyData.str x).shown = reprText x := by simp only [PyData.shown]
    rw [e] at q hz
    exact PySem.P.repr_of_str ⟨.str _, H, I.tok _, ⟨_, rfl⟩, q⟩ hz
/-! ### repr of a dict whose values are plain -/
def kPy : Key → PyData
  | .inl i => .int i
  | .inr x => .str x
def vPy : V → PyData
  | .bl b => .bool b
  | .int i => .int i
  | .str x => .str x
  | _ => .none
def kvPy (kvs : List (Key × V)) : List (PyData × PyData) := kvs.map fun p => (kPy p.1, vPy p.2)
def rReprK : List V → Hp → VK → Prop := fun xs H Q => ∃ a kvs, xs = [.ref a] ∧ Rd H a (.dK kvs) ∧ kvs.all (fun p => flatV p.2) = true ∧ (PyData.dict (kvPy kvs)).showable = true ∧ (PyData.dict (kvPy kvs)).shown.length ≤ sizeLine ∧ (PyData.dict (kvPy kvs)).depth ≤ 40 ∧
  Q (.str (PyData.dict (kvPy kvs)).shown) H
theorem reads_flat {h : Heap} {v : V} {u : Value} (f : flatV v = true) (r : RelV v u) : Reads h u (vPy v) [] := by
  cases v with
  | non => cases r; exact .none
  | bl b => cases r; exact .bool b
  | int i => obtain ⟨t, rfl⟩ := r; exact .int i t
  | str x => obtain ⟨t, rfl⟩ := r; exact .str x t
  | _ => cases f
theorem reads_key {h : Heap} {k : Key} {u : Value} (r : keyIs k u = true) : Reads h u (kPy k) [] := by
  rcases keyIs_shape r with ⟨i, t, rfl, rfl⟩ | ⟨x, t, rfl, rfl⟩
  · exact .int i t
  · exact .str x t
theorem reads_pairs {P : Program} {w : World} {h : Heap} : ∀ {es : List DictEntry} {vs : List (Key × Value)} {kvs : List (Key × V)}, Pairs (mixKind P w) es vs → KV kvs vs → kvs.all (fun p => flatV p.2) = true →
    ReadsAll h (es.map (·.key)) ((kvPy kvs).map (·.1)) [] ∧ ReadsAll h (es.map (·.val)) ((kvPy kvs).map (·.2)) []
  | es, vs, kvs, p, r, f => by
    induction p generalizing kvs with
    | nil => cases r; exact ⟨.nil, .nil⟩
    | cons a b c ih =>
      cases r with
      | cons q t =>
        rw [List.all_cons, Bool.and_eq_true] at f
        obtain ⟨h1, h2⟩ := ih _ t f.2
        refine ⟨?_, ?_⟩
        · exact ReadsAll.cons (as := []) (reads_key (by rw [q.1]; exact a)) h1
        · exact ReadsAll.cons (as := []) (reads_flat f.1 (by show RelV _ (DictEntry.val _); rw [b]; exact q.2)) h2
theorem c_reprK (hg : X.A.guards = some []) (hu : X.A.units + 64 < cLine) : CallR X (.builtin "repr") rReprK := by
  intro pins s σ H xs us Q I r h
  obtain ⟨a, kvs, rfl, rd, fl, hs, hz, hd, q⟩ := h
  obtain ⟨u, rfl, ru⟩ := vals1 r
  cases (show u = Value.ref a from ru)
  obtain ⟨_, ns, vs, rv, o, es, ep, h1, h2, h3, _, h4, _⟩ := dk_rd I.hok rd
  obtain ⟨k1, k2⟩ := reads_pairs (h := s.heap) h4 rv fl
  have rr : Reads s.heap (.ref a) (.dict (kvPy kvs)) ([a] ++ [] ++ []) := Reads.dict h1 h2.1 h3 k1 k2
  exact repr_of_reads' rr hs (fun _ m => by
    have e : sysModules = a := by simpa using m
    rw [← e] at ns
    simp at ns) hg (by omega) (fun _ _ e => e) (fun h' u tk hk => ⟨.str _, H, I.kept (t' := tk) hk, ⟨_, rfl⟩, q⟩) hz
def rReprA (K : PySem.W.Frag) : List V → Hp → VK → Prop := fun xs H Q => rReprD K xs H Q ∨ rReprK xs H Q
theorem c_repr (hg : X.A.guards = some []) (hu : X.A.units + 64 < cLine) : CallR X (.builtin "repr") (rReprA X.K) := calr_or (c_reprD hg hu) (c_reprK hg hu)
end
end Nm

set_option Elab.async false
set_option linter.all false
set_option maxRecDepth 100000
set_option maxHeartbeats 2000000
namespace Nm
open PySem PySem.Spec L2 PyProof.Rows

/-! ### defs whose promise wants that no repr is under way -/
structure FnOkG (P : Program) (w : World) (K : PySem.W.Frag) (mg : Str → Option Value) (base : Heap) (CX : CXT) (k : Nat) (f : Addr) (fd : FuncData) (ps : List Str) (sp : Sp) : Prop where
  len : ∀ vs H Q E, sp vs H Q E → vs.length = ps.length
  run : ∀ (A : Around) (outer : List Env) (s : Shared) (H : Hp) (args : Args) (us : List Value) (vs : List V) (Q : VK) (E : XK), A.guards = some [] → Room k A → Env0 P w K mg base A outer s H → BindsTo s fd args (ps.zip us) →
    Vals vs us → sp vs H Q E → codeAny (model P w) A (.call (.ref f) args) (CR CX outer P w H s Q E) s
section
variable {P : Program} {w : World} {K : PySem.W.Frag} {mg : Str → Option Value} {base : Heap} {CX : CXT} {k : Nat} {f : Addr} {fd : FuncData} {ps : List Str} {sp : Sp}
theorem FnOkG.mono {j : Nat} (F : FnOkG P w K mg base CX j f fd ps sp) (h : j ≤ k) : FnOkG P w K mg base CX k f fd ps sp :=
  ⟨F.len, fun A outer s H args us vs Q E g hr => F.run A outer s H args us vs Q E g (hr.mono h)⟩
/-- the body, from its term and its reading -/
theorem fnG {x qual : Str} {st : Stmt} {N : List Str} (F : Fun K x qual st f fd) (S : FnScope N ps (defScope st)) (len : ∀ vs H Q E, sp vs H Q E → vs.length = ps.length)
    (hbody : ∀ (cdv : Value) (A : Around) (outer : List Env) (s : Shared) (H : Hp) (vs : List V) (Q : VK) (E : XK), A.guards = some [] → Room k (A.deeper (envOfC qual (defScope st) s.heap.objs.size f cdv)) → sp vs H Q E →
      ∃ t, PSs (cxOf CX P w K mg base N qual (defScope st) f cdv A outer s H E) (defBody st) t ∧ t { nx := fun _ H' => Q .non H', rt := Q } (start N vs) H) : FnOkG P w K mg base CX (k + 1) f fd ps sp := by
  refine ⟨len, fun A outer s H args us vs Q E g hr e0 hb r hsp => ?_⟩
  -- a promise that speaks of this one call alone
  have one : FnOk P w K mg base CX (k + 1) f fd ps (fun vs' H' Q' E' => A.guards = some [] ∧ vs' = vs ∧ H' = H ∧ Q' = Q ∧ E' = E) → codeAny (model P w) A (.call (.ref f) args) (CR CX outer P w H s Q E) s := fun F' =>
    F'.run A outer s H args us vs Q E hr e0 hb r ⟨g, rfl, rfl, rfl, rfl⟩
  obtain ⟨oc, od, kV, doc, pm, an, cdv, ct, osl, hfd, lk, hcd⟩ := F.ex
  subst hfd
  have hl := len _ _ _ _ hsp
  have KX : K.In s.heap := e0.mod.kin.keeps fun b o e => (e0.bs b o e).1
  have kinds : ∀ y ∈ ps.zip us, (defScope st).names.lookup y.1 = some .local ∨ ((defScope st).names.lookup y.1 = some .cell ∧ ((cellsFrom (s.heap.objs.size + 1) (defScope st).names []).lookup y.1).isSome = true) := by
    rintro ⟨n, v⟩ hy
    have hn : n ∈ ps := (List.of_mem_zip hy).1
    exact (S.par n hn).imp id fun c => ⟨c, PySem.W.cellsFrom_some _ _ _ (Or.inl c)⟩
  refine codeAny_call_function hr.depth (KX _ _ lk) rfl S.co S.gen rfl (PySem.W.codeRec_of KX hcd) (hb _ _ _ _ ?_)
  refine wpAny_newFunctionEnv_cells S.kind kinds fun env he s1 x => ?_
  subst he
  refine ⟨(e0.mod.nolimit.keeps fun b o e => (e0.bs b o e).1).keeps x.toInCall.keep, codeAny_func ?_⟩
  obtain ⟨t, ht, hq⟩ := hbody cdv A outer s H vs Q E g (hr.deeper _) hsp
  have J0 := inv_start (CX := CX) (E := E) S hr.hd e0 hl r x
  refine wpAny_mono (ht.run [] s1 (start N vs) H _ J0 hq) (fun fl s' hs => ?_) fun e s' hs => hs
  match fl, hs with
  | .ret u, ⟨v, _, H', J, rv, q⟩ => exact ⟨v, H', J.os, J.bare, J.base, J.hok, rv, q⟩
  | .next, ⟨_, H', J, q⟩ => exact ⟨.non, H', J.os, J.bare, J.base, J.hok, rfl, q⟩
  | .brk, ⟨_, _, _, q⟩ => exact q.elim
  | .cont, ⟨_, _, _, q⟩ => exact q.elim
theorem fnG0 {x qual : Str} {st : Stmt} {N : List Str} (F : Fun K x qual st f fd) (S : FnScope N ps (defScope st)) (len : ∀ vs H Q E, sp vs H Q E → vs.length = ps.length)
    (hbody : ∀ (cdv : Value) (A : Around) (outer : List Env) (s : Shared) (H : Hp) (vs : List V) (Q : VK) (E : XK), A.guards = some [] → Room k (A.deeper (envOfC qual (defScope st) s.heap.objs.size f cdv)) → sp vs H Q E →
      ∃ t, PSs (cxOf CX0 P w K mg base N qual (defScope st) f cdv A outer s H E).nox (defBody st) t ∧ t { nx := fun _ H' => Q .non H', rt := Q } (start N vs) H) : FnOkG P w K mg base CX0 (k + 1) f fd ps sp :=
  fnG F S len fun cdv A outer s H vs Q E g hr h => by
    obtain ⟨t, h1, h2⟩ := hbody cdv A outer s H vs Q E g hr h
    exact ⟨t, h1.nox, h2⟩
end
section
variable {X : Cx} {CX : CXT} {k : Nat} {f : Addr} {fd : FuncData} {ps : List Str} {sp : Sp} {dvs : List V} {ds : List Value} {E : XK} {x : Str} {p pos : Pos} {e : Expr} {es : List Expr} {t : TA}
theorem pe_callG (F : FnOkG X.prog X.w X.K X.mg X.base CX k f fd ps sp) (hr : Room k X.A) (g : X.A.guards = some []) (hg : Gl X x) (hm : X.mg x = some (.ref f)) (hk : PySem.W.keepIn X.K (.ref f) = true) (hb : Binds X.K fd ps ds) (hd : Vals dvs ds) (hx : Passes CX X E)
    (ha : PA X (e :: es) t) (hdb : (x == ("__debug__" : Str)) = false := by decide) (he : starEach (e :: es) X.env = (false, eval e X.env) :: starEach es X.env := by rfl) (hpl : (backTo pos (starEach es X.env)).any (·.1) = false := by rfl) :
    PE X (.Call (.Name x p) (e :: es) [] pos) (tCall sp dvs E t) :=
  -- for this context the promise holds whatever stands around, so the plain rule serves
  ⟨fun pins s σ H Q I h => by
    refine wpAny_Call_Name_kw (ld_glob I hg hm ?_ hdb)
    refine PySem.W.callWith_K (h₀ := X.base) I.ok.mod.kin hk (thn (ha.run pos pins s σ H _ I h) fun us s1 ⟨vs, H1, I1, r, q⟩ => ⟨I1.kIn, ?_⟩) he hpl
    have r2 : Vals (vs ++ dvs) (us ++ ds) := r.append hd
    have hl : (us ++ ds).length = ps.length := r2.length ▸ F.len _ _ _ _ q
    refine wpAny_call (codeAny_mono (F.run X.A X.stack s1 H1 ⟨us, []⟩ (us ++ ds) (vs ++ dvs) Q E g hr I1.env0 (hb s1 us I1.kIn hl) r2 q) fun res s' hq => ?_)
    match res, hq with
    | .error e, hq => exact hx pins σ H1 s1 e s' I1 hq
    | .ok (.ret u), hq => exact I1.after hq
    | .ok .next, hq => exact hq.elim
    | .ok .brk, hq => exact hq.elim
    | .ok .cont, hq => exact hq.elim⟩
end

/-! ### the end of a law whose def wants that no repr is under way -/
theorem law_callG {P : Program} {w : World} {K : PySem.W.Frag} {mg mb : Str → Option Value} {k : Nat} {fa a : Addr} {fd : FuncData} {x : Str} {sp : Sp} {s1 : Shared} {vs : List Value} {ns : List Int}
    (KX : K.In s1.heap) (hns : s1.heap.Ns mainGlobals mg) (hb : s1.heap.Ns builtinsNs mb) (hbb : ∀ x : Str, x ≠ "__name__" → mb x = bootBuiltins x) (hlim : s1.heap.NoLimit) (hg : s1.gens = #[])
    (ha : s1.heap.get? a = some { cls := .type "list", data := .seq vs.toArray }) (hi : IntsAre vs ns) (hl : ns.length ≤ sizeLine) (hr : Room k callerA)
    (F : ∀ base : Heap, K.In base → base.Ns mainGlobals mg → FnOkG P w K mg base CX0 k fa fd [x] sp) (hbind : ∀ (s : Shared) (u : Value), BindsTo s fd ⟨[u], []⟩ [(x, u)])
    (hsp : ∀ H : Hp, Only H → SqL K H a (ns.map V.int) → sp [.ref a] H (fun v _ => v = .bl true) fun _ _ _ => False) :
    codeAny (model P w) callerA (.call (.ref fa) ⟨[.ref a], []⟩) (fun r s' => r = .ok (.ret (.bool true)) ∧ OldK s1.heap s'.heap ∧ s'.os = s1.os ∧ AllBare s'.gens) s1 := by
  have rv := vals_ints hi
  -- the heap tracks the script at most
  have main : ∀ H : Hp, Only H → SqL K H a (ns.map V.int) → HOk P w H s1.heap → (∀ b u, H b = some u → b = a ∧ K.lookup a = none) →
      codeAny (model P w) callerA (.call (.ref fa) ⟨[.ref a], []⟩) (fun r s' => r = .ok (.ret (.bool true)) ∧ OldK s1.heap s'.heap ∧ s'.os = s1.os ∧ AllBare s'.gens) s1 := by
    intro H only seq hok one
    have free : ∀ {b : Addr} {o : Obj} {es : Array DictEntry} {ep : Nat}, s1.heap.get? b = some o → o.data = .dict es ep → H b = none := by
      intro b o es ep e d
      cases q : H b with
      | none => rfl
      | some u =>
        obtain ⟨rfl, _⟩ := one b u q
        rw [ha] at e
        cases e
        exact nomatch d
    have ns1 : ∀ {b : Addr} {m : Str → Option Value}, s1.heap.Ns b m → (hidT s1.heap H).Ns b m := by
      rintro b m ⟨o, es, ep, e, d, r⟩
      exact ⟨o, es, ep, hidT_get e (free e d), d, r⟩
    have kin : K.In (hidT s1.heap H) := by
      intro b o e
      refine hidT_get (KX b o e) ?_
      cases q : H b with
      | none => rfl
      | some u =>
        obtain ⟨rfl, z⟩ := one b u q
        rw [z] at e
        cases e
    have md : Mod K mg (hidT s1.heap H) := by
      obtain ⟨mc, h1, h2⟩ := hlim
      exact ⟨kin, ns1 hns, ⟨mb, ns1 hb, hbb⟩, ⟨mc, ns1 h1, h2⟩⟩
    have e0 : Env0 P w K mg (hidT s1.heap H) callerA [] s1 H :=
      ⟨rfl, md, fun b o e => of_hidT e, Nat.le_of_eq (hidT_size _ _), trivial, fun b hb => absurd hb (by simp [frs]), hok, .of_eq hg⟩
    refine codeAny_mono ((F _ kin (ns1 hns)).run callerA [] s1 H ⟨[.ref a], []⟩ [.ref a] [.ref a] _ _ rfl hr e0 (hbind s1 (.ref a)) (.cons rfl .nil) (hsp H only seq)) fun r s' h => ?_
    match r, h with
    | .error e, h => exact h.elim
    | .ok .next, h => exact h.elim
    | .ok .brk, h => exact h.elim
    | .ok .cont, h => exact h.elim
    | .ok (.ret u), ⟨v, H', os, bare, un, hok', r', q⟩ =>
      have q' : v = .bl true := q
      subst q'
      obtain rfl : u = Value.bool true := r'
      refine ⟨rfl, OldK.of_keep fun b o e => ?_, os, bare⟩
      cases z : H b with
      | none => exact un.keep b o e z (by simp [frs]) (by simp)
      | some u =>
        rcases only b with n | ⟨ob, xs, n⟩
        · rw [z] at n; cases n
        · have same : s1.heap.get? b = some ob := (hok b _ n).1
          have after : s'.heap.get? b = some ob := (hok' b _ (un.frzs b ob _ n)).1
          rw [e] at same
          cases same
          exact after
  cases hk : K.lookup a with
  | some o =>
    have e := KX a o hk
    rw [ha] at e
    cases e
    refine main (fun _ => none) (fun _ => .inl rfl) (.inr ⟨_, vs.toArray, _, hk, rfl, rfl, rfl, ?_, ?_⟩) (fun b u z => ?_) (fun b u z => ?_)
    · rw [List.size_toArray, hi.length]; exact hl
    · simpa using rv
    · exact nomatch z
    · exact nomatch z
  | none =>
    have at_a : ∀ b u, (if b = a then some (HO.frz { cls := .type "list", data := .seq vs.toArray } (.lst (ns.map V.int))) else none) = some u → b = a ∧ u = HO.frz { cls := .type "list", data := .seq vs.toArray } (.lst (ns.map V.int)) := by
      intro b u z
      by_cases hb : b = a
      · rw [if_pos hb] at z; exact ⟨hb, (Option.some.inj z).symm⟩
      · rw [if_neg hb] at z; cases z
    refine main (fun b => if b = a then some (.frz { cls := .type "list", data := .seq vs.toArray } (.lst (ns.map V.int))) else none) (fun b => ?_) (.inl (.inr ⟨{ cls := .type "list", data := .seq vs.toArray }, if_pos rfl⟩)) (fun b u z => ?_) (fun b u z => ⟨(at_a b u z).1, hk⟩)
    · by_cases hb : b = a
      · exact .inr ⟨_, _, if_pos hb⟩
      · exact .inl (if_neg hb)
    · obtain ⟨rfl, rfl⟩ := at_a b u z
      refine ⟨ha, ?_, vs, _, rv, ha⟩
      rw [List.length_map]; exact hl
theorem walkG {l : PySem.W.OpenLaw} {n k : Nat} {q : Program} {loose : List Str} {XP : (Str → Option Value) → Heap → Prop} {YP : World → Heap → Prop} {d : DefRec} {K : Params → PySem.W.Frag} {sp : PySem.W.Frag → Sp} {x : Str}
    (hn : l.most = some n) (hn2 : n ≤ sizeLine) (hdf : d.params.defaults = []) (hr : Room k callerA) (hY : ∀ (w : World) (h : Heap), YP w h → (K w.params).In h)
    (F : ∀ (w : World) (mg : Str → Option Value) (fa : Addr) (h : Heap), (K w.params).In h → h.Ns mainGlobals mg → mg d.name = some (.ref fa) →
      ∃ fd : FuncData, (∀ (s : Shared) (u : Value), BindsTo s fd ⟨[u], []⟩ [(x, u)]) ∧ ∀ base : Heap, (K w.params).In base → base.Ns mainGlobals mg → FnOkG l.prog w (K w.params) mg base CX0 k fa fd [x] (sp (K w.params)))
    (hsp : ∀ (K : PySem.W.Frag) (H : Hp) (a : Addr) (ns : List Int), ns.length ≤ n → Only H → SqL K H a (ns.map V.int) → sp K [.ref a] H (fun v _ => v = .bl true) fun _ _ _ => False) :
    PySem.W.WalkO q loose XP YP l.row.toRowW d [] (fun f vs => PySem.call f vs) := by
  refine Att.attach_call hn hdf ?_
  intro w s0 s1 mg mb fa o pm cd doc a vs ns G Y ho hd hcd hmg hobj hints hlen hg
  obtain ⟨fd, hb, hF⟩ := F w mg fa _ (hY w _ Y) G.T.g hmg
  exact law_callG (hY w _ Y) G.T.g G.T.b G.T.builtins G.T.nolimit hg hobj hints (Nat.le_trans hlen hn2) hr hF hb fun H hO hS => hsp (K w.params) H a ns hlen hO hS
end Nm

set_option Elab.async false
set_option linter.all false
set_option maxRecDepth 100000
set_option maxHeartbeats 1000000
namespace Nm
open PySem PySem.Spec L2
section
variable {K : PySem.W.Frag} {F H : Hp} {σ : L2.St} {ta tb tc te : TE} {d : D}
theorem rvA_eq_int {i j : Int} : RvD K (rEqA K) (.int i) (.int j) (.bl (decide (i = j))) := fun F H x y s hx hy Q q => .inl (rv_eq_int (K := K) F H x y s hx hy Q q)
theorem rvA_eq_str {i j : Str} : RvD K (rEqA K) (.str i) (.str j) (.bl (decide (i = j))) := fun F H x y s hx hy Q q => .inl (rv_eq_str (K := K) F H x y s hx hy Q q)
theorem rvA_ne_int {i j : Int} : RvD K (rNeA K) (.int i) (.int j) (.bl (!decide (i = j))) := fun F H x y s hx hy Q q => .inl (rv_ne_int (K := K) F H x y s hx hy Q q)
theorem rvA_ne_str {i j : Str} : RvD K (rNeA K) (.str i) (.str j) (.bl (!decide (i = j))) := fun F H x y s hx hy Q q => .inl (rv_ne_str (K := K) F H x y s hx hy Q q)
theorem rc_isiA {t n : String} {b : Bool} (e : tyD d = some t) (hb : kitB t n = some b) : RcD K (rIsiA K) [d, .ty n] (.bl b) := fun F H xs s hx Q q => .inl (rc_isi (K := K) e hb F H xs s hx Q q)
theorem rv_lt_int {i j : Int} : RvD K (rLtA K) (.int i) (.int j) (.bl (decide (i < j))) := rv_cmp_int
theorem rv_le_int {i j : Int} : RvD K (rLeA K) (.int i) (.int j) (.bl (decide (i ≤ j))) := rv_cmp_int
theorem rv_gt_int {i j : Int} : RvD K (rGtA K) (.int i) (.int j) (.bl (decide (j < i))) := rv_cmp_int
theorem rv_ge_int {i j : Int} : RvD K (rGeA K) (.int i) (.int j) (.bl (decide (j ≤ i))) := rv_cmp_int
theorem rv_mul_int {i j : Int} (h : CMul i j) : RvD K (rMulA K) (.int i) (.int j) (.int (i * j)) := fun F H x y s hx hy Q q => .inl (rv_I (g := fun i j => i * j) h F H x y s hx hy Q q)
theorem rv_ix_str {z : Str} {i : Int} {c : Nat} (hz : z.length ≤ sizeLine) (h : atI z.cps.toList i = some c) : RvD K (rIxA K) (.str z) (.int i) (.str ⟨#[c]⟩) := fun F H x y s hx hy Q q => by
  cases hx; cases hy
  exact .inl (.inr (.inr ⟨z, i, c, rfl, rfl, hz, h, q _ F H (Ext.refl s) (.str _)⟩))
theorem atI_den {F : Hp} {xs : List V} {ds : List D} {i : Int} (l : DenL K F xs ds) (h : atI ds i = some d) : ∃ v, atI xs i = some v ∧ Den K F v d := by
  unfold atI at h ⊢
  rw [l.length]
  cases e : ixN ds.length i with
  | none => rw [e] at h; cases h
  | some j =>
    rw [e] at h
    exact l.get h
theorem rv_ix_lst {ds : List D} {i : Int} (h : atI ds i = some d) : RvD K (rIxA K) (.lst ds) (.int i) d := fun F H x y s hx hy Q q => by
  cases hy
  cases hx with
  | lst a l =>
    obtain ⟨v, h1, h2⟩ := atI_den l h
    exact .inl (.inl ⟨_, _, i, v, rfl, rfl, SqL.of (s _ _ a), h1, q _ F H (Ext.refl s) h2⟩)
theorem rv_ix_tup {ds : List D} {i : Int} (h : atI ds i = some d) : RvD K (rIxA K) (.tup ds) (.int i) d := fun F H x y s hx hy Q q => by
  cases hy
  cases hx with
  | tup a l =>
    obtain ⟨v, h1, h2⟩ := atI_den l h
    exact .inl (.inr (.inl ⟨_, _, i, v, rfl, rfl, same_t s a, h1, q _ F H (Ext.refl s) h2⟩))
theorem rc_abs {i : Int} : RcD K rAbs [.int i] (.int (if i < 0 then -i else i)) := fun F H xs s hx Q q => by
  cases hx with | cons h t => cases h; cases t; exact ⟨i, rfl, q _ F H (Ext.refl s) (.int _)⟩
theorem rc_max2 {i j : Int} : RcD K rMax2 [.int i, .int j] (.int (if j > i then j else i)) := fun F H xs s hx Q q => by
  cases hx with | cons h t => cases h; cases t with | cons h t => cases h; cases t; exact ⟨i, j, rfl, q _ F H (Ext.refl s) (.int _)⟩
theorem rc_min2 {i j : Int} : RcD K rMin2 [.int i, .int j] (.int (if j < i then j else i)) := fun F H xs s hx Q q => by
  cases hx with | cons h t => cases h; cases t with | cons h t => cases h; cases t; exact ⟨i, j, rfl, q _ F H (Ext.refl s) (.int _)⟩
theorem ev_chain {r r' : R2} {a b c : D} {p q : Bool} (ha : EvD K ta σ F a) (hb : EvD K tb σ F b) (hr : RvD K r a b (.bl p)) (hc : p = true → EvD K tc σ F c) (hr' : p = true → RvD K r' b c (.bl q)) : EvD K (tChain r r' ta tb tc) σ F (.bl (p && q)) := fun H s Q k =>
  ha H s _ fun x F1 H1 x1 d1 => (hb.up x1.f) H1 x1.s _ fun y F2 H2 x2 d2 => hr F2 H2 x y x2.s (d1.up x2.f) d2 _ fun z F3 H3 x3 d3 => by
    cases d3
    refine ⟨p, rfl, ?_⟩
    cases p with
    | true =>
      rw [if_pos rfl]
      exact ((hc rfl).up (x1.f.trans (x2.f.trans x3.f))) H3 x3.s _ fun w F4 H4 x4 d4 => hr' rfl F4 H4 y w x4.s ((d2.up x3.f).up x4.f) d4 _ fun v F5 H5 x5 d5 => k v F5 H5 ((((x1.tr x2).tr x3).tr x4).tr x5) d5
    | false =>
      rw [if_neg (by decide)]
      exact k _ F3 H3 ((x1.tr x2).tr x3) (.bl false)
theorem if_some {α : Type} {c : Bool} {a d : α} (h : (if c = true then some a else none) = some d) : c = true ∧ a = d := by
  cases c with
  | true => exact ⟨rfl, Option.some.inj h⟩
  | false => cases h
theorem ev_andF (h1 : EvD K ta σ F (.bl false)) : EvD K (tAndV ta tb) σ F (.bl false) := ev_and (b := false) h1 (fun z => nomatch z)
theorem ev_andT {b : Bool} (h1 : EvD K ta σ F (.bl true)) (h2 : EvD K tb σ F (.bl b)) : EvD K (tAndV ta tb) σ F (.bl b) := ev_and (a := true) h1 fun _ => h2
theorem et_andF {tt tu : TT} (h1 : EvT K tt σ F false) : EvT K (tAnd tt tu) σ F false := et_and (b := false) h1 (fun z => nomatch z)
/-- sep.join(texts) -/
theorem ev_join {sep : Str} {ys : List Str} (h1 : EvD K ta σ F (.str sep)) (h2 : EvD K tb σ F (.lst (ys.map D.str))) (hz : (ys.map (·.length)).sum + ys.length * sep.length ≤ 16777216) : EvD K (tM1 (rJoin K) ta tb) σ F (.str (Txt.join sep ys)) := fun H s Q q =>
  h1 H s _ fun x F1 H1 x1 d1 => by
    cases d1
    refine ⟨⟨_, rfl⟩, (h2.up x1.f) H1 x1.s _ fun y F2 H2 x2 d2 => ?_⟩
    cases d2 with
    | lst a l =>
      rw [denL_strs l] at a
      exact ⟨sep, _, ys, rfl, rfl, .inl (SqL.of (x2.s _ _ a)), hz, q _ F2 H2 (x1.tr x2) (.str _)⟩
/-- text[lo:hi] -/
def EvO (K : PySem.W.Frag) (to : TO) (σ : L2.St) (F : Hp) (o : Option Int) : Prop := ∀ H, Same F H → ∀ Q : Option Int → Hp → Prop, (∀ F' H', Ext [] F H F' H' → Q o H') → to σ H Q
theorem eo_none : EvO K tNo σ F none := fun H s Q q => q F H (Ext.refl s)
theorem eo_some {i : Int} (h : EvD K te σ F (.int i)) : EvO K (tSome te) σ F (some i) := fun H s Q q => h H s _ fun v F1 H1 x1 d1 => by cases d1; exact ⟨i, rfl, q F1 H1 x1⟩
theorem EvO.up {to : TO} {o : Option Int} {F' : Hp} (h : EvO K to σ F o) (e : Same F F') : EvO K to σ F' o := fun H s Q q => h H (e.trans s) Q fun F2 H2 x => q _ H2 (Ext.uni e s x)
theorem ev_sl_str {z : Str} {tl th : TO} {lo hi : Option Int} (h : EvD K te σ F (.str z)) (hl : EvO K tl σ F lo) (hh : EvO K th σ F hi) (hz : z.length ≤ sizeLine) : EvD K (L2.tSl (rSlAny K) te tl th) σ F (.str (cutS z lo hi)) := fun H s Q q =>
  h H s _ fun x F1 H1 x1 d1 => (hl.up x1.f) H1 x1.s _ fun F2 H2 x2 => (hh.up (x1.f.trans x2.f)) H2 x2.s _ fun F3 H3 x3 => by
    cases d1
    exact .inl ⟨z, rfl, hz, q _ F3 H3 ((x1.tr x2).tr x3) (.str _)⟩
def cutD (xs : List D) (lo hi : Option Int) : List D := (xs.drop (HT.sIx xs.length 0 lo)).take (HT.sIx xs.length xs.length hi - HT.sIx xs.length 0 lo)
theorem DenL.drop : ∀ {vs : List V} {ds : List D} (n : Nat), DenL K F vs ds → DenL K F (vs.drop n) (ds.drop n)
  | _, _, 0, h => h
  | _, _, _ + 1, .nil => .nil
  | _, _, n + 1, .cons _ t => DenL.drop n t
theorem DenL.take : ∀ {vs : List V} {ds : List D} (n : Nat), DenL K F vs ds → DenL K F (vs.take n) (ds.take n)
  | _, _, 0, _ => .nil
  | _, _, _ + 1, .nil => .nil
  | _, _, n + 1, .cons h t => .cons h (DenL.take n t)
theorem ev_sl_lst {ds : List D} {tl th : TO} {lo hi : Option Int} (h : EvD K te σ F (.lst ds)) (hl : EvO K tl σ F lo) (hh : EvO K th σ F hi) : EvD K (L2.tSl (rSlAny K) te tl th) σ F (.lst (cutD ds lo hi)) := fun H s Q q =>
  h H s _ fun x F1 H1 x1 d1 => (hl.up x1.f) H1 x1.s _ fun F2 H2 x2 => (hh.up (x1.f.trans x2.f)) H2 x2.s _ fun F3 H3 x3 => by
    cases d1 with
    | lst a l =>
      refine .inr (.inl ⟨_, _, rfl, SqL.of (x3.s _ _ (x3.f _ _ (x2.f _ _ a))), fun p hp => q _ _ _ (((x1.tr x2).tr x3).tr (Ext.new x3.s hp)) (.lst upd_same ?_)⟩)
      refine DenL.up (F := F3) ?_ (Ext.new x3.s hp).f
      unfold cutD cutV
      rw [l.length]
      exact ((l.up (x2.f.trans x3.f)).drop _).take _
end

/-! ### starting a pure def -/
section
variable {K : PySem.W.Frag} {vs : List V} {H : Hp} {Q : VK} {E : XK} {f : List D → Option D}
theorem spP1 (h : spP K 1 f vs H Q E) : ∃ F v x d, vs = [v] ∧ Same F H ∧ Den K F v x ∧ f [x] = some d ∧ ∀ v F' H', Ext [] F H F' H' → Den K F' v d → Q v H' := by
  obtain ⟨F, ds, d, S, l, hf, hn, k⟩ := h
  match ds, l, hn with
  | [x], .cons hv .nil, _ => exact ⟨F, _, x, d, rfl, S, hv, hf, k⟩
theorem spP2 (h : spP K 2 f vs H Q E) : ∃ F v w x y d, vs = [v, w] ∧ Same F H ∧ Den K F v x ∧ Den K F w y ∧ f [x, y] = some d ∧ ∀ v F' H', Ext [] F H F' H' → Den K F' v d → Q v H' := by
  obtain ⟨F, ds, d, S, l, hf, hn, k⟩ := h
  match ds, l, hn with
  | [x, y], .cons hv (.cons hw .nil), _ => exact ⟨F, _, _, x, y, d, rfl, S, hv, hw, hf, k⟩
theorem spP3 (h : spP K 3 f vs H Q E) : ∃ F v w u x y z d, vs = [v, w, u] ∧ Same F H ∧ Den K F v x ∧ Den K F w y ∧ Den K F u z ∧ f [x, y, z] = some d ∧ ∀ v F' H', Ext [] F H F' H' → Den K F' v d → Q v H' := by
  obtain ⟨F, ds, d, S, l, hf, hn, k⟩ := h
  match ds, l, hn with
  | [x, y, z], .cons hv (.cons hw (.cons hu .nil)), _ => exact ⟨F, _, _, _, x, y, z, d, rfl, S, hv, hw, hu, hf, k⟩
end

/-! ### the bag of numbers that are drawn from -/
/-- a bag at b, from which n more numbers may be drawn -/
def BagAt (F H : Hp) (b : Addr) (n : Nat) : Prop := ∃ x y z : Int, Own F H b (.lst [.int x, .int y, .int z]) ∧ 0 ≤ x ∧ 0 ≤ y ∧ y < 2305843009213693951 ∧ 0 ≤ z ∧ z + n ≤ 1000000000
section
variable {F H F1 H1 : Hp} {b : Addr} {n m : Nat}
theorem BagAt.ext0 (w : BagAt F H b n) (x : Ext [] F H F1 H1) : BagAt F1 H1 b n := by
  obtain ⟨p, q, r, o, h⟩ := w
  exact ⟨p, q, r, o.ext0 x, h⟩
theorem BagAt.less (w : BagAt F H b n) (h : m ≤ n) : BagAt F H b m := by
  obtain ⟨p, q, r, o, h1, h2, h3, h4, h5⟩ := w
  exact ⟨p, q, r, o, h1, h2, h3, h4, by omega⟩
theorem BagAt.ne (w : BagAt F H b n) : H b ≠ none := by
  obtain ⟨p, q, r, o, h⟩ := w
  rw [o.h]; simp
theorem BagAt.nf (w : BagAt F H b n) : F b = none := by
  obtain ⟨p, q, r, o, h⟩ := w
  exact o.f
end
/-- an expression that may draw c numbers from the bag at b: what R says of its worth -/
def EvB (K : PySem.W.Frag) (b : Addr) (c : Nat) (te : TE) (σ : L2.St) (F : Hp) (R : D → Prop) : Prop :=
  ∀ H n, Same F H → BagAt F H b (n + c) → ∀ Q : VK, (∀ v d F' H', Ext [b] F H F' H' → BagAt F' H' b n → R d → Den K F' v d → Q v H') → te σ H Q
def EvBA (K : PySem.W.Frag) (b : Addr) (c : Nat) (ta : TA) (σ : L2.St) (F : Hp) (R : List D → Prop) : Prop :=
  ∀ H n, Same F H → BagAt F H b (n + c) → ∀ Q : List V → Hp → Prop, (∀ vs ds F' H', Ext [b] F H F' H' → BagAt F' H' b n → R ds → DenL K F' vs ds → Q vs H') → ta σ H Q
def EvBI (K : PySem.W.Frag) (b : Addr) (c : Nat) (wi : TI) (σ : L2.St) (F : Hp) (R : List D → Prop) : Prop :=
  ∀ H n, Same F H → BagAt F H b (n + c) → ∀ Q : It → Hp → Prop, (∀ J ds F' H', Ext [b] F H F' H' → BagAt F' H' b n → R ds → WalkD K F' J ds → Q J H') → wi σ H Q
/-- a def that draws at most c numbers from the bag, its first argument -/
def spB (K : PySem.W.Frag) (m c : Nat) (pre : List D → Prop) (post : List D → D → Prop) : Sp := fun vs H Q _ => ∃ F b n ws ds, vs = .ref b :: ws ∧ Same F H ∧ BagAt F H b (n + c) ∧ DenL K F ws ds ∧ ds.length = m ∧ pre ds ∧
  ∀ v d F' H', Ext [b] F H F' H' → BagAt F' H' b n → post ds d → Den K F' v d → Q v H'
section
variable {K : PySem.W.Frag} {F F' H : Hp} {σ : L2.St} {ta tb te : TE} {d : D} {b : Addr} {c c1 c2 n : Nat} {R RA RB : D → Prop}
theorem Ext.uniB {F1 F2 H1 H2 : Hp} (e : Same F F1) (e1 : Same F1 H1) (fb : F1 b = none) (x : Ext [b] F H1 F2 H2) : Ext [b] F1 H1 (Nm.uni F1 F2) H2 := by
  have e1' : Same F1 H2 := fun a o h => x.h a o (by
    intro z
    have : a = b := by simpa using z
    rw [this, fb] at h; cases h) (e1 a o h)
  refine ⟨uni_l, x.h, uni_s e1' x.s, fun a h k => ?_, x.k⟩
  unfold Nm.uni
  rw [h]
  exact x.n a (e.free h) k
theorem Ext.sameB {F1 H1 F2 H2 : Hp} (e1 : Same F1 H1) (fb : F1 b = none) (x : Ext [b] F H1 F2 H2) : Same F1 H2 := fun a o h => x.h a o (by
    intro z
    have : a = b := by simpa using z
    rw [this, fb] at h; cases h) (e1 a o h)
theorem BagAt.down {G : Hp} (w : BagAt F' H b n) (e : Same F F') : BagAt F H b n := by
  obtain ⟨p, q, r, o, h⟩ := w
  exact ⟨p, q, r, ⟨e.free o.f, o.h⟩, h⟩
theorem BagAt.fz {G : Hp} (w : BagAt F H b n) (h : G b = none) : BagAt G H b n := by
  obtain ⟨p, q, r, o, k⟩ := w
  exact ⟨p, q, r, ⟨h, o.h⟩, k⟩
theorem EvB.up (h : EvB K b c te σ F R) (e : Same F F') : EvB K b c te σ F' R := fun H n s w Q q => h H n (e.trans s) (w.fz (e.free w.nf)) Q fun v d F2 H2 x w2 r dv => by
  have x' := Ext.uniB e s w.nf x
  exact q v d _ H2 x' (w2.fz (x'.n b w.nf w.ne)) r (dv.up (uni_r (Ext.sameB s w.nf x) x.s))
theorem EvBA.up {ta : TA} {R : List D → Prop} (h : EvBA K b c ta σ F R) (e : Same F F') : EvBA K b c ta σ F' R := fun H n s w Q q => h H n (e.trans s) (w.fz (e.free w.nf)) Q fun v d F2 H2 x w2 r dv => by
  have x' := Ext.uniB e s w.nf x
  exact q v d _ H2 x' (w2.fz (x'.n b w.nf w.ne)) r (dv.up (uni_r (Ext.sameB s w.nf x) x.s))
theorem eb_of (h : EvD K te σ F d) : EvB K b 0 te σ F (· = d) := fun H n s w Q q => h H s Q fun v F' H' x dv => q v d F' H' (x.wide (by simp)) (w.ext0 x) rfl dv
theorem eb_weak (h : EvB K b c te σ F R) (hc : c ≤ c1) (hR : ∀ d, R d → RA d) : EvB K b c1 te σ F RA := fun H n s w Q q => h H n s (w.less (by omega)) Q fun v d F' H' x w' r dv => q v d F' H' x w' (hR d r) dv
theorem eb_op {r : R2} (ha : EvB K b c1 ta σ F RA) (hb : EvB K b c2 tb σ F RB) (hr : ∀ x y, RA x → RB y → ∃ z, RvD K r x y z ∧ R z) : EvB K b (c1 + c2) (tOp r ta tb) σ F R := fun H n s w Q q =>
  ha H (n + c2) s (w.less (by omega)) _ fun x dx F1 H1 x1 w1 r1 d1 => (hb.up x1.f) H1 n x1.s w1 _ fun y dy F2 H2 x2 w2 r2 d2 => by
    obtain ⟨z, h1, h2⟩ := hr dx dy r1 r2
    exact h1 F2 H2 x y x2.s (d1.up x2.f) d2 Q fun v F3 H3 x3 d3 => q v z F3 H3 ((x1.trans x2).tl x3) (w2.ext0 x3) h2 d3
theorem ea_ofB {ta : TA} {ds : List D} (h : EvA K ta σ F ds) : EvBA K b 0 ta σ F (· = ds) := fun H n s w Q q => h H s Q fun v F' H' x dv => q v ds F' H' (x.wide (by simp)) (w.ext0 x) rfl dv
theorem eb_nil : EvBA K b 0 tNil σ F (· = []) := ea_ofB ea_nil
theorem eb_cons {tr : TA} {S T : List D → Prop} (ha : EvB K b c1 ta σ F RA) (hr : EvBA K b c2 tr σ F S) (hT : ∀ x xs, RA x → S xs → T (x :: xs)) : EvBA K b (c1 + c2) (tCons ta tr) σ F T := fun H n s w Q q =>
  ha H (n + c2) s (w.less (by omega)) _ fun x dx F1 H1 x1 w1 r1 d1 => (hr.up x1.f) H1 n x1.s w1 _ fun y dy F2 H2 x2 w2 r2 d2 =>
    q (x :: y) (dx :: dy) F2 H2 (x1.trans x2) w2 (hT dx dy r1 r2) (.cons (d1.up x2.f) d2)
theorem eb_tup {ta : TA} {S : List D → Prop} (h : EvBA K b c ta σ F S) (hl : ∀ ds, S ds → ds.length ≤ sizeLine) (hR : ∀ ds, S ds → R (.tup ds)) : EvB K b c (tTup ta) σ F R := fun H n s w Q q =>
  h H n s w _ fun vs ds F1 H1 x1 w1 r1 d1 => ⟨by rw [d1.length]; exact hl ds r1, fun p hp => q _ (.tup ds) _ _ (x1.tl (Ext.new x1.s hp)) (w1.ext0 (Ext.new x1.s hp)) (hR ds r1) (.tup (SqT.of upd_same) (d1.up (Ext.new (o := .tup vs) x1.s hp).f))⟩
theorem eb_lst {ta : TA} {S : List D → Prop} (h : EvBA K b c ta σ F S) (hl : ∀ ds, S ds → ds.length ≤ sizeLine) (hR : ∀ ds, S ds → R (.lst ds)) : EvB K b c (tLst ta) σ F R := fun H n s w Q q =>
  h H n s w _ fun vs ds F1 H1 x1 w1 r1 d1 => ⟨by rw [d1.length]; exact hl ds r1, fun p hp => q _ (.lst ds) _ _ (x1.tl (Ext.new x1.s hp)) (w1.ext0 (Ext.new x1.s hp)) (hR ds r1) (.lst upd_same (d1.up (Ext.new (o := .lst vs) x1.s hp).f))⟩
/-- a call that draws -/
theorem eb_call {r : List Sl} {i m : Nat} {tr : TA} {E : XK} {pre : List D → Prop} {post : List D → D → Prop} {S : List D → Prop} (EV : EnvD K F r σ) (hi : r[i]? = some (.v (.ref b))) (ha : EvBA K b c1 tr σ F S)
    (hS : ∀ ds, S ds → ds.length = m ∧ pre ds) (hR : ∀ ds d, S ds → post ds d → R d) : EvB K b (c1 + c2) (tCall (spB K m c2 pre post) [] E (tCons (tVar i) tr)) σ F R := fun H n s w Q q => by
  obtain ⟨o, h1, h2⟩ := EV.get hi
  have h2 : o = some (.ref b) := h2
  subst h2
  refine ⟨.ref b, h1, ha H (n + c2) s (w.less (by omega)) _ fun vs ds F1 H1 x1 w1 r1 d1 => ?_⟩
  obtain ⟨l1, l2⟩ := hS ds r1
  refine ⟨F1, b, n, vs, ds, by simp, x1.s, w1, d1, l1, l2, fun v d F2 H2 x2 w2 p2 d2 => q v d F2 H2 (x1.trans x2) w2 (hR ds d r1 p2) d2⟩
/-- what is walked, its making drawing -/
theorem ei_ofB {wi : TI} {ds : List D} (h : EvI K wi σ F ds) : EvBI K b 0 wi σ F (· = ds) := fun H n s w Q q => h H s Q fun J F' H' x W => q J ds F' H' (x.wide (by simp)) (w.ext0 x) rfl W
theorem ebi_rng1 {ta : TA} {S : List D → Prop} {T : List D → Prop} (h : EvBA K b c ta σ F S) (hS : ∀ ds, S ds → ∃ m : Nat, ds = [.int (m : Nat)] ∧ m ≤ 1000000 ∧ T ((List.range m).map fun i => .int (i : Nat))) : EvBI K b c (iRng1 ta) σ F T := fun H n s w Q q =>
  h H n s w _ fun vs ds F1 H1 x1 w1 r1 d1 => by
    obtain ⟨m, rfl, hm, t⟩ := hS ds r1
    have one : EvA K (fun _ H2 R => R vs H2) σ F1 [.int (m : Nat)] := fun H2 s2 R2 q2 => q2 vs F1 H2 (Ext.refl s2) d1
    have := ei_rng1 one (by omega) (by omega) H1 x1.s Q fun J F2 H2 x2 W => q J _ F2 H2 (x1.tl x2) (w1.ext0 x2) (by rw [Int.toNat_natCast] at *; exact t) (by rw [Int.toNat_natCast] at W; exact W)
    exact this
theorem ebi_seq_tup {S : List D → Prop} (h : EvB K b c te σ F R) (hS : ∀ d, R d → ∃ ds, d = .tup ds ∧ S ds) : EvBI K b c (iSeq K te) σ F S := fun H n s w Q q => .inr (.inl (h H n s w _ fun v d F1 H1 x1 w1 r1 d1 => by
  obtain ⟨ds, rfl, t⟩ := hS d r1
  have one : EvD K (fun _ H2 R => R v H2) σ F1 (.tup ds) := fun H2 s2 R2 q2 => q2 v F1 H2 (Ext.refl s2) d1
  cases d1 with
  | tup hh l =>
    rename_i a xs
    refine ⟨a, rfl, ⟨xs, same_t x1.s hh⟩, q _ ds F1 H1 x1 w1 t ⟨fun H => SqT K H a xs, YAt xs, ?_, fun H s => same_t s hh, fun i H x H' hi s y => ?_⟩⟩
    · rw [← l.length]; exact walk_tup
    · obtain ⟨rfl, y⟩ := y
      obtain ⟨d, h1, h2⟩ := l.getV y
      exact ⟨d, F1, h1, Ext.refl s, h2⟩))
/-- a comprehension whose elements draw: each as RE says -/
theorem eb_lc {r : List Sl} {j : Nat} {vs : List Nat} {wi : TI} {N ce ci : Nat} {I : List D → Prop} {RE : D → D → Prop} (E : EnvD K F r σ) (hi : EvBI K b ci wi σ F I) (hI : ∀ ds, I ds → ds.length ≤ N) (hN : N < sizeLine)
    (hw : ∀ (σ' : L2.St) (x : Option V), wipe ((wipe σ' vs).set j x) vs = wipe σ' vs)
    (he : ∀ ds d F' σ', I ds → d ∈ ds → Same F F' → EnvD K F' ((wipeR r vs).set j (.d d)) σ' → EvB K b ce te σ' F' (RE d))
    (hR : ∀ ds es, I ds → es.length = ds.length → (∀ (i : Nat) d e, ds[i]? = some d → es[i]? = some e → RE d e) → R (.lst es)) :
    EvB K b (ci + N * ce) (tLc wi (gName j) tYes te vs) σ F R := fun H n s w Q q => hi H (n + N * ce) s (w.less (by omega)) _ fun J items F1 H1 x1 w1 i1 W1 Dl hD => by
  obtain ⟨G, Y, wk, hg, hy⟩ := W1
  have hlen := hI items i1
  have bne : b ≠ Dl := fun z => by rw [z] at w1; exact w1.ne hD
  refine lc_it wk (fun i H' => ∃ F' acc es, Ext [b] F1 H1 F' H' ∧ BagAt F' H' b (n + (N - i) * ce) ∧ F' Dl = none ∧ H' Dl = some (.lst acc) ∧ DenL K F' acc es ∧ es.length = i ∧ ∀ (k : Nat) d e, k < i → items[k]? = some d → es[k]? = some e → RE d e) ?_ ?_ ?_ ?_
  · refine ⟨F1, [], [], (Ext.newM x1.s hD).wide (by simp), ?_, x1.s.free hD, upd_same, .nil, rfl, fun k d e hk => absurd hk (by omega)⟩
    exact (w1.ext0 (Ext.newM x1.s hD)).less (by simp)
  · rintro i H' _ ⟨F', acc, es, x, _⟩
    exact hg H' (x.f.trans x.s)
  · rintro i v H' H'' hlt ⟨F', acc, es, x, w', fD, eD, l, el, hre⟩ y
    obtain ⟨d, F2, h1, h2, h3⟩ := hy i H' v H'' hlt (x.f.trans x.s) y
    have hd : d ∈ items := List.mem_of_getElem? h1
    have x2 := Ext.uni x.f x.s h2
    have h3' : Den K (uni F' F2) v d := h3.up (uni_r (x.s.trans h2.same) h2.s)
    have fD2 : uni F' F2 Dl = none := x2.n Dl fD (by rw [eD]; simp)
    have eD2 : H'' Dl = some (.lst acc) := x2.same _ _ eD
    have sF : Same F (uni F' F2) := (x1.f.trans x.f).trans x2.f
    have E2 : EnvD K (uni F' F2) ((wipeR r vs).set j (.d d)) ((wipe σ vs).set j (some v)) := EnvD.set j ((EnvD.wipe E vs).up sF) ⟨v, rfl, h3'⟩
    refine ⟨hw σ _, ?_⟩
    unfold tYes
    dsimp only
    rw [if_pos rfl]
    have bud : (N - i) * ce = (N - (i + 1)) * ce + ce := by
      have : N - i = (N - (i + 1)) + 1 := by omega
      rw [this, Nat.add_mul, Nat.one_mul]
    refine he items d _ _ i1 hd sF E2 H'' (n + (N - (i + 1)) * ce) x2.s ((w'.ext0 x2).less (by omega)) _ fun z e F4 H4 x4 w4 r4 d4 => ?_
    have fD4 : F4 Dl = none := x4.n Dl fD2 (by rw [eD2]; simp)
    have eD4 : H4 Dl = some (.lst acc) := x4.h Dl _ (by simpa using bne.symm) eD2
    have xx : Ext [b] F1 H1 F4 H4 := (x.tl x2).trans x4
    refine ⟨acc, eD4, ?_, F4, acc ++ [z], es ++ [e], Ext.mutNew xx hD fD4, ?_, fD4, upd_same, (l.up (x2.f.trans x4.f)).append (.cons d4 .nil), by simp [el], fun k d' e' hk hd' he' => ?_⟩
    · rw [l.length, el]; omega
    · obtain ⟨p, q, rr, o, hh⟩ := w4
      exact ⟨p, q, rr, ⟨o.f, by rw [upd_ne bne]; exact o.h⟩, hh⟩
    · by_cases hk' : k < i
      · rw [List.getElem?_append_left (by omega)] at he'
        exact hre k d' e' hk' hd' he'
      · have : k = i := by omega
        subst this
        rw [h1] at hd'
        cases hd'
        rw [List.getElem?_append_right (by omega), el] at he'
        simp at he'
        subst he'
        exact r4
  · rintro H' ⟨F', acc, es, x, w', fD, eD, l, el, hre⟩
    have xf := Ext.freeze x hD eD fD
    refine q _ (.lst es) _ _ (x1.trans xf) (w'.less (by omega) |>.fz (by rw [upd_ne bne]; exact w'.nf)) (hR items es i1 el fun i d e hd he => hre i d e (by have := (List.getElem?_eq_some_iff.mp hd).1; omega) hd he) (.lst upd_same (l.up (same_new fD)))
theorem eb_join {sep : Str} (h1 : EvD K ta σ F (.str sep)) (h2 : EvB K b c tb σ F RA) (hR : ∀ d, RA d → ∃ ys : List Str, d = .lst (ys.map D.str) ∧ (ys.map (·.length)).sum + ys.length * sep.length ≤ 16777216 ∧ R (.str (Txt.join sep ys))) : EvB K b c (tM1 (rJoin K) ta tb) σ F R := fun H n s w Q q =>
  h1 H s _ fun x F1 H1 x1 d1 => by
    cases d1
    refine ⟨⟨_, rfl⟩, (h2.up x1.f) H1 n x1.s (w.ext0 x1) _ fun y d F2 H2 x2 w2 r2 d2 => ?_⟩
    obtain ⟨ys, rfl, hz, hr⟩ := hR d r2
    cases d2 with
    | lst a l =>
      rw [denL_strs l] at a
      exact ⟨sep, _, ys, rfl, rfl, .inl (SqL.of (x2.s _ _ a)), hz, q _ _ F2 H2 (x1.tr x2) w2 hr (.str _)⟩
/-! statements -/
variable {DE : Ends} {tz tu : TS} {r : List Sl} {j : Nat}
theorem q_asgB (S : Same F H) (E : EnvD K F r σ) (w : BagAt F H b (n + c)) (h : EvB K b c te σ F R) (k : ∀ d F' H' σ', R d → Ext [b] F H F' H' → BagAt F' H' b n → EnvD K F' (r.set j (.d d)) σ' → tz DE σ' H') : tSeq (tAsg te (gName j)) tz DE σ H :=
  h H n S w _ fun v d F' H' x w' rd dv => k d F' H' _ rd x w' (EnvD.set j (E.up x.f) ⟨v, rfl, dv⟩)
theorem s_retB (S : Same F H) (w : BagAt F H b (n + c)) (h : EvB K b c te σ F R) (k : ∀ v d F' H', R d → Ext [b] F H F' H' → BagAt F' H' b n → Den K F' v d → DE.rt v H') : tRet te DE σ H :=
  h H n S w _ fun v d F' H' x w' rd dv => k v d F' H' rd x w' dv
end
end Nm

set_option Elab.async false
set_option linter.all false
set_option maxRecDepth 100000
set_option maxHeartbeats 1000000
namespace Nm
open PySem PySem.Spec L2
/-! ### data as the library shows it -/
mutual
def toPy : D → PyData
  | .bl b => .bool b
  | .int i => .int i
  | .str x => .str x
  | .lst ds => .list (toPyL ds)
  | .tup ds => .tuple (toPyL ds)
  | .dic es => .dict (toPyK es)
  | _ => .none
def toPyL : List D → List PyData
  | [] => []
  | d :: ds => toPy d :: toPyL ds
def toPyK : List (Key × D) → List (PyData × PyData)
  | [] => []
  | (k, d) :: es => (kPy k, toPy d) :: toPyK es
end
mutual
/-- no dicts, no objects -/
def plain : D → Bool
  | .non => true
  | .bl _ => true
  | .int _ => true
  | .str _ => true
  | .lst ds => plainL ds
  | .tup ds => plainL ds
  | _ => false
def plainL : List D → Bool
  | [] => true
  | d :: ds => plain d && plainL ds
end
section
variable {K : PySem.W.Frag} {F H : Hp}
mutual
theorem den_dp (s : Same F H) : ∀ (d : D) {v : V}, Den K F v d → plain d = true → Dp K H v (toPy d)
  | .non, _, h, _ => by cases h; unfold toPy; exact .non
  | .bl _, _, h, _ => by cases h; unfold toPy; exact .bl _
  | .int _, _, h, _ => by cases h; unfold toPy; exact .int _
  | .str _, _, h, _ => by cases h; unfold toPy; exact .str _
  | .lst ds, _, h, p => by
    cases h with
    | lst a l => unfold toPy; unfold plain at p; exact .lst (SqL.of (s _ _ a)) (den_dpL s ds l p)
  | .tup ds, _, h, p => by
    cases h with
    | tup a l => unfold toPy; unfold plain at p; exact .tup (same_t s a) (den_dpL s ds l p)
  | .dic _, _, _, p => by unfold plain at p; cases p
  | .obj _ _, _, _, p => by unfold plain at p; cases p
  | .ty _, _, _, p => by unfold plain at p; cases p
  | .cls _, _, _, p => by unfold plain at p; cases p
theorem den_dpL (s : Same F H) : ∀ (ds : List D) {vs : List V}, DenL K F vs ds → plainL ds = true → DpAll K H vs (toPyL ds)
  | [], _, h, _ => by cases h; unfold toPyL; exact .nil
  | d :: ds, _, h, p => by
    cases h with
    | cons a l =>
      unfold plainL at p
      rw [Bool.and_eq_true] at p
      unfold toPyL
      exact .cons (den_dp s d a p.1) (den_dpL s ds l p.2)
end
/-- what repr gives -/
def shownD (d : D) : Str := (toPy d).shown
def flatD : D → Bool
  | .non => true
  | .bl _ => true
  | .int _ => true
  | .str _ => true
  | _ => false
/-- data that repr is asked of -/
def okR (d : D) : Bool := (plain d || (match d with | .dic es => es.all fun e => flatD e.2 | _ => false)) && (toPy d).showable && decide ((toPy d).depth ≤ 40) && decide ((shownD d).length ≤ 16777216)
theorem kvPy_den : ∀ {kvs : List (Key × V)} {es : List (Key × D)}, DenK K F kvs es → (es.all fun e => flatD e.2) = true → kvPy kvs = toPyK es ∧ (kvs.all fun p => flatV p.2) = true
  | _, _, .nil, _ => ⟨rfl, rfl⟩
  | _, (k, d) :: es, .cons h t, f => by
    rw [List.all_cons, Bool.and_eq_true] at f
    obtain ⟨h1, h2⟩ := kvPy_den t f.2
    rw [List.all_cons, h2]
    unfold kvPy at h1 ⊢
    unfold toPyK
    rw [List.map_cons, h1]
    cases h with
    | non => exact ⟨by unfold toPy; rfl, rfl⟩
    | bl b => exact ⟨by unfold toPy; rfl, rfl⟩
    | int b => exact ⟨by unfold toPy; rfl, rfl⟩
    | str b => exact ⟨by unfold toPy; rfl, rfl⟩
    | _ => exact Bool.noConfusion f.1
theorem rc_repr {d : D} (ok : okR d = true) : RcD K (rReprA K) [d] (.str (shownD d)) := fun F H xs s hx Q q => by
  unfold okR at ok
  simp only [Bool.and_eq_true, decide_eq_true_eq] at ok
  obtain ⟨⟨⟨h1, h2⟩, h3⟩, h4⟩ := ok
  cases hx with
  | cons h t =>
    cases t
    by_cases p : plain d = true
    · exact .inl ⟨_, toPy d, rfl, den_dp s d h p, h2, h3, by rw [sizeLine_eq]; exact h4, q _ F H (Ext.refl s) (.str _)⟩
    · rw [show plain d = false by simpa using p, Bool.false_or] at h1
      cases h with
      | dic a l =>
        rename_i ad kvs es
        obtain ⟨e1, e2⟩ := kvPy_den l h1
        have e : PyData.dict (kvPy kvs) = toPy (.dic es) := by rw [e1]; unfold toPy; rfl
        refine .inr ⟨_, kvs, rfl, .inr ⟨_, s _ _ a⟩, e2, by rw [e]; exact h2, by rw [e, sizeLine_eq]; exact h4, by rw [e]; exact h3, ?_⟩
        rw [e]
        exact q _ F H (Ext.refl s) (.str _)
      | _ => cases h1
/-- small texts can be shown -/
theorem okR_str {z : Str} (h : z.length ≤ 100000) (hc : ∀ c ∈ z.cps.toList, c < 1114112) : okR (.str z) = true := by
  have := PySem.StrLaws.reprText_len z (fun c m => Nat.lt_trans (hc c m) (by decide))
  unfold okR shownD plain toPy
  simp only [PyData.showable, PyData.depth, PyData.shown]
  have : (reprText z).length ≤ 16777216 := by omega
  simp [this]
theorem shown_list1 (p : PyData) : (PyData.list [p]).shown.length = p.shown.length + 2 := PyProof.Rows.shownLen_list1 p
theorem shown_tuple1 (p : PyData) : (PyData.tuple [p]).shown.length = p.shown.length + 3 := PyProof.Rows.shownLen_tuple1 p
theorem okR_one {z : Str} (h : z.length ≤ 100000) (hc : ∀ c ∈ z.cps.toList, c < 1114112) : okR (.lst [.str z]) = true ∧ okR (.tup [.str z]) = true := by
  have := PySem.StrLaws.reprText_len z (fun c m => Nat.lt_trans (hc c m) (by decide))
  have e1 : (PyData.list [.str z]).shown.length ≤ 16777216 := by rw [shown_list1]; simp only [PyData.shown]; omega
  have e2 : (PyData.tuple [.str z]).shown.length ≤ 16777216 := by rw [shown_tuple1]; simp only [PyData.shown]; omega
  constructor
  · unfold okR shownD
    simp only [plain, plainL, toPy, toPyL, PyData.showable, PyData.showableAll, PyData.depth, PyData.depthAll]
    simp [e1]
  · unfold okR shownD
    simp only [plain, plainL, toPy, toPyL, PyData.showable, PyData.showableAll, PyData.depth, PyData.depthAll]
    simp [e2]

/-! ### dicts that are written -/
variable {σ : L2.St} {te tk tv : TE}
/-! ### drawing -/
def preTake : List D → Prop
  | [.int m] => 0 < m ∧ m < 1073741824
  | _ => False
def postTake : List D → D → Prop
  | [.int m], .int r => 0 ≤ r ∧ r < m
  | _, _ => False
abbrev spTake (K : PySem.W.Frag) : Sp := spB K 1 1 preTake postTake
theorem spB_len {m c : Nat} {pre : List D → Prop} {post : List D → D → Prop} {vs : List V} {H : Hp} {Q : VK} {E : XK} (h : spB K m c pre post vs H Q E) : vs.length = m + 1 := by
  obtain ⟨F, b, n, ws, ds, rfl, _, _, l, e, _⟩ := h
  rw [List.length_cons, l.length, e]
def spBag (K : PySem.W.Frag) : Sp := fun vs H Q _ => ∃ (F : Hp) (a : Addr) (ns : List Int) (i : Int), vs = [.ref a, .int i] ∧ Same F H ∧ SqL K F a (ns.map V.int) ∧ 0 ≤ i ∧ i ≤ 1000 ∧ ∀ b H', H b = none → Ext [] F H F H' → BagAt F H' b 1000000000 → Q (.ref b) H'
theorem spBag_len {vs : List V} {H : Hp} {Q : VK} {E : XK} (h : spBag K vs H Q E) : vs.length = 2 := by
  obtain ⟨F, a, ns, i, rfl, _⟩ := h
  rfl
variable {r : List Sl} {i : Nat} {b : Addr} {E : XK} {tm ta : TE}
theorem eb_take {m : Nat} (EV : EnvD K F r σ) (hi : r[i]? = some (.v (.ref b))) (hm : EvD K tm σ F (.int (m : Nat))) (h0 : 0 < m) (h1 : m < 1073741824) :
    EvB K b 1 (tCall (spTake K) [] E (tCons (tVar i) (tCons tm tNil))) σ F (fun d => ∃ k : Nat, d = .int (k : Nat) ∧ k < m) := by
  have := eb_call (c1 := 0) (c2 := 1) (m := 1) (pre := preTake) (post := postTake) (E := E) (R := fun d => ∃ k : Nat, d = .int (k : Nat) ∧ k < m) EV hi (ea_ofB (ea_cons hm ea_nil)) (fun ds e => ?_) (fun ds d e p => ?_)
  · exact this
  · subst e; exact ⟨rfl, by omega, by omega⟩
  · subst e
    cases d with
    | int k =>
      obtain ⟨p1, p2⟩ := p
      exact ⟨k.toNat, by rw [Int.toNat_of_nonneg p1], by omega⟩
    | _ => exact p.elim
/-- a sign of a text, drawn -/
theorem eb_pick_str {z : Str} {m : Nat} (EV : EnvD K F r σ) (hi : r[i]? = some (.v (.ref b))) (ha : EvD K ta σ F (.str z)) (hm : EvD K tm σ F (.int (m : Nat))) (h0 : 0 < m) (hz : m = z.length) (hz2 : z.length ≤ 100000) :
    EvB K b 1 (tOp (rIxA K) ta (tCall (spTake K) [] E (tCons (tVar i) (tCons tm tNil)))) σ F (fun d => ∃ c, d = .str ⟨#[c]⟩ ∧ c ∈ z.cps.toList) := by
  refine eb_weak (eb_op (R := fun d => ∃ c, d = .str ⟨#[c]⟩ ∧ c ∈ z.cps.toList) (eb_of ha) (eb_take EV hi hm h0 (by omega)) ?_) (by decide) (fun _ h => h)
  rintro x y rfl ⟨k, rfl, hk⟩
  have hk' : k < z.cps.toList.length := by
    have : z.length = z.cps.toList.length := by simp [Str.length]
    omega
  exact ⟨_, rv_ix_str (by rw [sizeLine_eq]; omega) (atI_nat (List.getElem?_eq_getElem hk')), _, rfl, List.getElem_mem hk'⟩
theorem eb_pick_lst {ds : List D} {m : Nat} (EV : EnvD K F r σ) (hi : r[i]? = some (.v (.ref b))) (ha : EvD K ta σ F (.lst ds)) (hm : EvD K tm σ F (.int (m : Nat))) (h0 : 0 < m) (hz : m = ds.length) (hz2 : m ≤ 100000) :
    EvB K b 1 (tOp (rIxA K) ta (tCall (spTake K) [] E (tCons (tVar i) (tCons tm tNil)))) σ F (fun d => d ∈ ds) := by
  refine eb_weak (eb_op (R := fun d => d ∈ ds) (eb_of ha) (eb_take EV hi hm h0 (by omega)) ?_) (by decide) (fun _ h => h)
  rintro x y rfl ⟨k, rfl, hk⟩
  exact ⟨_, rv_ix_lst (atI_nat (List.getElem?_eq_getElem (by omega))), List.getElem_mem _⟩
/-! ### more -/
theorem ru_neg {i : Int} : RuD K (rU fun i => .int (-i)) (.int i) (.int (-i)) := fun F H x s hx Q q => by
  cases hx
  exact ⟨i, rfl, q _ F H (Ext.refl s) (.int _)⟩
theorem ev_chainU {ra rb : L2.R2} {tb tc : TE} {x y z : D} {p q : Bool} (ha : EvD K ta σ F x) (hb : EvD K tb σ F y) (hr : RvD K ra x y (.bl p)) (hc : EvD K tc σ F z) (hr' : RvD K rb y z (.bl q)) : EvD K (tChain ra rb ta tb tc) σ F (.bl (p && q)) :=
  ev_chain ha hb hr (fun _ => hc) fun _ => hr'
theorem Ext.forget {F1 H1 F2 H2 : Hp} (x : Ext [] F H F1 H1) (y : Ext [b] F1 H1 F2 H2) (hb : H b = none) : Ext [] F H F2 H2 :=
  Ext.of (x.f.trans y.f) (fun a o h => y.h a o (by
    intro z
    have : a = b := by simpa using z
    rw [this, hb] at h; cases h) (x.same a o h)) y.s (fun a h k => y.n a (x.n a h k) (x.k a k))
theorem joinL_nil : ∀ ps : List (List Nat), TL.joinL [] ps = ps.flatten
  | [] => rfl
  | [p] => by simp [TL.joinL]
  | p :: q :: r => by
    have := joinL_nil (q :: r)
    simp [TL.joinL, this]
theorem join_toList (ys : List Str) : (Txt.join Str.empty ys).cps.toList = (ys.map fun y => y.cps.toList).flatten := by
  have h := TL.tl_join Str.empty ys
  rw [← TL.join_eq] at h
  have e : TL.tl Str.empty = [] := rfl
  rw [e, joinL_nil] at h
  exact h
/-- a for whose body draws; what is walked may be drawn too -/
theorem s_forB {DE : Ends} {tb : TS} {I : List D → Prop} {wi : TI} {j n ci : Nat} (Pv : List D → Nat → Hp → Hp → List Sl → Prop) (S : Same F H) (EV : EnvD K F r σ) (w : BagAt F H b (n + ci)) (hi : EvBI K b ci wi σ F I)
    (h0 : ∀ items F' H', I items → Ext [b] F H F' H' → BagAt F' H' b n → Pv items 0 F' H' r)
    (hs : ∀ items i d F1 H1 F2 H2 r' σ' (N : L2.St → Hp → Prop), I items → items[i]? = some d → Ext [b] F H F1 H1 → Pv items i F1 H1 r' → Ext [] F1 H1 F2 H2 → EnvD K F2 (r'.set j (.d d)) σ' →
      (∀ F3 H3 r3 σ3, Ext [b] F2 H2 F3 H3 → EnvD K F3 r3 σ3 → Pv items (i + 1) F3 H3 r3 → N σ3 H3) → tb { DE with nx := N, ct := N, bk := DE.nx } σ' H2)
    (hd : ∀ items F' H' r' σ', I items → Ext [b] F H F' H' → EnvD K F' r' σ' → Pv items items.length F' H' r' → DE.nx σ' H') : tFor wi (gName j) tb DE σ H :=
  hi H n S w _ fun J items F1 H1 x1 w1 i1 W1 => by
    obtain ⟨G, Y, wk, hg, hy⟩ := W1
    refine ⟨fun i m σ3 H3 => m = items.length - i ∧ i ≤ items.length ∧ ∃ F3 r3, Ext [b] F H F3 H3 ∧ Same F1 F3 ∧ EnvD K F3 r3 σ3 ∧ Pv items i F3 H3 r3, ⟨items.length, by simp, Nat.zero_le _, F1, r, x1, Same.refl _, EV.up x1.f, h0 items F1 H1 i1 x1 w1⟩, ?_⟩
    rintro i m σ3 H3 ⟨rfl, hle, F3, r3, x, e, E3, p⟩
    have hG := hg H3 (e.trans x.s)
    by_cases hlt : i < items.length
    · refine .inr ⟨wk.goes i H3 hlt hG, fun σ' H' => ∃ F4 r4, Ext [b] F H F4 H' ∧ Same F1 F4 ∧ EnvD K F4 r4 σ' ∧ Pv items (i + 1) F4 H' r4, fun σ' H' q => ⟨items.length - (i + 1), by omega, rfl, hlt, q⟩, fun v H4 y => ?_⟩
      obtain ⟨d, F2, h1, h2, h3⟩ := hy i H3 v H4 hlt (e.trans x.s) (wk.yields i H3 v H4 hlt hG y)
      have x2 := Ext.uni e x.s h2
      have h3' : Den K (uni F3 F2) v d := h3.up (uni_r (x.s.trans h2.same) h2.s)
      exact hs items i d F3 H3 _ H4 r3 _ _ i1 h1 x p x2 (EnvD.set j (E3.up x2.f) ⟨v, rfl, h3'⟩) fun F5 H5 r5 σ5 x5 E5 p5 => ⟨F5, r5, (x.tl x2).trans x5, (e.trans x2.f).trans x5.f, E5, p5⟩
    · have ei : i = items.length := by omega
      subst ei
      exact .inl ⟨wk.stops H3 hG, hd items F3 H3 r3 σ3 i1 x E3 p⟩
/-- bag = _law_bag(script, at) -/
theorem q_bag {DE : Ends} {tz : TS} {a : Addr} {ns : List Int} {i0 j0 t m : Nat} (S : Same F H) (EV : EnvD K F r σ) (hi : r[i0]? = some (.v (.ref a))) (hj : r[j0]? = some (.d (.int (m : Nat)))) (hm : m ≤ 1000) (sq : SqL K F a (ns.map V.int))
    (k : ∀ b H' σ', H b = none → Ext [] F H F H' → BagAt F H' b 1000000000 → EnvD K F (r.set t (.v (.ref b))) σ' → tz DE σ' H') : tSeq (tAsg (tCall (spBag K) [] E (tCons (tVar i0) (tCons (tVar j0) tNil))) (gName t)) tz DE σ H := by
  obtain ⟨o, g1, g2⟩ := EV.get hi
  have g2 : o = some (.ref a) := g2
  subst g2
  obtain ⟨o, g3, v, g4, g5⟩ := EV.get hj
  subst g4
  cases g5
  exact ⟨.ref a, g1, .int (m : Nat), g3, F, a, ns, m, rfl, S, sq, by omega, by omega, fun b H' hb x w => k b H' _ hb x w (EnvD.set t EV rfl)⟩
end
end Nm

set_option linter.all false
set_option maxHeartbeats 1000000
namespace Nm
/-! ### tables by plain lists: folds from codes to codes, marks from codes to classes -/
abbrev Fo := List (Nat × List Nat)
abbrev Ma := List (Nat × Nat)
def lk {α : Type} (m : List (Nat × α)) (c : Nat) : Option α := (m.find? fun p => decide (p.1 = c)).map (·.2)
def foldS (fo : Fo) (c : Nat) : List Nat := (lk fo c).getD [c]
def folded (fo : Fo) (l : List Nat) : List Nat := (l.map (foldS fo)).flatten
def ofCls (ma : Ma) (n : Nat) (c : Nat) : Bool := decide (lk ma c = some n)
def inOrd (ma : Ma) (run : List Nat) : List Nat := run.filter (ofCls ma 1) ++ (run.filter (ofCls ma 2) ++ run.filter (ofCls ma 3))
def runs (ma : Ma) : List Nat → List Nat → List Nat
  | r, [] => inOrd ma r
  | r, c :: l => if (lk ma c).isSome then runs ma (r ++ [c]) l else inOrd ma r ++ (c :: runs ma [] l)
def key (fo : Fo) (ma : Ma) (l : List Nat) : List Nat := runs ma [] (folded fo l)
/-- classes are 1, 2, 3 -/
def okMa (ma : Ma) : Prop := ∀ c n, lk ma c = some n → n = 1 ∨ n = 2 ∨ n = 3
/-- a and b stand the wrong way about -/
def wrong (ma : Ma) (a b : Nat) : Bool := match lk ma a, lk ma b with
  | some m, some n => decide (n < m)
  | _, _ => false

theorem runs_congr {ma : Ma} : ∀ (l r1 r2 : List Nat), (∀ s, inOrd ma (r1 ++ s) = inOrd ma (r2 ++ s)) → runs ma r1 l = runs ma r2 l
  | [], r1, r2, h => by unfold runs; simpa using h []
  | c :: l, r1, r2, h => by
    unfold runs
    split
    · exact runs_congr l _ _ fun s => by simpa [List.append_assoc] using h (c :: s)
    · rw [show inOrd ma r1 = inOrd ma r2 by simpa using h []]
theorem inOrd_swap {ma : Ma} {a b : Nat} (h : lk ma a ≠ lk ma b) (r s : List Nat) : inOrd ma (r ++ a :: b :: s) = inOrd ma (r ++ b :: a :: s) := by
  have f : ∀ n, (r ++ a :: b :: s).filter (ofCls ma n) = (r ++ b :: a :: s).filter (ofCls ma n) := fun n => by
    rw [List.filter_append, List.filter_append]
    congr 1
    by_cases ha : ofCls ma n a = true
    · have hb : ofCls ma n b = false := by
        unfold ofCls at ha ⊢
        have ha := of_decide_eq_true ha
        exact decide_eq_false fun z => h (ha.trans z.symm)
      simp [List.filter_cons, ha, hb]
    · simp [List.filter_cons, ha]
  unfold inOrd
  rw [f 1, f 2, f 3]
/-- two neighbouring marks of unlike classes change places: the same runs -/
theorem runs_swap {ma : Ma} {a b : Nat} (ha : (lk ma a).isSome = true) (hb : (lk ma b).isSome = true) (h : lk ma a ≠ lk ma b) (y : List Nat) : ∀ (x r : List Nat), runs ma r (x ++ a :: b :: y) = runs ma r (x ++ b :: a :: y)
  | [], r => by
    show runs ma r (a :: b :: y) = runs ma r (b :: a :: y)
    simp only [runs, ha, hb, if_true]
    refine runs_congr y _ _ fun s => ?_
    simpa [List.append_assoc] using inOrd_swap h r s
  | c :: x, r => by
    show runs ma r (c :: (x ++ a :: b :: y)) = runs ma r (c :: (x ++ b :: a :: y))
    unfold runs
    split
    · exact runs_swap ha hb h y x _
    · rw [runs_swap ha hb h y x []]
theorem wrong_ne {ma : Ma} {a b : Nat} (h : wrong ma a b = true) : (lk ma a).isSome = true ∧ (lk ma b).isSome = true ∧ lk ma a ≠ lk ma b := by
  unfold wrong at h
  cases h1 : lk ma a with
  | none => rw [h1] at h; cases h
  | some m =>
    cases h2 : lk ma b with
    | none => rw [h1, h2] at h; cases h
    | some n =>
      rw [h1, h2] at h
      have h := of_decide_eq_true h
      exact ⟨rfl, rfl, fun z => by cases z; omega⟩
/-- no neighbours stand the wrong way about -/
def calmL (ma : Ma) : List Nat → Bool
  | a :: b :: l => !wrong ma a b && calmL ma (b :: l)
  | _ => true
theorem calm_app {ma : Ma} : ∀ (x y : List Nat), calmL ma (x ++ y) = true → calmL ma x = true ∧ calmL ma y = true
  | [], y, h => ⟨rfl, h⟩
  | [a], y, h => by
    refine ⟨rfl, ?_⟩
    cases y with
    | nil => rfl
    | cons b y => simp only [List.singleton_append, calmL, Bool.and_eq_true] at h; exact h.2
  | a :: b :: x, y, h => by
    simp only [List.cons_append, calmL, Bool.and_eq_true] at h ⊢
    obtain ⟨h1, h2⟩ := calm_app (b :: x) y h.2
    exact ⟨⟨h.1, h1⟩, h2⟩
/-- a calm run of marks is in order already -/
theorem inOrd_calm {ma : Ma} (ok : okMa ma) : ∀ (r : List Nat), (∀ c ∈ r, (lk ma c).isSome = true) → calmL ma r = true → inOrd ma r = r := by
  -- by classes that do not fall
  have mono : ∀ (r : List Nat) (a : Nat), (∀ c ∈ a :: r, (lk ma c).isSome = true) → calmL ma (a :: r) = true → ∀ c ∈ r, ∀ m n, lk ma a = some m → lk ma c = some n → m ≤ n := by
    intro r
    induction r with
    | nil => intro a _ _ c hc; exact nomatch hc
    | cons b r ih =>
      intro a hm hcalm c hc m n h1 h2
      simp only [calmL, Bool.and_eq_true, Bool.not_eq_true'] at hcalm
      obtain ⟨k, hk⟩ := Option.isSome_iff_exists.mp (hm b (by simp))
      have hab : m ≤ k := by
        have := hcalm.1
        unfold wrong at this
        rw [h1, hk] at this
        have := of_decide_eq_false this
        omega
      rcases List.mem_cons.mp hc with rfl | hc
      · rw [hk] at h2; cases h2; exact hab
      · exact Nat.le_trans hab (ih b (fun d hd => hm d (List.mem_cons_of_mem _ hd)) hcalm.2 c hc k n hk h2)
  intro r
  induction r with
  | nil => intro _ _; rfl
  | cons a r ih =>
    intro hm hcalm
    have tail := ih (fun c hc => hm c (List.mem_cons_of_mem _ hc)) (by
      cases r with
      | nil => rfl
      | cons b r => simp only [calmL, Bool.and_eq_true] at hcalm; exact hcalm.2)
    have hm' := mono r a hm hcalm
    obtain ⟨k, hk⟩ := Option.isSome_iff_exists.mp (hm a (by simp))
    have none_of : ∀ n, n < k → r.filter (ofCls ma n) = [] := fun n hn => by
      rw [List.filter_eq_nil_iff]
      intro c hc h
      have := hm' c hc k n hk (of_decide_eq_true h)
      omega
    have at_a : ∀ n, ofCls ma n a = decide (k = n) := fun n => by
      unfold ofCls
      rw [hk]
      by_cases e : k = n
      · subst e; simp
      · rw [decide_eq_false e]; exact decide_eq_false fun z => e (Option.some.inj z)
    unfold inOrd at tail ⊢
    simp only [List.filter_cons, at_a]
    rcases ok a k hk with rfl | rfl | rfl
    · simp [tail]
    · have n1 := none_of 1 (by omega)
      rw [n1] at tail
      simp [n1]
      simpa using tail
    · have n1 := none_of 1 (by omega)
      have n2 := none_of 2 (by omega)
      rw [n1, n2] at tail
      simp [n1, n2]
      simpa using tail
theorem runs_calm {ma : Ma} (ok : okMa ma) : ∀ (l r : List Nat), (∀ c ∈ r, (lk ma c).isSome = true) → calmL ma (r ++ l) = true → runs ma r l = r ++ l
  | [], r, hm, h => by unfold runs; rw [List.append_nil] at h ⊢; exact inOrd_calm ok r hm h
  | c :: l, r, hm, h => by
    unfold runs
    split
    · rename_i hc
      have := runs_calm ok l (r ++ [c]) (fun d hd => by
        rcases List.mem_append.mp hd with hd | hd
        · exact hm d hd
        · have : d = c := by simpa using hd
          rw [this]; exact hc) (by simpa [List.append_assoc] using h)
      rw [this]; simp
    · have h2 := (calm_app r (c :: l) h)
      have h3 := (calm_app [c] l h2.2).2
      rw [inOrd_calm ok r hm h2.1, runs_calm ok l [] (fun _ h => nomatch h) h3]; rfl
/-- what is not a mark parts calm texts -/
theorem calm_cons {ma : Ma} {c : Nat} (hc : lk ma c = none) : ∀ (l : List Nat), calmL ma l = true → calmL ma (c :: l) = true
  | [], _ => rfl
  | b :: l, h => by
    simp only [calmL, Bool.and_eq_true, Bool.not_eq_true']
    refine ⟨?_, h⟩
    unfold wrong; rw [hc]
theorem calm_mid {ma : Ma} {c : Nat} (hc : lk ma c = none) : ∀ (x l : List Nat), calmL ma x = true → calmL ma l = true → calmL ma (x ++ c :: l) = true
  | [], l, _, h => calm_cons hc l h
  | [a], l, _, h => by
    simp only [List.singleton_append, calmL, Bool.and_eq_true, Bool.not_eq_true']
    refine ⟨?_, calm_cons hc l h⟩
    unfold wrong; rw [hc]; cases lk ma a <;> rfl
  | a :: b :: x, l, hx, h => by
    simp only [List.cons_append, calmL, Bool.and_eq_true] at hx ⊢
    exact ⟨hx.1, calm_mid hc (b :: x) l hx.2 h⟩
theorem calm_const {ma : Ma} {n : Nat} : ∀ (l : List Nat), (∀ c ∈ l, lk ma c = some n) → calmL ma l = true
  | [], _ => rfl
  | [a], _ => rfl
  | a :: b :: l, h => by
    simp only [calmL, Bool.and_eq_true, Bool.not_eq_true']
    refine ⟨?_, calm_const (b :: l) fun c hc => h c (List.mem_cons_of_mem _ hc)⟩
    unfold wrong
    rw [h a (by simp), h b (by simp)]
    simp
theorem calm_two {ma : Ma} : ∀ (x y : List Nat), calmL ma x = true → calmL ma y = true → (∀ a ∈ x, ∀ b ∈ y, wrong ma a b = false) → calmL ma (x ++ y) = true
  | [], y, _, h, _ => h
  | [a], [], _, _, _ => rfl
  | [a], b :: y, _, h, w => by
    simp only [List.singleton_append, calmL, Bool.and_eq_true, Bool.not_eq_true']
    exact ⟨w a (by simp) b (by simp), h⟩
  | a :: b :: x, y, hx, h, w => by
    simp only [List.cons_append, calmL, Bool.and_eq_true] at hx ⊢
    exact ⟨hx.1, calm_two (b :: x) y hx.2 h fun c hc => w c (List.mem_cons_of_mem _ hc)⟩
theorem calm_inOrd (ma : Ma) (r : List Nat) : calmL ma (inOrd ma r) = true := by
  have mem : ∀ n c, c ∈ r.filter (ofCls ma n) → lk ma c = some n := fun n c h => of_decide_eq_true (List.mem_filter.mp h).2
  have w : ∀ a b m n, lk ma a = some m → lk ma b = some n → m ≤ n → wrong ma a b = false := fun a b m n h1 h2 h3 => by
    unfold wrong; rw [h1, h2]; exact decide_eq_false (by omega)
  unfold inOrd
  refine calm_two _ _ (calm_const (n := 1) _ (mem 1)) (calm_two _ _ (calm_const (n := 2) _ (mem 2)) (calm_const (n := 3) _ (mem 3)) fun a ha b hb => w a b 2 3 (mem 2 a ha) (mem 3 b hb) (by omega)) fun a ha b hb => ?_
  rcases List.mem_append.mp hb with hb | hb
  · exact w a b 1 2 (mem 1 a ha) (mem 2 b hb) (by omega)
  · exact w a b 1 3 (mem 1 a ha) (mem 3 b hb) (by omega)
theorem calm_runs (ma : Ma) : ∀ (l r : List Nat), calmL ma (runs ma r l) = true
  | [], r => by unfold runs; exact calm_inOrd ma r
  | c :: l, r => by
    unfold runs
    split
    · exact calm_runs ma l _
    · rename_i h
      have hc : lk ma c = none := by simpa using h
      exact calm_mid hc _ _ (calm_inOrd ma r) (calm_runs ma l [])
/-- the key of a key -/
theorem runs_runs {ma : Ma} (ok : okMa ma) (l : List Nat) : runs ma [] (runs ma [] l) = runs ma [] l :=
  runs_calm ok _ [] (fun _ h => nomatch h) (calm_runs ma l [])
theorem inOrd_mem {ma : Ma} {r : List Nat} {c : Nat} (h : c ∈ inOrd ma r) : c ∈ r := by
  unfold inOrd at h
  simp only [List.mem_append, List.mem_filter] at h
  rcases h with h | h | h <;> exact h.1
theorem runs_mem {ma : Ma} : ∀ (l r : List Nat) {c : Nat}, c ∈ runs ma r l → c ∈ r ∨ c ∈ l
  | [], r, c, h => by unfold runs at h; exact .inl (inOrd_mem h)
  | d :: l, r, c, h => by
    unfold runs at h
    split at h
    · rcases runs_mem l _ h with h | h
      · rcases List.mem_append.mp h with h | h
        · exact .inl h
        · exact .inr (by simp at h; simp [h])
      · exact .inr (List.mem_cons_of_mem _ h)
    · rcases List.mem_append.mp h with h | h
      · exact .inl (inOrd_mem h)
      · rcases List.mem_cons.mp h with h | h
        · exact .inr (by simp [h])
        · rcases runs_mem l [] h with h | h
          · exact nomatch h
          · exact .inr (List.mem_cons_of_mem _ h)
theorem inOrd_len {ma : Ma} (ok : okMa ma) : ∀ (r : List Nat), (∀ c ∈ r, (lk ma c).isSome = true) → (inOrd ma r).length = r.length
  | [], _ => rfl
  | c :: r, h => by
    have ih := inOrd_len ok r fun d hd => h d (List.mem_cons_of_mem _ hd)
    obtain ⟨k, hk⟩ := Option.isSome_iff_exists.mp (h c (by simp))
    have at_c : ∀ n, ofCls ma n c = decide (k = n) := fun n => by
      unfold ofCls
      rw [hk]
      by_cases e : k = n
      · subst e; simp
      · rw [decide_eq_false e]; exact decide_eq_false fun z => e (Option.some.inj z)
    unfold inOrd at ih ⊢
    simp only [List.filter_cons, at_c, List.length_append] at ih ⊢
    rcases ok c k hk with rfl | rfl | rfl <;> simp <;> omega
theorem runs_len {ma : Ma} (ok : okMa ma) : ∀ (l r : List Nat), (∀ c ∈ r, (lk ma c).isSome = true) → (runs ma r l).length = r.length + l.length
  | [], r, h => by unfold runs; rw [inOrd_len ok r h]; rfl
  | c :: l, r, h => by
    unfold runs
    split
    · rename_i hc
      rw [runs_len ok l _ (fun d hd => by
        rcases List.mem_append.mp hd with hd | hd
        · exact h d hd
        · have : d = c := by simpa using hd
          rw [this]; exact hc)]
      simp; omega
    · rw [List.length_append, List.length_cons, inOrd_len ok r h, runs_len ok l [] (fun _ h => nomatch h)]
      simp
/-! ### tables that can stand -/
structure okTab (sg : Nat → Bool) (fo : Fo) (ma : Ma) : Prop where
  fn : (fo.map (·.1)).Nodup
  mn : (ma.map (·.1)).Nodup
  fs : ∀ p ∈ fo, sg p.1 = true
  fw : ∀ p ∈ fo, 1 ≤ p.2.length ∧ p.2.length ≤ 3 ∧ ∀ c ∈ p.2, sg c = true ∧ lk fo c = none
  ms : ∀ p ∈ ma, sg p.1 = true ∧ (p.2 = 1 ∨ p.2 = 2 ∨ p.2 = 3) ∧ lk fo p.1 = none
  fl : fo.length ≤ 40
  ml : ma.length ≤ 8
theorem lk_mem {α : Type} {m : List (Nat × α)} {c : Nat} {v : α} (h : lk m c = some v) : (c, v) ∈ m := by
  unfold lk at h
  obtain ⟨p, h1, h2⟩ := Option.map_eq_some_iff.mp h
  have := List.find?_some h1
  have : p.1 = c := of_decide_eq_true this
  subst h2
  rw [← this]
  exact List.mem_of_find?_eq_some h1
theorem lk_none {α : Type} {m : List (Nat × α)} {c : Nat} : lk m c = none ↔ c ∉ m.map (·.1) := by
  unfold lk
  rw [Option.map_eq_none_iff, List.find?_eq_none]
  constructor
  · intro h hc
    obtain ⟨p, hp, e⟩ := List.mem_map.mp hc
    exact h p hp (decide_eq_true e)
  · intro h p hp e
    exact h (List.mem_map.mpr ⟨p, hp, of_decide_eq_true e⟩)
section
variable {sg : Nat → Bool} {fo : Fo} {ma : Ma}
theorem okTab.okMa (t : okTab sg fo ma) : okMa ma := fun c n h => (t.ms _ (lk_mem h)).2.1
theorem foldS_none {c : Nat} (h : lk fo c = none) : foldS fo c = [c] := by unfold foldS; rw [h]; rfl
theorem foldS_some {c : Nat} {w : List Nat} (h : lk fo c = some w) : foldS fo c = w := by unfold foldS; rw [h]; rfl
theorem foldS_ok (t : okTab sg fo ma) {c : Nat} (hc : sg c = true) : 1 ≤ (foldS fo c).length ∧ (foldS fo c).length ≤ 3 ∧ ∀ d ∈ foldS fo c, sg d = true ∧ lk fo d = none := by
  cases h : lk fo c with
  | none => rw [foldS_none h]; exact ⟨by simp, by simp, fun d hd => by simp at hd; subst hd; exact ⟨hc, h⟩⟩
  | some w => rw [foldS_some h]; exact t.fw _ (lk_mem h)
theorem folded_mem (t : okTab sg fo ma) {l : List Nat} (hl : ∀ c ∈ l, sg c = true) : ∀ d ∈ folded fo l, sg d = true ∧ lk fo d = none := fun d hd => by
  unfold folded at hd
  obtain ⟨w, hw, hd⟩ := List.mem_flatten.mp hd
  obtain ⟨c, hc, rfl⟩ := List.mem_map.mp hw
  exact (foldS_ok t (hl c hc)).2.2 d hd
theorem folded_len (t : okTab sg fo ma) : ∀ {l : List Nat}, (∀ c ∈ l, sg c = true) → l.length ≤ (folded fo l).length ∧ (folded fo l).length ≤ 3 * l.length
  | [], _ => ⟨Nat.le_refl _, Nat.le_refl _⟩
  | c :: l, h => by
    obtain ⟨h1, h2⟩ := folded_len t (l := l) fun d hd => h d (List.mem_cons_of_mem _ hd)
    have h3 := foldS_ok t (h c (by simp))
    unfold folded at h1 h2 ⊢
    rw [List.map_cons, List.flatten_cons, List.length_append, List.length_cons]
    omega
theorem folded_id : ∀ {l : List Nat}, (∀ c ∈ l, lk fo c = none) → folded fo l = l
  | [], _ => rfl
  | c :: l, h => by
    have := folded_id (l := l) fun d hd => h d (List.mem_cons_of_mem _ hd)
    unfold folded at this ⊢
    rw [List.map_cons, List.flatten_cons, this, foldS_none (h c (by simp))]; rfl
theorem key_mem (t : okTab sg fo ma) {l : List Nat} (hl : ∀ c ∈ l, sg c = true) : ∀ d ∈ key fo ma l, sg d = true ∧ lk fo d = none := fun d hd => by
  rcases runs_mem _ _ hd with h | h
  · exact nomatch h
  · exact folded_mem t hl d h
theorem key_len (t : okTab sg fo ma) {l : List Nat} (hl : ∀ c ∈ l, sg c = true) : l.length ≤ (key fo ma l).length ∧ (key fo ma l).length ≤ 3 * l.length := by
  unfold key
  rw [runs_len t.okMa _ [] (fun _ h => nomatch h)]
  simpa using folded_len t hl
theorem key_key (t : okTab sg fo ma) {l : List Nat} (hl : ∀ c ∈ l, sg c = true) : key fo ma (key fo ma l) = key fo ma l := by
  have h := folded_id (fo := fo) (l := key fo ma l) fun c hc => (key_mem t hl c hc).2
  show runs ma [] (folded fo (key fo ma l)) = key fo ma l
  rw [h]
  exact runs_runs t.okMa _
end
/-! ### putting neighbours right, one after the other -/
def inv (ma : Ma) : List Nat → Nat
  | [] => 0
  | a :: l => (l.filter (wrong ma a)).length + inv ma l
theorem inv_swap {ma : Ma} {a b : Nat} (h : wrong ma a b = true) (hn : wrong ma b a = false) (y : List Nat) : ∀ x : List Nat, inv ma (x ++ b :: a :: y) + 1 = inv ma (x ++ a :: b :: y)
  | [] => by
    show inv ma (b :: a :: y) + 1 = inv ma (a :: b :: y)
    simp only [inv, List.filter_cons, h, hn, if_true, List.length_cons]
    simp; omega
  | c :: x => by
    show inv ma (c :: (x ++ b :: a :: y)) + 1 = inv ma (c :: (x ++ a :: b :: y))
    have ih := inv_swap h hn y x
    have e : ((x ++ b :: a :: y).filter (wrong ma c)).length = ((x ++ a :: b :: y).filter (wrong ma c)).length := by
      simp only [List.filter_append, List.length_append, List.filter_cons]
      by_cases h1 : wrong ma c a = true <;> by_cases h2 : wrong ma c b = true <;> simp [h1, h2]
    simp only [inv]
    omega
theorem wrong_anti {ma : Ma} {a b : Nat} (h : wrong ma a b = true) : wrong ma b a = false := by
  unfold wrong at h ⊢
  cases h1 : lk ma a with
  | none => rw [h1] at h; cases h
  | some m =>
    cases h2 : lk ma b with
    | none => rfl
    | some n =>
      rw [h1, h2] at h
      have h := of_decide_eq_true h
      exact decide_eq_false (by omega)
end Nm

set_option Elab.async false
set_option linter.all false
set_option maxRecDepth 100000
set_option maxHeartbeats 1000000
namespace Nm
open PySem PySem.Spec L2
/-! ### texts in order -/
def leS (a b : Str) : Prop := ¬ b.cps.toList < a.cps.toList
instance (a b : Str) : Decidable (leS a b) := by unfold leS; infer_instance
theorem leS_refl (a : Str) : leS a a := by unfold leS; exact List.lt_irrefl _
theorem leS_trans {a b c : Str} (h1 : leS a b) (h2 : leS b c) : leS a c := by
  have h : a.cps.toList ≤ c.cps.toList := List.le_trans (l₁ := a.cps.toList) (l₂ := b.cps.toList) h1 h2
  exact h
theorem leS_total (a b : Str) : leS a b ∨ leS b a := by
  have h : a.cps.toList ≤ b.cps.toList ∨ b.cps.toList ≤ a.cps.toList := List.le_total _ _
  exact h
theorem leS_antisymm {a b : Str} (h1 : leS a b) (h2 : leS b a) : a = b := by
  have h : a.cps.toList = b.cps.toList := List.le_antisymm (show a.cps.toList ≤ b.cps.toList from h1) (show b.cps.toList ≤ a.cps.toList from h2)
  exact str_ext h
theorem sort_unique : ∀ {xs ys : List Str}, xs.Perm ys → xs.Pairwise leS → ys.Pairwise leS → xs = ys
  | [], ys, p, _, _ => (List.nil_perm.mp p).symm ▸ rfl
  | x :: xs, ys, p, h1, h2 => by
    have hx : x ∈ ys := p.subset List.mem_cons_self
    match ys, h2, p, hx with
    | y :: ys, h2, p, hx =>
      have hy : y ∈ x :: xs := p.symm.subset List.mem_cons_self
      rw [List.pairwise_cons] at h1 h2
      have e : x = y := by
        rcases List.mem_cons.mp hx with e | hx
        · exact e
        · rcases List.mem_cons.mp hy with e | hy
          · exact e.symm
          · exact leS_antisymm (h1.1 y hy) (h2.1 x hx)
      subst e
      rw [sort_unique (List.Perm.cons_inv p) h1.2 h2.2]
def sortS (ks : List Str) : List Str := ks.mergeSort fun a b => decide (leS a b)
theorem sortS_perm (ks : List Str) : (sortS ks).Perm ks := List.mergeSort_perm _ _
theorem sortS_pair (ks : List Str) : (sortS ks).Pairwise leS := by
  have h := List.pairwise_mergeSort (le := fun a b => decide (leS a b)) (fun a b c h1 h2 => decide_eq_true (leS_trans (of_decide_eq_true h1) (of_decide_eq_true h2))) (fun a b => by
    rcases leS_total a b with h | h
    · simp [h]
    · simp [h]) ks
  exact h.imp fun h => of_decide_eq_true h
theorem rising_pair : ∀ (l : List Str) (p : Str), PyProof.Rows.risingS p l = true → (p :: l).Pairwise leS
  | [], p, _ => by simp
  | x :: r, p, h => by
    simp only [PyProof.Rows.risingS, Bool.and_eq_true, Bool.not_eq_true'] at h
    have ih := rising_pair r x h.2
    have px : leS p x := by
      have := h.1
      rw [PyProof.Rows.ltCps_eq] at this
      exact of_decide_eq_false this
    rw [List.pairwise_cons]
    refine ⟨fun y hy => ?_, ih⟩
    rcases List.mem_cons.mp hy with rfl | hy
    · exact px
    · exact leS_trans px ((List.pairwise_cons.mp ih).1 y hy)
theorem sortedS_is {ys ks : List Str} (p : ys.Perm ks) (h : PyProof.Rows.sortedS ys = true) : ys = sortS ks := by
  have hp : ys.Pairwise leS := by
    match ys, h with
    | [], _ => exact List.Pairwise.nil
    | x :: r, h => exact rising_pair r x h
  exact sort_unique (p.trans (sortS_perm ks).symm) hp (sortS_pair ks)

section
variable {K : PySem.W.Frag} {F H : Hp} {σ : L2.St} {ta tb tc te : TE} {d : D}
/-! ### keys and dicts -/
def kD : Key → D
  | .inl i => .int i
  | .inr x => .str x
def valD (es : List (Key × D)) (k : Key) : Option D := (es.find? fun kv => decide (kv.1 = k)).map (·.2)
theorem DenK.val : ∀ {kvs : List (Key × V)} {es : List (Key × D)} (k : Key), DenK K F kvs es → (∃ v d, valV kvs k = some v ∧ valD es k = some d ∧ Den K F v d) ∨ (valV kvs k = none ∧ valD es k = none)
  | _, _, k, .nil => .inr ⟨rfl, rfl⟩
  | (k0, v) :: kvs, (_, d) :: es, k, .cons h t => by
    by_cases e : k0 = k
    · refine .inl ⟨v, d, ?_, ?_, h⟩
      · unfold valV; simp [List.find?_cons, e]
      · unfold valD; simp [List.find?_cons, e]
    · have h1 : valV ((k0, v) :: kvs) k = valV kvs k := by unfold valV; simp [List.find?_cons, e]
      have h2 : valD ((k0, d) :: es) k = valD es k := by unfold valD; simp [List.find?_cons, e]
      rw [h1, h2]
      exact DenK.val k t
theorem DenK.keys : ∀ {kvs : List (Key × V)} {es : List (Key × D)}, DenK K F kvs es → kvs.map (·.1) = es.map (·.1)
  | _, _, .nil => rfl
  | _, _, .cons _ t => by rw [List.map_cons, List.map_cons, t.keys]
theorem DenK.length {kvs : List (Key × V)} {es : List (Key × D)} (h : DenK K F kvs es) : kvs.length = es.length := by
  have := congrArg List.length h.keys
  simpa using this
theorem den_key {k : Key} {y : V} (h : Den K F y (kD k)) : y = kV k := by
  cases k with
  | inl i => cases h; rfl
  | inr x => cases h; rfl
theorem rv_ix_dic {es : List (Key × D)} {k : Key} {a : D} (ha : a = kD k) (h : valD es k = some d) : RvD K (rIxA K) (.dic es) a d := fun F H x y s hx hy Q q => by
  subst ha
  have ey := den_key hy
  subst ey
  cases hx with
  | dic r l =>
    rcases l.val k with ⟨v, d', h1, h2, h3⟩ | ⟨_, h2⟩
    · rw [h] at h2; cases h2
      exact .inr ⟨_, v, rfl, .inl ⟨_, k, .inr ⟨_, s _ _ r⟩, rfl, h1.symm⟩, q _ F H (Ext.refl s) h3⟩
    · rw [h] at h2; cases h2
theorem in_dic {es : List (Key × D)} {k : Key} {f : Bool → Bool} {F H : Hp} {x y : V} {Q : VK} (s : Same F H) (hx : Den K F x (kD k)) (hy : Den K F y (.dic es)) (q : ∀ v F' H', Ext [] F H F' H' → Den K F' v (.bl (f (valD es k).isSome)) → Q v H') : rInDict f x y H Q := by
  have ex := den_key hx
  subst ex
  cases hy with
  | dic r l =>
    refine ⟨_, _, rfl, .inl ⟨_, k, .inr ⟨_, s _ _ r⟩, rfl, rfl⟩, ?_⟩
    rcases l.val k with ⟨v, d', h1, h2, h3⟩ | ⟨h1, h2⟩
    · rw [h1]; rw [h2] at q; exact q _ F H (Ext.refl s) (.bl _)
    · rw [h1]; rw [h2] at q; exact q _ F H (Ext.refl s) (.bl _)
theorem rv_in_dic {es : List (Key × D)} {k : Key} {a : D} (ha : a = kD k) : RvD K (rInA K) a (.dic es) (.bl (valD es k).isSome) := fun F H x y s hx hy Q q => by
  subst ha
  exact .inr (.inr (in_dic (f := id) s hx hy q))
theorem rv_notin_dic {es : List (Key × D)} {k : Key} {a : D} (ha : a = kD k) : RvD K (rNotInA K) a (.dic es) (.bl (!(valD es k).isSome)) := fun F H x y s hx hy Q q => by
  subst ha
  exact .inr (.inr (in_dic (f := (!·)) s hx hy q))
theorem rc_len_dic {es : List (Key × D)} : RcD K (rLenA K) [.dic es] (.int es.length) := fun F H xs s hx Q q => by
  cases hx with
  | cons h t =>
    cases t
    cases h with
    | dic r l =>
      exact .inr (.inr ⟨_, _, rfl, .inr ⟨_, s _ _ r⟩, by rw [l.length]; exact q _ F H (Ext.refl s) (.int _)⟩)
/-! ### dict(d), list(d), list(text), sorted -/
def rDictA : List V → Hp → VK → Prop := fun xs H Q => ∃ (a : Addr) (kvs : List (Key × V)), xs = [.ref a] ∧ Rd H a (.dK kvs) ∧ ∀ p, H p = none → Q (.ref p) (upd H p (.dK kvs))
theorem c_dict {X : Cx} : CallR X (.type "dict") rDictA := call_dictD
/-! ### dicts that are data are locked for good -/
def tLk (te : TE) : TE := fun σ H Q => te σ H fun v H1 => Q v H1 ∨ ∃ d u, v = .ref d ∧ H1 d = some u ∧ Mut (some u) ∧ ∀ od, Q v (upd H1 d (.frz od u))
theorem pe_lk {X : Cx} {e : Expr} {t : TE} (h : PE X e t) : PE X e (tLk t) := by
  refine ⟨fun pins s σ H Q I hw => ?_⟩
  refine thn (h.run pins s σ H _ I hw) fun u s1 ⟨x, H1, I1, r, q⟩ => ?_
  rcases q with q | ⟨d, o, rfl, hd, mu, q⟩
  · exact ⟨x, H1, I1, r, q⟩
  · obtain ⟨od, I2⟩ := I1.lock hd mu
    exact ⟨_, _, I2, r, q od⟩
theorem ev_dnew : EvD K (tLk tDNewK) σ F (.dic []) := fun H s Q q p hp => .inr ⟨p, _, rfl, upd_same, trivial, fun od => by rw [upd_upd]; exact q _ _ _ (Ext.new s hp) (.dic upd_same .nil)⟩
theorem ev_disp1 {x : Str} {d : D} {v : V} (hd : ∀ F, Den K F v d) : EvD K (tLk (tDisp [(tC (.str x), tC v)])) σ F (.dic [(.inr x, d)]) := fun H s Q q p hp => by
  refine ⟨upd_same, [(.inr x, v)], rfl, by simp, .inr ⟨p, _, rfl, upd_same, trivial, fun od => ?_⟩⟩
  rw [upd_upd, upd_upd]
  exact q _ _ _ (Ext.new s hp) (.dic upd_same (.cons (hd _) .nil))
/-- dict(d), locked -/
theorem ev_dict {tr : TA} {es : List (Key × D)} (h : EvA K tr σ F [.dic es]) : EvD K (tLk (tCB rDictA tr)) σ F (.dic es) := fun H s Q q => h H s _ fun vs F1 H1 x1 l => by
  cases l with
  | cons a t =>
    cases t
    cases a with
    | dic r l => exact ⟨_, _, rfl, .inr ⟨_, x1.s _ _ r⟩, fun p hp => .inr ⟨p, _, rfl, upd_same, trivial, fun od => by rw [upd_upd]; exact q _ _ _ (x1.tr (Ext.new x1.s hp)) (.dic upd_same (DenK.mono (Ext.new x1.s hp).f es l))⟩⟩
/-- for k in d -/
theorem ei_keys {es : List (Key × D)} (h : EvD K te σ F (.dic es)) : EvI K (iSeq K te) σ F (es.map fun e => kD e.1) := fun H s R q => .inr (.inr (.inr (h H s _ fun v F1 H1 x1 d1 => by
  cases d1 with
  | dic hh l =>
    rename_i a o kvs
    refine ⟨a, o, rfl, .inl ⟨kvs, x1.s _ _ hh, q _ F1 H1 x1 ⟨fun H => H a = some (.frz o (.dK kvs)), (fun i H x H' => H' = H ∧ ∃ k v, kvs[i]? = some (k, v) ∧ x = kV k), ?_, fun H s => s _ _ hh, fun i H x H' hi s y => ?_⟩⟩⟩
    · rw [List.length_map, ← l.length]; exact walk_keys
    · obtain ⟨rfl, k, v, y, rfl⟩ := y
      refine ⟨kD k, F1, ?_, Ext.refl s, ?_⟩
      · have e := congrArg (fun l => l[i]?) l.keys
        simp only [List.getElem?_map, y, Option.map_some] at e
        rw [List.getElem?_map]
        cases z : es[i]? with
        | none => rw [z] at e; cases e
        | some p => rw [z] at e; simp at e; rw [e]; rfl
      · cases k with
        | inl n => exact .int n
        | inr x => exact .str x)))
def rSortD : List V → Hp → VK → Prop := fun xs H Q => ∃ (a : Addr) (kvs : List (Key × V)) (ks : List Str), xs = [.ref a] ∧ Rd H a (.dK kvs) ∧ kvs.map (·.1) = ks.map Sum.inr ∧ ks.length < 64 ∧
    ∀ ys p, ys.Perm ks → PyProof.Rows.sortedS ys = true → H p = none → Q (.ref p) (upd H p (.lst (ys.map V.str)))
def rSortedA (K : PySem.W.Frag) : List V → Hp → VK → Prop := fun xs H Q => rSortD xs H Q ∨ rSortedS K xs H Q
theorem c_sorted {X : Cx} (hc : X.calm = true) : CallR X (.builtin "sorted") (rSortedA X.K) := calr_or (call_sortedD hc) cr_sortedS
theorem DenL.strs : ∀ (ys : List Str), DenL K F (ys.map V.str) (ys.map D.str)
  | [] => .nil
  | y :: ys => .cons (.str y) (DenL.strs ys)
theorem rc_sorted_dic {es : List (Key × D)} {ks : List Str} (h : es.map (·.1) = ks.map Sum.inr) (hl : ks.length < 64) : RcD K (rSortedA K) [.dic es] (.lst ((sortS ks).map D.str)) := fun F H xs s hx Q q => by
  cases hx with
  | cons a t =>
    cases t
    cases a with
    | dic r l =>
      refine .inl ⟨_, _, ks, rfl, .inr ⟨_, s _ _ r⟩, by rw [l.keys]; exact h, hl, fun ys p h1 h2 hp => ?_⟩
      rw [sortedS_is h1 h2]
      exact q _ _ _ (Ext.new s hp) (.lst upd_same (DenL.strs _))
theorem rc_sorted_lst {ks : List Str} (hl : ks.length < 64) : RcD K (rSortedA K) [.lst (ks.map D.str)] (.lst ((sortS ks).map D.str)) := fun F H xs s hx Q q => by
  cases hx with
  | cons a t =>
    cases t
    cases a with
    | lst r l =>
      rw [denL_strs l] at r
      refine .inr ⟨_, ks, rfl, SqL.of (s _ _ r), hl, fun ys p h1 h2 hp => ?_⟩
      rw [sortedS_is h1 h2]
      exact q _ _ _ (Ext.new s hp) (.lst upd_same (DenL.strs _))
/-- list(text) -/
def rListS : List V → Hp → VK → Prop := fun xs H Q => ∃ z : Str, xs = [.str z] ∧ z.length ≤ sizeLine ∧ ∀ p, H p = none → Q (.ref p) (upd H p (.lst (z.cps.toList.map fun c => V.str ⟨#[c]⟩)))
theorem vals_ix : ∀ (xs : List V) (us : List Value), xs.length = us.length → (∀ (i : Nat) x u, xs[i]? = some x → us[i]? = some u → RelV x u) → Vals xs us
  | [], [], _, _ => .nil
  | x :: xs, u :: us, h, k => .cons (k 0 x u rfl rfl) (vals_ix xs us (by simpa using h) fun i y w h1 h2 => k (i + 1) y w (by simpa using h1) (by simpa using h2))
theorem vals_signs {z : Str} {acc : Array Value} (h : ItemsOf (SignAt z) acc z.cps.size) : Vals (z.cps.toList.map fun c => V.str ⟨#[c]⟩) acc.toList := by
  refine vals_ix _ _ (by simp [h.1]) fun i x u h1 h2 => ?_
  obtain ⟨c, t, hc, rfl⟩ := h.2 i u (by simpa using h2)
  rw [List.getElem?_map, Array.getElem?_toList, hc] at h1
  cases h1
  exact ⟨t, rfl⟩
theorem c_list_str {X : Cx} (hc : X.calm = true) : CallR X (.type "list") rListS := by
  intro pins s σ H xs us Q I r h
  obtain ⟨z, rfl, hz, q⟩ := h
  obtain ⟨u, rfl, t, rfl⟩ := vals1 r
  refine call_list_str (I.ok.hd hc) z t (fun h' tk acc c hk ho hi => ?_) hz
  have hv := vals_signs hi
  refine ⟨.ref _, upd H s.heap.objs.size (.lst (z.cps.toList.map fun c => V.str ⟨#[c]⟩)), I.laid (t' := tk) hk (Nat.le_refl _) ⟨?_, acc.toList, c, hv, by simpa using ho⟩, rfl, q _ (I.hok.fresh (Nat.le_refl _))⟩
  rw [List.length_map]
  have : z.cps.toList.length = z.length := by simp [Str.length]
  rw [this]; exact hz
def rListA (K : PySem.W.Frag) : List V → Hp → VK → Prop := fun xs H Q => (∃ p ys, xs = [.ref p] ∧ (SqL K H p ys ∨ SqT K H p ys) ∧ ∀ l, H l = none → Q (.ref l) (upd H l (.lst ys))) ∨ rListS xs H Q ∨
  ∃ (a : Addr) (kvs : List (Key × V)), xs = [.ref a] ∧ Rd H a (.dK kvs) ∧ ∀ p, H p = none → Q (.ref p) (upd H p (.lst (kvs.map fun kv => kV kv.1)))
theorem c_list {X : Cx} (hc : X.calm = true) : CallR X (.type "list") (rListA X.K) := calr_or call_list_of (calr_or (c_list_str hc) (call_listD hc))
/-! ### stars in displays -/
theorem ea_star_lst {tr : TA} {ds es : List D} (h : EvD K te σ F (.lst ds)) (hr : EvA K tr σ F es) : EvA K (StX.tStar K te tr) σ F (ds ++ es) := fun H s Q q =>
  h H s _ fun v F1 H1 x1 d1 => by
    cases d1 with
    | lst a l =>
      refine ⟨_, _, rfl, .inr (SqL.of (x1.s _ _ a)), (hr.up x1.f) H1 x1.s _ fun vs F2 H2 x2 l2 => q _ F2 H2 (x1.tr x2) ((l.up x2.f).append l2)⟩
/-! ### fields and calls of objects -/
theorem DenF.look : ∀ {fs : List (Str × V)} {gs : List (Str × D)} {f : Str} {d : D}, DenF K F fs gs → gs.lookup f = some d → ∃ v, fs.lookup f = some v ∧ Den K F v d
  | _, _, f, d, .nil, h => by simp at h
  | (k, v) :: fs, (_, e) :: gs, f, d, .cons h t, hl => by
    by_cases z : f = k
    · subst z
      simp [List.lookup] at hl ⊢
      subst hl
      exact h
    · have zb : (f == k) = false := by simpa using z
      simp only [List.lookup, zb] at hl ⊢
      exact DenF.look t hl
theorem ev_fld {C : Addr} {gs : List (Str × D)} {f : Str} (c : Cls K C) (n : NoAttr K C f) (h : EvD K te σ F (.obj C gs)) (hl : gs.lookup f = some d) : EvD K (tFld K te f) σ F d := fun H s Q q =>
  h H s _ fun v F1 H1 x1 d1 => by
    cases d1 with
    | obj a l =>
      obtain ⟨w, h1, h2⟩ := l.look hl
      exact ⟨_, C, _, _, w, rfl, x1.s _ _ a, c, n, h1, q _ F1 H1 x1 h2⟩
/-- a call of an object, by its class's __call__ -/
def tCallQ (C : Addr) (sp : Sp) (E : XK) (tf : TE) (t : TA) : TE := fun σ H Q => tf σ H fun y H1 => ∃ a, y = V.ref a ∧ t σ H1 fun vs H2 => (∃ dx fs, H2 a = some (.ins C dx fs)) ∧ sp (V.ref a :: vs) H2 Q E
theorem pe_callQ {X : Cx} {CX : CXT} {k : Nat} {C g : Addr} {fd : FuncData} {ps : List Str} {sp : Sp} {E : XK} {fe e : Expr} {es : List Expr} {pos : Pos} {tf : TE} {tr : TA} (hf : PE X fe tf) (c : StX.CallO X.K C g) (G : FnOk X.prog X.w X.K X.mg X.base CX k g fd ps sp) (hb : Binds X.K fd ps []) (hr : Room k X.A) (hx : Passes CX X E) (ha : PA X (e :: es) tr)
    (ht : eval (.Call fe (e :: es) [] pos) X.env = (do callWith pos (← eval fe X.env) [] (backTo pos (starEach (e :: es) X.env)) (backToKw pos (keywordEach [] X.env))) := by rfl)
    (he : starEach (e :: es) X.env = (false, eval e X.env) :: starEach es X.env := by rfl) (hpl : (backTo pos (starEach es X.env)).any (·.1) = false := by rfl) : PE X (.Call fe (e :: es) [] pos) (tCallQ C sp E tf tr) := by
  have R : FnR X.prog X.w X.K X.mg X.base CX k g sp := (G.raw hb .nil).imp fun vs H Q E h => by rw [List.append_nil]; exact h
  refine ⟨fun pins s σ H Q I h => ?_⟩
  refine PyProof.Rows.Call_ (thn (hf.run pins s σ H _ I h) fun u s1 hh => ?_) ht
  obtain ⟨y, H1, I1, ry, a, ey, q⟩ := hh
  subst ey
  cases (show u = Value.ref a from ry)
  refine StX.callO_with (thn (ha.run pos pins s1 σ H1 _ I1 q) fun us s2 hh => ?_) he hpl
  obtain ⟨vs, H2, I2, r, hi, q2⟩ := hh
  have hi' : StX.InsC X H2 a C := .inr hi
  obtain ⟨ox, od, J, hd⟩ := StX.insC_at I2 hi'
  exact ⟨⟨C, ox, od, J, hd⟩, StX.run_callO c R hr hx I2 hi' r q2⟩
theorem ev_callQ {C : Addr} {gs : List (Str × D)} {tr : TA} {E : XK} {n : Nat} {f : List D → Option D} {es : List D} (hf : EvD K te σ F (.obj C gs)) (ha : EvA K tr σ F es) (he : f (.obj C gs :: es) = some d) (hn : (D.obj C gs :: es).length = n) :
    EvD K (tCallQ C (spP K n f) E te tr) σ F d := fun H s Q q =>
  hf H s _ fun v F1 H1 x1 d1 => by
    have d1' := d1
    cases d1 with
    | obj a l =>
      refine ⟨_, rfl, (ha.up x1.f) H1 x1.s _ fun vs F2 H2 x2 l2 => ⟨⟨_, _, x2.s _ _ (x2.f _ _ a)⟩, F2, _, d, x2.s, .cons (d1'.up x2.f) l2, he, hn, fun w F3 H3 x3 d3 => q w F3 H3 ((x1.tr x2).tr x3) d3⟩⟩
/-- making an object: __init__ as a def that sets fields once -/
def spI (K : PySem.W.Frag) (C : Addr) (n : Nat) (f : List D → Option (List (Str × D))) : Sp := fun vs H Q _ => ∃ F x dx ws ds gs, vs = .ref x :: ws ∧ Same F H ∧ H x = some (.ins C dx []) ∧ F x = none ∧ DenL K F ws ds ∧ ds.length = n ∧ f ds = some gs ∧
  ∀ fs F' H', Ext [x] F H F' H' → F' x = none → H' x = some (.ins C dx fs) → DenF K F' fs gs → Q .non H'
theorem ev_make {C : Addr} {tr : TA} {E : XK} {n : Nat} {f : List D → Option (List (Str × D))} {ds : List D} {gs : List (Str × D)} (ha : EvA K tr σ F ds) (hf : f ds = some gs) (hn : ds.length = n) : EvD K (tMake C (spI K C n f) [] E tr) σ F (.obj C gs) := fun H s Q q =>
  ha H s _ fun vs F1 H1 x1 l1 x dx hx hdx ne => by
    have y1 : Ext [] F1 H1 F1 (upd H1 dx (.own x)) := Ext.newM x1.s hdx
    have hx' : upd H1 dx (.own x) x = none := by rw [upd_ne (Ne.symm ne)]; exact hx
    have y2 : Ext [] F1 (upd H1 dx (.own x)) F1 (upd (upd H1 dx (.own x)) x (.ins C dx [])) := Ext.newM y1.s hx'
    refine ⟨F1, x, dx, vs, ds, gs, by simp, y2.s, upd_same, x1.s.free hx, l1, hn, hf, fun fs F2 H2 x2 fx hx2 l2 => ⟨rfl, ?_⟩⟩
    have z : Ext [] F1 H1 F2 H2 := Ext.forget (y1.tr y2) x2 hx
    have z2 := Ext.freeze z hx hx2 fx
    exact q _ _ _ (x1.tr z2) (.obj upd_same (DenF.mono (same_new fx) gs l2))
end
end Nm

set_option Elab.async false
set_option linter.all false
set_option maxRecDepth 100000
set_option maxHeartbeats 1000000
namespace Nm
open PySem PySem.Spec L2
/-- f(e, *y), by a promise of data -/
theorem pe_callS {X : Cx} {CX : CXT} {k : Nat} {f : Addr} {fd : FuncData} {ps : List Str} {sp : Sp} {E : XK} {x : Str} {e : Expr} {es : List Expr} {p pos : Pos} {t : TA} (G : FnOk X.prog X.w X.K X.mg X.base CX k f fd ps sp) (hr : Room k X.A) (hg : Gl X x) (hm : X.mg x = some (.ref f)) (hk : PySem.W.keepIn X.K (.ref f) = true) (hb : Binds X.K fd ps []) (hx : Passes CX X E) (ha : PA X (e :: es) t) (hd : (x == ("__debug__" : Str)) = false := by decide)
    (he : starEach (e :: es) X.env = (false, eval e X.env) :: starEach es X.env := by rfl) (hst : (backTo pos (starEach es X.env)).any (·.1) = true := by rfl) : PE X (.Call (.Name x p) (e :: es) [] pos) (tCall sp [] E t) :=
  StX.pe_callS2 (G.raw hb .nil) hr hk hg hm hx ha hd he hst
section
variable {K : PySem.W.Frag} {F H : Hp} {σ : L2.St} {ta tb tc te : TE} {d e : D} {r : List Sl} {DE : Ends} {tz : TS}
theorem ea_star_tup {tr : TA} {ds es : List D} (h : EvD K te σ F (.tup ds)) (hr : EvA K tr σ F es) : EvA K (StX.tStar K te tr) σ F (ds ++ es) := fun H s Q q =>
  h H s _ fun v F1 H1 x1 d1 => by
    cases d1 with
    | tup a l =>
      refine ⟨_, _, rfl, .inl (same_t x1.s a), (hr.up x1.f) H1 x1.s _ fun vs F2 H2 x2 l2 => q _ F2 H2 (x1.tr x2) ((l.up x2.f).append l2)⟩
theorem sz0 : 0 ≤ sizeLine := Nat.zero_le _
theorem sz1 : 1 ≤ sizeLine := by rw [sizeLine_eq]; decide
theorem sz2 : 2 ≤ sizeLine := by rw [sizeLine_eq]; decide
theorem sz3 : 3 ≤ sizeLine := by rw [sizeLine_eq]; decide
theorem sz4 : 4 ≤ sizeLine := by rw [sizeLine_eq]; decide
theorem sz5 : 5 ≤ sizeLine := by rw [sizeLine_eq]; decide
def onCh (f : Nat → D) : D → D
  | .str s => (match s.cps.toList with | [c] => f c | _ => .non)
  | _ => .non
def onChB (f : Nat → Bool) : D → Bool
  | .str s => (match s.cps.toList with | [c] => f c | _ => false)
  | _ => false
/-- x, y = a, b -/
theorem q_par {i j : Nat} {tr : TA} (S : Same F H) (E : EnvD K F r σ) (h : EvA K tr σ F [d, e]) (k : ∀ F' H' σ', Ext [] F H F' H' → EnvD K F' ((r.set i (.d d)).set j (.d e)) σ' → tz DE σ' H') : tSeq (tPar i j tr) tz DE σ H :=
  h H S _ fun vs F' H' x l => by
    cases l with
    | cons a t =>
      cases t with
      | cons b t =>
        cases t
        exact ⟨_, _, rfl, k F' H' _ x (EnvD.set j (EnvD.set i (E.up x.f) ⟨_, rfl, a⟩) ⟨_, rfl, b⟩)⟩
/-- what a target does with a datum: the frame behind it -/
def TgD (K : PySem.W.Frag) (g : TG) (d : D) (u : List Sl → List Sl) : Prop := ∀ F H r σ v (Q : L2.St → Hp → Prop), Same F H → EnvD K F r σ → Den K F v d → (∀ σ', EnvD K F (u r) σ' → Q σ' H) → g v σ H Q
theorem tg_name {j : Nat} : TgD K (gName j) d (fun r => r.set j (.d d)) := fun F H r σ v Q S E h k => k _ (EnvD.set j E ⟨v, rfl, h⟩)
theorem tg_two {i j : Nat} : TgD K (gTup K 2 (gCons (gName i) (gCons (gName j) gNil))) (.tup [d, e]) (fun r => (r.set i (.d d)).set j (.d e)) := fun F H r σ v Q S E h k => by
  cases h with
  | tup a l =>
    cases l with
    | cons p t =>
      cases t with
      | cons q t =>
        cases t
        exact ⟨_, _, rfl, same_t S a, rfl, _, _, rfl, _, _, rfl, rfl, k _ (EnvD.set j (EnvD.set i E ⟨_, rfl, p⟩) ⟨_, rfl, q⟩)⟩
theorem q_asgG {g : TG} {u : List Sl → List Sl} (S : Same F H) (E : EnvD K F r σ) (h : EvD K te σ F d) (t : TgD K g d u) (k : ∀ F' H' σ', Ext [] F H F' H' → EnvD K F' (u r) σ' → tz DE σ' H') : tSeq (tAsg te g) tz DE σ H :=
  h H S _ fun v F' H' x dv => t F' H' r σ v _ x.s (E.up x.f) dv fun σ' E' => k F' H' σ' x E'
/-- what is walked, in this heap -/
def EvIH (K : PySem.W.Frag) (wi : TI) (σ : L2.St) (F H : Hp) (items : List D) : Prop := ∀ R : It → Hp → Prop, (∀ J F' H', Ext [] F H F' H' → WalkD K F' J items → R J H') → wi σ H R
theorem s_forH {tb : TS} (M : List Addr) (Pv : Nat → Hp → Hp → List Sl → Prop) {items : List D} {wi : TI} {g : TG} (u : D → List Sl → List Sl) (S : Same F H) (E : EnvD K F r σ) (hi : EvIH K wi σ F H items) (hg : ∀ d, d ∈ items → TgD K g d (u d))
    (h0 : ∀ F' H', Ext [] F H F' H' → Pv 0 F' H' r)
    (hs : ∀ i d F1 H1 F2 H2 r' σ' (N : L2.St → Hp → Prop), items[i]? = some d → Ext M F H F1 H1 → Pv i F1 H1 r' → Ext [] F1 H1 F2 H2 → EnvD K F2 (u d r') σ' →
      (∀ F3 H3 r3 σ3, Ext M F2 H2 F3 H3 → EnvD K F3 r3 σ3 → Pv (i + 1) F3 H3 r3 → N σ3 H3) → tb { DE with nx := N, ct := N, bk := DE.nx } σ' H2)
    (hd : ∀ F' H' r' σ', Ext M F H F' H' → EnvD K F' r' σ' → Pv items.length F' H' r' → DE.nx σ' H') : tFor wi g tb DE σ H :=
  hi _ fun J F1 H1 x1 W1 => by
    obtain ⟨G, Y, w, hg', hy⟩ := W1
    refine ⟨fun i m σ3 H3 => m = items.length - i ∧ i ≤ items.length ∧ ∃ F3 r3, Ext M F H F3 H3 ∧ Same F1 F3 ∧ EnvD K F3 r3 σ3 ∧ Pv i F3 H3 r3, ⟨items.length, by simp, Nat.zero_le _, F1, r, x1.wide (by simp), Same.refl _, E.up x1.f, h0 F1 H1 x1⟩, ?_⟩
    rintro i m σ3 H3 ⟨rfl, hle, F3, r3, x, e, E3, p⟩
    have hG := hg' H3 (e.trans x.s)
    by_cases hlt : i < items.length
    · refine .inr ⟨w.goes i H3 hlt hG, fun σ' H' => ∃ F4 r4, Ext M F H F4 H' ∧ Same F1 F4 ∧ EnvD K F4 r4 σ' ∧ Pv (i + 1) F4 H' r4, fun σ' H' q => ⟨items.length - (i + 1), by omega, rfl, hlt, q⟩, fun v H4 y => ?_⟩
      obtain ⟨d, F2, h1, h2, h3⟩ := hy i H3 v H4 hlt (e.trans x.s) (w.yields i H3 v H4 hlt hG y)
      have x2 := Ext.uni e x.s h2
      have h3' : Den K (uni F3 F2) v d := h3.up (uni_r (x.s.trans h2.same) h2.s)
      refine hg d (List.mem_of_getElem? h1) _ H4 r3 σ3 v _ x2.s (E3.up x2.f) h3' fun σ' E' => ?_
      exact hs i d F3 H3 _ H4 r3 _ _ h1 x p x2 E' fun F5 H5 r5 σ5 x5 E5 p5 => ⟨F5, r5, (x.tl x2).trans x5, (e.trans x2.f).trans x5.f, E5, p5⟩
    · have ei : i = items.length := by omega
      subst ei
      exact .inl ⟨w.stops H3 hG, hd F3 H3 r3 σ3 x E3 p⟩
theorem s_forG {tb : TS} (M : List Addr) (Pv : Nat → Hp → Hp → List Sl → Prop) {items : List D} {wi : TI} {g : TG} (u : D → List Sl → List Sl) (S : Same F H) (E : EnvD K F r σ) (hi : EvI K wi σ F items) (hg : ∀ d, d ∈ items → TgD K g d (u d))
    (h0 : ∀ F' H', Ext [] F H F' H' → Pv 0 F' H' r)
    (hs : ∀ i d F1 H1 F2 H2 r' σ' (N : L2.St → Hp → Prop), items[i]? = some d → Ext M F H F1 H1 → Pv i F1 H1 r' → Ext [] F1 H1 F2 H2 → EnvD K F2 (u d r') σ' →
      (∀ F3 H3 r3 σ3, Ext M F2 H2 F3 H3 → EnvD K F3 r3 σ3 → Pv (i + 1) F3 H3 r3 → N σ3 H3) → tb { DE with nx := N, ct := N, bk := DE.nx } σ' H2)
    (hd : ∀ F' H' r' σ', Ext M F H F' H' → EnvD K F' r' σ' → Pv items.length F' H' r' → DE.nx σ' H') : tFor wi g tb DE σ H := s_forH M Pv u S E (hi H S) hg h0 hs hd
/-! what is worth what in this heap, nothing changed -/
def At (te : TE) (σ : L2.St) (H : Hp) (v : V) : Prop := ∀ Q : VK, Q v H → te σ H Q
theorem at_var {i : Nat} {v : V} (h : σ[i]? = some (some v)) : At (tVar i) σ H v := fun Q q => ⟨v, h, q⟩
theorem at_slot {i : Nat} {v : V} (E : EnvD K F r σ) (h : r[i]? = some (.v v)) : At (tVar i) σ H v := by
  obtain ⟨o, h1, h2⟩ := E.get h
  exact at_var (by rw [h1]; exact congrArg some h2)
theorem at_int {i : Nat} {n : Int} (E : EnvD K F r σ) (h : r[i]? = some (.d (.int n))) : At (tVar i) σ H (.int n) := by
  obtain ⟨o, h1, v, h2, h3⟩ := E.get h
  subst h2
  cases h3
  exact at_var h1
theorem at_str {i : Nat} {n : Str} (E : EnvD K F r σ) (h : r[i]? = some (.d (.str n))) : At (tVar i) σ H (.str n) := by
  obtain ⟨o, h1, v, h2, h3⟩ := E.get h
  subst h2
  cases h3
  exact at_var h1
theorem at_c {v : V} : At (tC v) σ H v := fun _ q => q
theorem at_op {rr : R2} {x y v : V} (ha : At ta σ H x) (hb : At tb σ H y) (h : ∀ Q : VK, Q v H → rr x y H Q) : At (tOp rr ta tb) σ H v := fun Q q => ha _ (hb _ (h Q q))
theorem at_add {i j : Int} (ha : At ta σ H (.int i)) (hb : At tb σ H (.int j)) : At (tOp (rAddA K) ta tb) σ H (.int (i + j)) := at_op ha hb fun Q q => .inl ⟨i, j, rfl, rfl, q⟩
theorem at_sub {i j : Int} (ha : At ta σ H (.int i)) (hb : At tb σ H (.int j)) : At (tOp (rI0 fun i j => V.int (i - j)) ta tb) σ H (.int (i - j)) := at_op ha hb fun Q q => ⟨i, j, rfl, rfl, q⟩
theorem at_ix {p : Addr} {xs : List V} {v : V} {i : Int} (h : H p = some (.lst xs)) (ha : At ta σ H (.ref p)) (hb : At tb σ H (.int i)) (e : atI xs i = some v) : At (tOp (rIxA K) ta tb) σ H v :=
  at_op ha hb fun Q q => .inl (.inl ⟨p, xs, i, v, rfl, rfl, SqL.of h, e, q⟩)
theorem at_len {p : Addr} {xs : List V} (h : H p = some (.lst xs)) (ha : At ta σ H (.ref p)) : At (tCB (rLenA K) (tCons ta tNil)) σ H (.int xs.length) := fun Q q => ha _ (.inl ⟨p, xs, rfl, .inl (SqL.of h), q⟩)
theorem eih_rng1 {m : Nat} (S : Same F H) (h : At ta σ H (.int (m : Nat))) (hm : m ≤ 1000000) : EvIH K (iRng1 (tCons ta tNil)) σ F H ((List.range m).map fun i => .int (i : Nat)) := fun R q => h _ (by
  have one : EvA K (fun _ H2 R => R [.int (m : Nat)] H2) σ F [.int (m : Nat)] := fun H2 s2 R2 q2 => q2 _ F H2 (Ext.refl s2) (.cons (.int _) .nil)
  have := ei_rng1 one (by omega) (by omega) H S R fun J F2 H2 x2 W => q J F2 H2 x2 (by rw [Int.toNat_natCast] at W; exact W)
  exact this)
theorem q_for {tb : TS} (M : List Addr) (Pv : Nat → Hp → Hp → List Sl → Prop) {items : List D} {wi : TI} {j : Nat} (S : Same F H) (E : EnvD K F r σ) (hi : EvI K wi σ F items)
    (h0 : ∀ F' H', Ext [] F H F' H' → Pv 0 F' H' r)
    (hs : ∀ i d F1 H1 F2 H2 r' σ' (N : L2.St → Hp → Prop), items[i]? = some d → Ext M F H F1 H1 → Pv i F1 H1 r' → Ext [] F1 H1 F2 H2 → EnvD K F2 (r'.set j (.d d)) σ' →
      (∀ F3 H3 r3 σ3, Ext M F2 H2 F3 H3 → EnvD K F3 r3 σ3 → Pv (i + 1) F3 H3 r3 → N σ3 H3) → tb { DE with nx := N, ct := N, bk := tz DE } σ' H2)
    (hd : ∀ F' H' r' σ', Ext M F H F' H' → EnvD K F' r' σ' → Pv items.length F' H' r' → tz DE σ' H') : tSeq (tFor wi (gName j) tb) tz DE σ H :=
  s_for (DE := { DE with nx := tz DE }) M Pv S E hi h0 hs hd
/-- a for that changes nothing but its own names -/
theorem q_look {tb : TS} {items : List D} {wi : TI} {g : TG} (u : D → List Sl → List Sl) (R : List Sl → Prop) (S : Same F H) (E : EnvD K F r σ) (hi : EvI K wi σ F items) (hg : ∀ d, d ∈ items → TgD K g d (u d)) (h0 : R r)
    (hs : ∀ d F2 H2 r' σ' (N : L2.St → Hp → Prop), d ∈ items → Same F F2 → Same F2 H2 → R r' → EnvD K F2 (u d r') σ' → (∀ F3 H3 r3 σ3, Ext [] F2 H2 F3 H3 → EnvD K F3 r3 σ3 → R r3 → N σ3 H3) → tb { DE with nx := N, ct := N, bk := tz DE } σ' H2)
    (hd : ∀ F' H' r' σ', Ext [] F H F' H' → EnvD K F' r' σ' → R r' → tz DE σ' H') : tSeq (tFor wi g tb) tz DE σ H :=
  s_forG [] (fun _ _ _ r' => R r') u S E hi hg (fun _ _ _ => h0) (fun i d F1 H1 F2 H2 r' σ' N h1 x p x2 E2 n => hs d F2 H2 r' σ' N (List.mem_of_getElem? h1) (x.f.trans x2.f) x2.s p E2 n) fun F' H' r' σ' x E' p => hd F' H' r' σ' x E' p
theorem s_look {tb : TS} {items : List D} {wi : TI} {g : TG} (u : D → List Sl → List Sl) (R : List Sl → Prop) (S : Same F H) (E : EnvD K F r σ) (hi : EvI K wi σ F items) (hg : ∀ d, d ∈ items → TgD K g d (u d)) (h0 : R r)
    (hs : ∀ d F2 H2 r' σ' (N : L2.St → Hp → Prop), d ∈ items → Same F F2 → Same F2 H2 → R r' → EnvD K F2 (u d r') σ' → (∀ F3 H3 r3 σ3, Ext [] F2 H2 F3 H3 → EnvD K F3 r3 σ3 → R r3 → N σ3 H3) → tb { DE with nx := N, ct := N, bk := DE.nx } σ' H2)
    (hd : ∀ F' H' r' σ', Ext [] F H F' H' → EnvD K F' r' σ' → R r' → DE.nx σ' H') : tFor wi g tb DE σ H :=
  s_forG [] (fun _ _ _ r' => R r') u S E hi hg (fun _ _ _ => h0) (fun i d F1 H1 F2 H2 r' σ' N h1 x p x2 E2 n => hs d F2 H2 r' σ' N (List.mem_of_getElem? h1) (x.f.trans x2.f) x2.s p E2 n) fun F' H' r' σ' x E' p => hd F' H' r' σ' x E' p
/-- d.get(k, x) -/
theorem ev_get2 {es : List (Key × D)} {k : Key} {dk dx : D} (ha : EvD K ta σ F (.dic es)) (hk : EvD K tb σ F dk) (ek : dk = kD k) (hx : EvD K tc σ F dx) : EvD K (tDGet2 ta tb tc) σ F ((valD es k).getD dx) := fun H s Q q =>
  ha H s _ fun v F1 H1 x1 d1 => by
    subst ek
    cases d1 with
    | dic a l =>
      refine ⟨_, rfl, .inl ⟨_, .inr ⟨_, x1.s _ _ a⟩⟩, (hk.up x1.f) H1 x1.s _ fun y F2 H2 x2 d2 => (hx.up (x1.f.trans x2.f)) H2 x2.s _ fun z F3 H3 x3 d3 => ?_⟩
      have ey := den_key d2
      subst ey
      refine ⟨_, .inl ⟨_, k, .inr ⟨_, x3.s _ _ ((x2.f.trans x3.f) _ _ a)⟩, rfl, rfl⟩, ?_⟩
      rcases (DenK.mono (x2.f.trans x3.f) es l).val k with ⟨v, d', h1, h2, h3⟩ | ⟨h1, h2⟩
      · rw [h1]; rw [h2] at q; exact q _ F3 H3 ((x1.tr x2).tr x3) h3
      · rw [h1]; rw [h2] at q; exact q _ F3 H3 ((x1.tr x2).tr x3) d3
/-- [f(x, y) for x in xs for y in ys if p(x, y)] -/
theorem ev_lc2 {items : List D} {ys : D → List D} {f : D → D → D} {p : D → D → Bool} {j j1 : Nat} {vs vs1 : List Nat} {tt1 : TT} {wi wi1 : TI} {N : Nat} (E : EnvD K F r σ) (hi : EvI K wi σ F items) (hn : items.length * N < sizeLine) (hN : ∀ d, d ∈ items → (ys d).length ≤ N)
    (hw : ∀ (σ' : L2.St) (x : Option V), wipe ((wipe σ' vs).set j x) vs = wipe σ' vs) (hw1 : ∀ (σ' : L2.St) (x : Option V), wipe ((wipe σ' vs1).set j1 x) vs1 = wipe σ' vs1)
    (hi1 : ∀ d F' σ', d ∈ items → Same F F' → EnvD K F' ((wipeR r vs).set j (.d d)) σ' → EvI K wi1 σ' F' (ys d))
    (ht : ∀ d e F' σ', d ∈ items → e ∈ ys d → Same F F' → EnvD K F' ((wipeR ((wipeR r vs).set j (.d d)) vs1).set j1 (.d e)) σ' → EvT K tt1 σ' F' (p d e))
    (he : ∀ d e F' σ', d ∈ items → e ∈ ys d → Same F F' → EnvD K F' ((wipeR ((wipeR r vs).set j (.d d)) vs1).set j1 (.d e)) σ' → p d e = true → EvD K te σ' F' (f d e)) :
    EvD K (tLc2 wi (gName j) tYes wi1 (gName j1) tt1 te vs vs1) σ F (.lst (items.flatMap fun d => ((ys d).filter (p d)).map (f d))) := fun H s Q q => hi H s _ fun J F1 H1 x1 W1 Dl hD => by
  obtain ⟨G, Y, w, hg, hy⟩ := W1
  let out : D → List D := fun d => ((ys d).filter (p d)).map (f d)
  have outN : ∀ d, d ∈ items → (out d).length ≤ N := fun d hd => by
    have := List.length_filter_le (p d) (ys d)
    have := hN d hd
    simp only [out, List.length_map]
    omega
  refine ⟨fun i m H' => m = items.length - i ∧ i ≤ items.length ∧ ∃ F' acc, Ext [] F1 H1 F' H' ∧ F' Dl = none ∧ H' Dl = some (.lst acc) ∧ DenL K F' acc ((items.take i).flatMap out) ∧ acc.length ≤ i * N, ⟨items.length, by simp, Nat.zero_le _, F1, [], Ext.newM x1.s hD, x1.s.free hD, upd_same, .nil, Nat.zero_le _⟩, ?_⟩
  rintro i m H' ⟨rfl, hle, F', acc, x, fD, eD, l, hac⟩
  have hG := hg H' (x.f.trans x.s)
  by_cases hlt : i < items.length
  · refine .inr ⟨w.goes i H' hlt hG, fun H' => i + 1 ≤ items.length ∧ ∃ F' acc, Ext [] F1 H1 F' H' ∧ F' Dl = none ∧ H' Dl = some (.lst acc) ∧ DenL K F' acc ((items.take (i + 1)).flatMap out) ∧ acc.length ≤ (i + 1) * N, fun H2 q => ⟨items.length - (i + 1), by omega, rfl, q⟩, fun v H'' y => ?_⟩
    obtain ⟨d, F2, h1, h2, h3⟩ := hy i H' v H'' hlt (x.f.trans x.s) (w.yields i H' v H'' hlt hG y)
    have hd : d ∈ items := List.mem_of_getElem? h1
    have x2 := Ext.uni x.f x.s h2
    have h3' : Den K (uni F' F2) v d := h3.up (uni_r (x.s.trans h2.same) h2.s)
    have fD2 : uni F' F2 Dl = none := x2.n Dl fD (by rw [eD]; simp)
    have eD2 : H'' Dl = some (.lst acc) := x2.same _ _ eD
    have E2 : EnvD K (uni F' F2) ((wipeR r vs).set j (.d d)) ((wipe σ vs).set j (some v)) := EnvD.set j ((EnvD.wipe E vs).up ((x1.f.trans x.f).trans x2.f)) ⟨v, rfl, h3'⟩
    have sF : Same F (uni F' F2) := (x1.f.trans x.f).trans x2.f
    refine ⟨hw σ _, ?_⟩
    refine hi1 d _ _ hd sF E2 H'' x2.s _ fun J1 F3 H3 x3 W3 => ?_
    obtain ⟨G1, Y1, w1, hg1, hy1⟩ := W3
    have fD3 : F3 Dl = none := x3.n Dl fD2 (by rw [eD2]; simp)
    have eD3 : H3 Dl = some (.lst acc) := x3.same _ _ eD2
    refine ⟨fun k n H4 => n = (ys d).length - k ∧ k ≤ (ys d).length ∧ ∃ F4 acc4, Ext [] F1 H1 F4 H4 ∧ Same F3 F4 ∧ F4 Dl = none ∧ H4 Dl = some (.lst acc4) ∧ DenL K F4 acc4 ((items.take i).flatMap out ++ (((ys d).take k).filter (p d)).map (f d)), ⟨(ys d).length, by simp, Nat.zero_le _, F3, acc, (x.tr x2).tr x3, Same.refl _, fD3, eD3, by simpa using l.up (x2.f.trans x3.f)⟩, ?_⟩
    rintro k n H4 ⟨rfl, hk, F4, acc4, x4, s34, fD4, eD4, l4⟩
    have hG1 := hg1 H4 (s34.trans x4.s)
    have len4 : acc4.length ≤ i * N + k := by
      have h5 := l4.length
      have h6 := l.length
      rw [List.length_append, List.length_map, ← h6] at h5
      have h7 := List.length_filter_le (p d) ((ys d).take k)
      have h8 := List.length_take_le k (ys d)
      omega
    have big : (i + 1) * N ≤ items.length * N := Nat.mul_le_mul_right _ hlt
    have big' : (i + 1) * N = i * N + N := by rw [Nat.add_mul, Nat.one_mul]
    have hNd := hN d hd
    by_cases hkt : k < (ys d).length
    · refine .inr ⟨w1.goes k H4 hkt hG1, fun H' => k + 1 ≤ (ys d).length ∧ ∃ F4 acc4, Ext [] F1 H1 F4 H' ∧ Same F3 F4 ∧ F4 Dl = none ∧ H' Dl = some (.lst acc4) ∧ DenL K F4 acc4 ((items.take i).flatMap out ++ (((ys d).take (k + 1)).filter (p d)).map (f d)), fun H2 q => ⟨(ys d).length - (k + 1), by omega, rfl, q⟩, fun v1 H5 y1 => ?_⟩
      obtain ⟨e, F5, g1, g2, g3⟩ := hy1 k H4 v1 H5 hkt (s34.trans x4.s) (w1.yields k H4 v1 H5 hkt hG1 y1)
      have he' : e ∈ ys d := List.mem_of_getElem? g1
      have x5 := Ext.uni s34 x4.s g2
      have g3' : Den K (uni F4 F5) v1 e := g3.up (uni_r (x4.s.trans g2.same) g2.s)
      have fD5 : uni F4 F5 Dl = none := x5.n Dl fD4 (by rw [eD4]; simp)
      have eD5 : H5 Dl = some (.lst acc4) := x5.same _ _ eD4
      have E5 : EnvD K (uni F4 F5) ((wipeR ((wipeR r vs).set j (.d d)) vs1).set j1 (.d e)) ((wipe ((wipe σ vs).set j (some v)) vs1).set j1 (some v1)) := EnvD.set j1 ((EnvD.wipe E2 vs1).up ((x3.f.trans s34).trans x5.f)) ⟨v1, rfl, g3'⟩
      have sF5 : Same F (uni F4 F5) := sF.trans ((x3.f.trans s34).trans x5.f)
      refine ⟨hw1 _ _, ?_⟩
      refine ht d e _ _ hd he' sF5 E5 H5 x5.s _ fun F6 H6 x6 => ?_
      have fD6 : F6 Dl = none := x6.n Dl fD5 (by rw [eD5]; simp)
      have eD6 : H6 Dl = some (.lst acc4) := x6.same _ _ eD5
      cases hp : p d e with
      | true =>
        rw [if_pos rfl]
        refine ((he d e _ _ hd he' sF5 E5 hp).up x6.f) H6 x6.s _ fun z F7 H7 x7 d7 => ?_
        have fD7 : F7 Dl = none := x7.n Dl fD6 (by rw [eD6]; simp)
        have eD7 : H7 Dl = some (.lst acc4) := x7.same _ _ eD6
        refine ⟨acc4, eD7, by omega, hkt, F7, acc4 ++ [z], Ext.mutNew (((x4.tr x5).tr x6).tr x7) hD fD7, (s34.trans x5.f).trans (x6.f.trans x7.f), fD7, upd_same, ?_⟩
        rw [take_succ' g1, List.filter_append, List.map_append, List.filter_cons, if_pos hp, ← List.append_assoc]
        exact (l4.up ((x5.f.trans x6.f).trans x7.f)).append (.cons d7 .nil)
      | false =>
        rw [if_neg (by decide)]
        refine ⟨hkt, F6, acc4, (x4.tr x5).tr x6, (s34.trans x5.f).trans x6.f, fD6, eD6, ?_⟩
        rw [take_succ' g1, List.filter_append, List.map_append, List.filter_cons, if_neg (by rw [hp]; decide)]
        show DenL K F6 acc4 (_ ++ (_ ++ []))
        rw [List.append_nil]
        exact l4.up (x5.f.trans x6.f)
    · have ek : k = (ys d).length := by omega
      subst ek
      refine .inl ⟨w1.stops H4 hG1, hlt, F4, acc4, x4, fD4, eD4, ?_, by omega⟩
      rw [take_succ' h1, List.flatMap_append, List.flatMap_cons, List.flatMap_nil, List.append_nil]
      rw [List.take_length] at l4
      exact l4
  · have ei : i = items.length := by omega
    subst ei
    refine .inl ⟨w.stops H' hG, ?_⟩
    rw [List.take_length] at l
    exact q _ _ _ (x1.tr (Ext.freeze x hD eD fD)) (.lst upd_same (l.up (same_new fD)))
end
end Nm

set_option Elab.async false
set_option linter.all false
set_option maxRecDepth 100000
set_option maxHeartbeats 1000000
namespace Nm
open PySem PySem.Spec L2
/-! ### tables as data -/
def chs (l : List Nat) : List D := l.map fun c => .str ⟨#[c]⟩
def txt (l : List Nat) : D := .str ⟨l.toArray⟩
def foE (fo : Fo) : List (Key × D) := fo.map fun p => (.inr ⟨#[p.1]⟩, txt p.2)
def maE (ma : Ma) : List (Key × D) := ma.map fun p => (.inr ⟨#[p.1]⟩, .int (p.2 : Nat))
def foD (fo : Fo) : D := .dic (foE fo)
def maD (ma : Ma) : D := .dic (maE ma)
def ruleD (fo : Fo) (ma : Ma) : D := .tup [foD fo, maD ma]
def tabD (C : Addr) (fo : Fo) (ma : Ma) : D := .obj C [("rule", ruleD fo ma)]
theorem one_eq {a b : Nat} : ((.inr ⟨#[a]⟩ : Key) = .inr ⟨#[b]⟩) ↔ a = b := by
  constructor
  · intro h
    have h := Sum.inr.inj h
    have h := congrArg Str.cps h
    have h : (#[a] : Array Nat) = #[b] := h
    have h := congrArg Array.toList h
    simpa using h
  · intro h; rw [h]
theorem valD_map {α : Type} (g : α → D) (c : Nat) : ∀ m : List (Nat × α), valD (m.map fun p => ((.inr ⟨#[p.1]⟩ : Key), g p.2)) (.inr ⟨#[c]⟩) = (lk m c).map g
  | [] => rfl
  | (a, w) :: m => by
    have ih := valD_map g c m
    unfold valD lk at ih ⊢
    by_cases e : a = c
    · subst e; simp
    · have e' : ((.inr ⟨#[a]⟩ : Key) = .inr ⟨#[c]⟩) = False := eq_false fun h => e (one_eq.mp h)
      simp only [List.map_cons, List.find?_cons, e', decide_false, e]
      exact ih
theorem valD_fo {fo : Fo} {c : Nat} : valD (foE fo) (.inr ⟨#[c]⟩) = (lk fo c).map txt := valD_map txt c fo
theorem valD_ma {ma : Ma} {c : Nat} : valD (maE ma) (.inr ⟨#[c]⟩) = (lk ma c).map fun n => .int (n : Nat) := valD_map (fun n => .int (n : Nat)) c ma
theorem isSome_fo {fo : Fo} {c : Nat} : (valD (foE fo) (.inr ⟨#[c]⟩)).isSome = (lk fo c).isSome := by rw [valD_fo]; cases lk fo c <;> rfl
theorem isSome_ma {ma : Ma} {c : Nat} : (valD (maE ma) (.inr ⟨#[c]⟩)).isSome = (lk ma c).isSome := by rw [valD_ma]; cases lk ma c <;> rfl
/-! ### promises by a relation -/
def spR (K : PySem.W.Frag) (n : Nat) (R : List D → D → Prop) : Sp := fun vs H Q _ => ∃ F ds d, Same F H ∧ DenL K F vs ds ∧ R ds d ∧ ds.length = n ∧ ∀ v F' H', Ext [] F H F' H' → Den K F' v d → Q v H'
section
variable {K : PySem.W.Frag} {vs : List V} {H F : Hp} {Q : VK} {E : XK} {R : List D → D → Prop} {n : Nat} {σ : L2.St} {ds : List D} {d : D}
theorem spR_len (h : spR K n R vs H Q E) : vs.length = n := by
  obtain ⟨F, ds, d, _, l, _, e, _⟩ := h
  rw [l.length, e]
theorem spR1 (h : spR K 1 R vs H Q E) : ∃ F v x d, vs = [v] ∧ Same F H ∧ Den K F v x ∧ R [x] d ∧ ∀ v F' H', Ext [] F H F' H' → Den K F' v d → Q v H' := by
  obtain ⟨F, ds, d, S, l, hf, hn, k⟩ := h
  match ds, l, hn with
  | [x], .cons hv .nil, _ => exact ⟨F, _, x, d, rfl, S, hv, hf, k⟩
theorem spR2 (h : spR K 2 R vs H Q E) : ∃ F v w x y d, vs = [v, w] ∧ Same F H ∧ Den K F v x ∧ Den K F w y ∧ R [x, y] d ∧ ∀ v F' H', Ext [] F H F' H' → Den K F' v d → Q v H' := by
  obtain ⟨F, ds, d, S, l, hf, hn, k⟩ := h
  match ds, l, hn with
  | [x, y], .cons hv (.cons hw .nil), _ => exact ⟨F, _, _, x, y, d, rfl, S, hv, hw, hf, k⟩
theorem spR3 (h : spR K 3 R vs H Q E) : ∃ F v w u x y z d, vs = [v, w, u] ∧ Same F H ∧ Den K F v x ∧ Den K F w y ∧ Den K F u z ∧ R [x, y, z] d ∧ ∀ v F' H', Ext [] F H F' H' → Den K F' v d → Q v H' := by
  obtain ⟨F, ds, d, S, l, hf, hn, k⟩ := h
  match ds, l, hn with
  | [x, y, z], .cons hv (.cons hw (.cons hu .nil)), _ => exact ⟨F, _, _, _, x, y, z, d, rfl, S, hv, hw, hu, hf, k⟩
theorem ev_callR {ta : TA} (ha : EvA K ta σ F ds) (hf : R ds d) (hn : ds.length = n) : EvD K (tCall (spR K n R) [] E ta) σ F d := fun H s Q q =>
  ha H s _ fun vs F1 H1 x1 l1 => ⟨F1, ds, d, x1.s, by rw [List.append_nil]; exact l1, hf, hn, fun v F2 H2 x2 d2 => q v F2 H2 (x1.tr x2) d2⟩
theorem ev_callQR {te : TE} {tr : TA} {C : Addr} {gs : List (Str × D)} (hf : EvD K te σ F (.obj C gs)) (ha : EvA K tr σ F ds) (he : R (.obj C gs :: ds) d) (hn : (D.obj C gs :: ds).length = n) :
    EvD K (tCallQ C (spR K n R) E te tr) σ F d := fun H s Q q =>
  hf H s _ fun v F1 H1 x1 d1 => by
    have d1' := d1
    cases d1 with
    | obj a l =>
      refine ⟨_, rfl, (ha.up x1.f) H1 x1.s _ fun vs F2 H2 x2 l2 => ⟨⟨_, _, x2.s _ _ (x2.f _ _ a)⟩, F2, _, d, x2.s, .cons (d1'.up x2.f) l2, he, hn, fun w F3 H3 x3 d3 => q w F3 H3 ((x1.tr x2).tr x3) d3⟩⟩
/-- a drop -/
theorem q_drop {te : TE} {tz : TS} {DE : Ends} (S : Same F H) (h : EvD K te σ F d) (k : ∀ F' H', Ext [] F H F' H' → tz DE σ H') : tSeq (tDrop te) tz DE σ H := h H S _ fun _ F' H' x _ => k F' H' x
/-- x in (1, 2, 3) -/
theorem rv_in_ints {i : Int} {ns : List Int} : RvD K (rInA K) (.int i) (.tup (ns.map D.int)) (.bl (ns.any (· == i))) := fun F H x y s hx hy Q q => by
  cases hx
  cases hy with
  | tup r l =>
    rw [denL_ints l] at r
    refine .inr (.inl ⟨_, _, rfl, .inr (same_t s r), rfl, ?_, ?_⟩)
    · rw [List.all_map]; exact List.all_eq_true.mpr fun _ _ => rfl
    · have e : inV (.int i) (ns.map V.int) = ns.any (· == i) := by unfold inV; rw [List.any_map]; rfl
      show Q (.bl (inV (.int i) (ns.map V.int))) H
      rw [e]
      exact q _ F H (Ext.refl s) (.bl _)
/-- __init__ by a relation -/
def spIR (K : PySem.W.Frag) (C : Addr) (n : Nat) (R : List D → List (Str × D) → Prop) : Sp := fun vs H Q _ => ∃ F x dx ws ds gs, vs = .ref x :: ws ∧ Same F H ∧ H x = some (.ins C dx []) ∧ F x = none ∧ DenL K F ws ds ∧ ds.length = n ∧ R ds gs ∧
  ∀ fs F' H', Ext [x] F H F' H' → F' x = none → H' x = some (.ins C dx fs) → DenF K F' fs gs → Q .non H'
theorem spIR_len {C : Addr} {R : List D → List (Str × D) → Prop} (h : spIR K C n R vs H Q E) : vs.length = n + 1 := by
  obtain ⟨F, x, dx, ws, ds, gs, rfl, _, _, _, l, e, _⟩ := h
  rw [List.length_cons, l.length, e]
theorem ev_makeR {C : Addr} {tr : TA} {R : List D → List (Str × D) → Prop} {gs : List (Str × D)} (ha : EvA K tr σ F ds) (hf : R ds gs) (hn : ds.length = n) : EvD K (tMake C (spIR K C n R) [] E tr) σ F (.obj C gs) := fun H s Q q =>
  ha H s _ fun vs F1 H1 x1 l1 x dx hx hdx ne => by
    have y1 : Ext [] F1 H1 F1 (upd H1 dx (.own x)) := Ext.newM x1.s hdx
    have hx' : upd H1 dx (.own x) x = none := by rw [upd_ne (Ne.symm ne)]; exact hx
    have y2 : Ext [] F1 (upd H1 dx (.own x)) F1 (upd (upd H1 dx (.own x)) x (.ins C dx [])) := Ext.newM y1.s hx'
    refine ⟨F1, x, dx, vs, ds, gs, by simp, y2.s, upd_same, x1.s.free hx, l1, hn, hf, fun fs F2 H2 x2 fx hx2 l2 => ⟨rfl, ?_⟩⟩
    have z : Ext [] F1 H1 F2 H2 := Ext.forget (y1.tr y2) x2 hx
    have z2 := Ext.freeze z hx hx2 fx
    exact q _ _ _ (x1.tr z2) (.obj upd_same (DenF.mono (same_new fx) gs l2))
theorem ev_tupC {a : Addr} {xs : List V} {ds : List D} (h : ∀ H, SqT K H a xs) (l : DenL K F xs ds) : EvD K (tC (.ref a)) σ F (.tup ds) := ev_c (.tup (h F) l)
variable {ta tb : TE}
theorem txt_len (w : List Nat) : (⟨w.toArray⟩ : Str).length = w.length := by simp [Str.length]
theorem wipe2 {i j : Nat} (h : i ≠ j) (σ' : L2.St) (x : Option V) : wipe ((wipe σ' [i, j]).set i x) [i, j] = wipe σ' [i, j] := by
  show ((((σ'.set j none).set i none).set i x).set j none).set i none = (σ'.set j none).set i none
  rw [List.set_set, List.set_comm none x (Ne.symm h), List.set_set, List.set_comm none none (Ne.symm h), List.set_set, List.set_comm none none h]
theorem lk_self {α : Type} : ∀ {m : List (Nat × α)} {p : Nat × α}, (m.map (·.1)).Nodup → p ∈ m → lk m p.1 = some p.2
  | (a, w) :: m, p, nd, h => by
    rw [List.map_cons, List.nodup_cons] at nd
    unfold lk
    rcases List.mem_cons.mp h with rfl | h
    · simp
    · have ne : a ≠ p.1 := fun e => nd.1 (by rw [e]; exact List.mem_map.mpr ⟨p, h, rfl⟩)
      rw [List.find?_cons]
      simp only [ne, decide_false]
      exact lk_self nd.2 h
theorem chs_str (l : List Nat) : chs l = (l.map fun c => (⟨#[c]⟩ : Str)).map D.str := by unfold chs; rw [List.map_map]; rfl
theorem chs_app (a b : List Nat) : chs (a ++ b) = chs a ++ chs b := by unfold chs; rw [List.map_append]
theorem chs_len (l : List Nat) : (chs l).length = l.length := by unfold chs; rw [List.length_map]
theorem join_flat (ws : List (List Nat)) : Txt.join Str.empty (ws.map fun w => (⟨w.toArray⟩ : Str)) = ⟨ws.flatten.toArray⟩ := by
  apply str_ext
  rw [join_toList, List.map_map]
  have : (fun y : Str => y.cps.toList) ∘ (fun w : List Nat => (⟨w.toArray⟩ : Str)) = id := by funext w; rfl
  rw [this, List.map_id]
theorem sum_len (ws : List (List Nat)) : ((ws.map fun w => (⟨w.toArray⟩ : Str)).map (·.length)).sum = ws.flatten.length := by
  rw [List.length_flatten, List.map_map]
  congr 1
theorem one_flat (l : List Nat) : (l.map fun c => [c]).flatten = l := by
  induction l with
  | nil => rfl
  | cons c l ih => rw [List.map_cons, List.flatten_cons, ih]; rfl
/-- "".join(words) -/
theorem ev_joinW {ws : List (List Nat)} {ds : List D} (h1 : EvD K ta σ F (.str Str.empty)) (h2 : EvD K tb σ F (.lst ds)) (e : ds = ws.map txt) (hz : ws.flatten.length ≤ 16777216) : EvD K (tM1 (rJoin K) ta tb) σ F (txt ws.flatten) := by
  subst e
  have e2 : ws.map txt = (ws.map fun w => (⟨w.toArray⟩ : Str)).map D.str := by rw [List.map_map]; rfl
  rw [e2] at h2
  have h := ev_join h1 h2 (by rw [sum_len]; show _ + _ * 0 ≤ _; omega)
  rw [join_flat] at h
  exact h
theorem ev_joinC {l : List Nat} {ds : List D} (h1 : EvD K ta σ F (.str Str.empty)) (h2 : EvD K tb σ F (.lst ds)) (e : ds = chs l) (hz : l.length ≤ 16777216) : EvD K (tM1 (rJoin K) ta tb) σ F (txt l) := by
  have h := ev_joinW (ws := l.map fun c => [c]) h1 h2 (by rw [e, List.map_map]; rfl) (by rw [one_flat]; exact hz)
  rw [one_flat] at h
  exact h
end
end Nm

set_option Elab.async false
set_option linter.all false
set_option maxRecDepth 100000
set_option maxHeartbeats 1000000
namespace Nm
open PySem PySem.Spec L2
section
variable {K : PySem.W.Frag} {F H : Hp} {σ : L2.St} {ta tb tm tv te : TE} {d : D} {r : List Sl} {DE : Ends} {b p : Addr} {n c i j : Nat} {R : D → Prop} {E : XK}
theorem Ext.drop {M M' : List Addr} {F1 H1 F2 H2 : Hp} (x : Ext [] F H F1 H1) (y : Ext M F1 H1 F2 H2) (h : ∀ a ∈ M, a ∈ M' ∨ H a = none) : Ext M' F H F2 H2 :=
  ⟨x.f.trans y.f, fun a o m e => y.h a o (fun z => (h a z).elim m (fun q => by rw [q] at e; cases e)) (x.same a o e), y.s, fun a f k => y.n a (x.n a f k) (x.k a k), fun a k => y.k a (x.k a k)⟩
theorem BagAt.set {o u : HO} (w : BagAt F H b n) (ne : b ≠ p) : BagAt F (upd H p u) b n := by
  obtain ⟨x, y, z, o, h⟩ := w
  exact ⟨x, y, z, ⟨o.f, by rw [upd_ne ne]; exact o.h⟩, h⟩
theorem BagAt.ext {M : List Addr} {F1 H1 : Hp} (w : BagAt F H b n) (x : Ext M F H F1 H1) (h : b ∉ M) : BagAt F1 H1 b n := by
  obtain ⟨p, q, r, o, k⟩ := w
  exact ⟨p, q, r, o.ext x h, k⟩
theorem Own.put {o u : HO} {q : Addr} (w : Own F H q o) (ne : q ≠ p) : Own F (upd H p u) q o := ⟨w.f, by rw [upd_ne ne]; exact w.h⟩
/-- an if whose test draws -/
theorem s_ifB {tu tw : TS} (S : Same F H) (w : BagAt F H b (n + c)) (h : EvB K b c te σ F (fun d => ∃ bb, d = .bl bb)) (h1 : ∀ F' H', Ext [b] F H F' H' → BagAt F' H' b n → tu DE σ H') (h2 : ∀ F' H', Ext [b] F H F' H' → BagAt F' H' b n → tw DE σ H') : tIfS (tTest te) tu tw DE σ H :=
  h H n S w _ fun v d F' H' x w' r dv => by
    obtain ⟨bb, rfl⟩ := r
    cases dv
    refine ⟨bb, rfl, ?_⟩
    cases bb with
    | true => exact h1 F' H' x w'
    | false => exact h2 F' H' x w'
theorem q_ifB {tu tw tz : TS} (S : Same F H) (w : BagAt F H b (n + c)) (h : EvB K b c te σ F (fun d => ∃ bb, d = .bl bb)) (h1 : ∀ F' H', Ext [b] F H F' H' → BagAt F' H' b n → tu { DE with nx := tz DE } σ H') (h2 : ∀ F' H', Ext [b] F H F' H' → BagAt F' H' b n → tw { DE with nx := tz DE } σ H') : tSeq (tIfS (tTest te) tu tw) tz DE σ H := s_ifB (DE := { DE with nx := tz DE }) S w h h1 h2
/-- d[k] = drawn -/
theorem s_dputB {kvs : List (Key × V)} {x : Str} (S : Same F H) (EV : EnvD K F r σ) (w : BagAt F H b (n + c)) (h : EvB K b c tv σ F R) (hp : r[i]? = some (.v (.ref p))) (hy : r[j]? = some (.d (.str x))) (o : Own F H p (.dK kvs)) (hl : kvs.length < sizeLine) (ne : p ≠ b)
    (k : ∀ v d F' H', R d → Den K F' v d → Ext [b] F H F' H' → BagAt F' H' b n → Own F' H' p (.dK kvs) → DE.nx σ (upd H' p (.dK (putK kvs (.inr x) v)))) : sDPut (tVar i) (tVar j) tv DE σ H :=
  h H n S w _ fun v d F' H' x1 w' rd dv => by
    obtain ⟨o1, g1, g2⟩ := EV.get hp
    have g2 : o1 = some (.ref p) := g2
    subst g2
    obtain ⟨o2, g3, y, g4, g5⟩ := EV.get hy
    subst g4
    cases g5
    have o' : Own F' H' p (.dK kvs) := o.ext x1 (by simpa using ne)
    exact ⟨_, g1, _, g3, p, _, rfl, .inl ⟨kvs, .inr x, o'.h, rfl, hl, rfl⟩, k v d F' H' rd dv x1 w' o'⟩
theorem putK_new {κ : Type} [DecidableEq κ] {kvs : List (κ × V)} {k : κ} {v : V} (h : ∀ p ∈ kvs, p.1 ≠ k) : putK kvs k v = kvs ++ [(k, v)] := by
  unfold putK
  rw [if_neg]
  intro z
  obtain ⟨p, hp, e⟩ := List.any_eq_true.mp z
  exact h p hp (of_decide_eq_true e)
theorem ones' {P : Nat → Prop} : ∀ {es : List D}, (∀ e ∈ es, ∃ c, e = .str ⟨#[c]⟩ ∧ P c) → ∃ w, es = chs w ∧ ∀ c ∈ w, P c
  | [], _ => ⟨[], rfl, by simp⟩
  | e :: es, h => by
    obtain ⟨c, rfl, hc⟩ := h e (by simp)
    obtain ⟨w, rfl, hw⟩ := ones' (P := P) (es := es) fun e he => h e (List.mem_cons_of_mem _ he)
    exact ⟨c :: w, rfl, fun c' hc' => by
      rcases List.mem_cons.mp hc' with rfl | h
      · exact hc
      · exact hw c' h⟩
theorem sum_one : ∀ w : List Nat, ((w.map fun c => (⟨#[c]⟩ : Str)).map (·.length)).sum = w.length
  | [] => rfl
  | c :: w => by
    have := sum_one w
    simp only [List.map_cons, List.sum_cons, this, List.length_cons]
    show 1 + _ = _
    omega
theorem eb_joinC {P : List Nat → Prop} (h1 : EvD K ta σ F (.str Str.empty)) (h2 : EvB K b c tb σ F (fun d => ∃ w, d = .lst (chs w) ∧ P w ∧ w.length ≤ 1000000)) : EvB K b c (tM1 (rJoin K) ta tb) σ F (fun d => ∃ w, d = txt w ∧ P w) :=
  eb_join h1 h2 fun d ⟨w, e, hp, hz⟩ => by
    refine ⟨w.map fun c => ⟨#[c]⟩, by rw [e, chs_str], ?_, w, ?_, hp⟩
    · rw [sum_one]
      show _ + _ * 0 ≤ _
      omega
    · have := join_flat (w.map fun c => [c])
      rw [one_flat, List.map_map] at this
      exact congrArg D.str this
/-- "".join([text[take(..)] for k in ..]) -/
theorem eb_word {z : Str} {m lo N ci : Nat} {wi : TI} (EV : EnvD K F r σ) (hi : (wipeR r [j])[i]? = some (.v (.ref b))) (hij : i ≠ j) (hw : EvBI K b ci wi σ F (fun ds => lo ≤ ds.length ∧ ds.length ≤ N)) (hN : N < 1000000) (h1 : EvD K ta σ F (.str Str.empty))
    (ha : ∀ F' σ' d, Same F F' → EnvD K F' ((wipeR r [j]).set j (.d d)) σ' → EvD K tb σ' F' (.str z)) (hm : ∀ F' σ' d, Same F F' → EnvD K F' ((wipeR r [j]).set j (.d d)) σ' → EvD K tm σ' F' (.int (m : Nat))) (h0 : 0 < m) (hz : m = z.length) (hz2 : z.length ≤ 100000) :
    EvB K b (ci + N * 1) (tM1 (rJoin K) ta (tLc wi (gName j) tYes (tOp (rIxA K) tb (tCall (spTake K) [] E (tCons (tVar i) (tCons tm tNil)))) [j])) σ F (fun d => ∃ w, d = txt w ∧ lo ≤ w.length ∧ w.length ≤ N ∧ ∀ c ∈ w, c ∈ z.cps.toList) := by
  refine eb_joinC (P := fun w => lo ≤ w.length ∧ w.length ≤ N ∧ ∀ c ∈ w, c ∈ z.cps.toList) h1 (eb_lc (RE := fun _ e => ∃ c, e = .str ⟨#[c]⟩ ∧ c ∈ z.cps.toList) EV hw (fun ds h => h.2) (by rw [sizeLine_eq]; omega) (wipe1 j) (fun ds d F' σ' _ _ s E' => eb_pick_str E' ?_ (ha F' σ' d s E') (hm F' σ' d s E') h0 hz hz2) ?_)
  · rw [List.getElem?_set_ne (Ne.symm hij)]; exact hi
  · intro ds es hd hl hre
    obtain ⟨w, rfl, hw⟩ := ones' (P := fun c => c ∈ z.cps.toList) (es := es) fun e he => by
      obtain ⟨k, hk⟩ := List.mem_iff_getElem?.mp he
      have hlt : k < ds.length := by rw [← hl]; exact (List.getElem?_eq_some_iff.mp hk).1
      exact hre k _ e (List.getElem?_eq_getElem hlt) hk
    rw [chs_len] at hl
    exact ⟨w, rfl, ⟨by omega, by omega, hw⟩, by omega⟩
theorem q_pairAsg {x y : V} {g : TG} {tz : TS} (ha : At ta σ H x) (hb : At tb σ H y) (k : ∀ t, H t = none → g (.ref t) σ (upd H t (.tup [x, y])) (tz DE)) : tSeq (tAsg (tTup (tCons ta (tCons tb tNil))) g) tz DE σ H :=
  ha _ (hb _ ⟨sz2, k⟩)
theorem g_swap {to1 ti1 to2 ti2 : TE} {t p : Addr} {x y : V} {xs : List V} {i j : Nat} {Q : L2.St → Hp → Prop} (ht : H t = some (.tup [x, y])) (h1 : At to1 σ H (.ref p)) (h2 : At ti1 σ H (.int (i : Nat))) (hp : H p = some (.lst xs)) (hi : i < xs.length)
    (h3 : ∀ H, At to2 σ H (.ref p)) (h4 : ∀ H, At ti2 σ H (.int (j : Nat))) (hj : j < xs.length) (k : Q σ (upd H p (.lst ((xs.set i x).set j y)))) : gTup K 2 (gCons (gSub to1 ti1 rSetL) (gCons (gSub to2 ti2 rSetL) gNil)) (.ref t) σ H Q := by
  refine ⟨t, _, rfl, SqT.of ht, rfl, _, _, rfl, ?_⟩
  refine h1 _ (h2 _ ⟨p, xs, _, i, rfl, rfl, hp, Evl.ixN_nat hi, ?_⟩)
  refine ⟨_, _, rfl, ?_⟩
  refine h3 _ _ (h4 _ _ ⟨p, _, _, j, rfl, rfl, upd_same, Evl.ixN_nat (by rw [List.length_set]; exact hj), rfl, ?_⟩)
  rw [upd_upd]
  exact k
/-! ### drawn rules -/
def key7 : List Nat := [65, 49, 66, 50, 95, 90, 57]
def sig7 : List Nat := [97, 97, 98, 99, 39, 58, 94]
def mrk4 : List Nat := [39, 58, 94, 126]
structure Drawn (fo : Fo) (ma : Ma) : Prop where
  fk : (fo.map (·.1)).Sublist key7
  fw : ∀ p ∈ fo, 1 ≤ p.2.length ∧ p.2.length ≤ 3 ∧ ∀ c ∈ p.2, c ∈ sig7
  mq : (ma.map (·.1)).Sublist mrk4
  mc : ∀ p ∈ ma, p.2 = 1 ∨ p.2 = 2 ∨ p.2 = 3
def foV (fo : Fo) : List (Key × V) := fo.map fun p => (.inr ⟨#[p.1]⟩, .str ⟨p.2.toArray⟩)
def maV (ma : Ma) : List (Key × V) := ma.map fun p => (.inr ⟨#[p.1]⟩, .int (p.2 : Nat))
theorem den_foV : ∀ fo : Fo, DenK K F (foV fo) (foE fo)
  | [] => .nil
  | p :: fo => .cons (.str _) (den_foV fo)
theorem den_maV : ∀ ma : Ma, DenK K F (maV ma) (maE ma)
  | [] => .nil
  | p :: ma => .cons (.int _) (den_maV ma)
theorem sub_succ {xs key : List Nat} {i c : Nat} (h : xs.Sublist (key.take i)) (hc : key[i]? = some c) : (xs ++ [c]).Sublist (key.take (i + 1)) ∧ xs.Sublist (key.take (i + 1)) := by
  rw [take_succ' hc]
  exact ⟨h.append (List.Sublist.refl _), h.trans (List.sublist_append_left _ _)⟩
theorem sub_new {xs key : List Nat} {i c : Nat} (nd : key.Nodup) (h : xs.Sublist (key.take i)) (hc : key[i]? = some c) : c ∉ xs := fun hx => by
  have h1 : c ∈ key.take i := h.subset hx
  obtain ⟨k, hk⟩ := List.mem_iff_getElem?.mp h1
  have hk2 := (List.getElem?_eq_some_iff.mp hk).1
  rw [List.length_take] at hk2
  rw [List.getElem?_take_of_lt (by omega)] at hk
  have hi := (List.getElem?_eq_some_iff.mp hc).1
  have e1 := (List.getElem?_eq_some_iff.mp hc).2
  obtain ⟨hk3, e2⟩ := List.getElem?_eq_some_iff.mp hk
  exact (List.pairwise_iff_getElem.mp nd) k i hk3 hi (by omega) (e2.trans e1.symm)
theorem newKey {α : Type} (g : α → V) {m : List (Nat × α)} {c : Nat} (h : c ∉ m.map (·.1)) : ∀ p ∈ (m.map fun p => ((.inr ⟨#[p.1]⟩ : Key), g p.2)), p.1 ≠ .inr ⟨#[c]⟩ := fun p hp z => by
  obtain ⟨q, hq, rfl⟩ := List.mem_map.mp hp
  exact h (List.mem_map.mpr ⟨q, hq, one_eq.mp z⟩)
end
end Nm

set_option Elab.async false
set_option linter.all false
set_option maxRecDepth 100000
set_option maxHeartbeats 1000000
namespace Nm
open PySem PySem.Spec L2
/-! ### lists that are new and not shared: they may still be changed -/
def EvL (K : PySem.W.Frag) (te : TE) (σ : L2.St) (F : Hp) (ds : List D) : Prop := ∀ H, Same F H → ∀ Q : VK, (∀ p xs F' H', H p = none → Ext [] F H F' H' → Own F' H' p (.lst xs) → DenL K F' xs ds → Q (.ref p) H') → te σ H Q
section
variable {K : PySem.W.Frag} {F F' H : Hp} {σ : L2.St} {te ta tb : TE} {r : List Sl} {DE : Ends} {tz : TS} {d : D} {ds : List D} {p : Addr}
theorem EvL.toD (h : EvL K te σ F ds) : EvD K te σ F (.lst ds) := fun H s Q q => h H s Q fun p xs F' H' hp x o l => q _ _ _ (Ext.freeze x hp o.h o.f) (.lst upd_same (l.up (same_new o.f)))
theorem el_is {es : List D} (h : EvL K te σ F ds) (e : ds = es) : EvL K te σ F es := e ▸ h
theorem Ext.back {M : List Addr} {F1 H1 : Hp} (x : Ext M F H F1 H1) (h : H1 p = none) : H p = none := by
  cases e : H p with
  | none => rfl
  | some o => exact absurd h (x.k p (by rw [e]; simp))
theorem el_lst {tr : TA} (h : EvA K tr σ F ds) (hl : ds.length ≤ sizeLine) : EvL K (tLst tr) σ F ds := fun H s Q q =>
  h H s _ fun vs F1 H1 x1 d1 => ⟨by rw [d1.length]; exact hl, fun p hp => q p vs F1 _ (x1.back hp) (x1.tr (Ext.newM x1.s hp)) ⟨x1.s.free hp, upd_same⟩ d1⟩
theorem wipe_get (σ : L2.St) (i : Nat) : ∀ vs : List Nat, (wipe σ vs)[i]? = if i ∈ vs then (if i < σ.length then some none else none) else σ[i]?
  | [] => by simp [wipe]
  | v :: vs => by
    unfold wipe
    rw [List.getElem?_set, wipe_length, wipe_get σ i vs]
    by_cases e : v = i
    · subst e; simp
    · have e' : ¬ i = v := fun z => e z.symm
      simp [e, e']
theorem wipe_set {σ : L2.St} {j : Nat} {x : Option V} {vs : List Nat} (h : j ∈ vs) : wipe (σ.set j x) vs = wipe σ vs := by
  apply List.ext_getElem?
  intro i
  rw [wipe_get, wipe_get, List.length_set]
  by_cases e : i ∈ vs
  · simp [e]
  · have : j ≠ i := fun z => e (z ▸ h)
    simp [e, List.getElem?_set_ne this]
theorem wipe_wipe (σ : L2.St) (vs : List Nat) : wipe (wipe σ vs) vs = wipe σ vs := by
  apply List.ext_getElem?
  intro i
  rw [wipe_get, wipe_get, wipe_length]
  by_cases e : i ∈ vs <;> simp [e]
/-- a target within a comprehension -/
def TgW (K : PySem.W.Frag) (g : TG) (d : D) (u : List Sl → List Sl) (vs : List Nat) : Prop := ∀ F H r σ v (Q : L2.St → Hp → Prop), Same F H → EnvD K F r σ → Den K F v d → (∀ σ', EnvD K F (u r) σ' → wipe σ' vs = wipe σ vs → Q σ' H) → g v σ H Q
theorem tw_name {j : Nat} {vs : List Nat} (h : j ∈ vs) : TgW K (gName j) d (fun r => r.set j (.d d)) vs := fun F H r σ v Q S E h' k => k _ (EnvD.set j E ⟨v, rfl, h'⟩) (wipe_set h)
theorem tw_two {i j : Nat} {vs : List Nat} {e : D} (h1 : i ∈ vs) (h2 : j ∈ vs) : TgW K (gTup K 2 (gCons (gName i) (gCons (gName j) gNil))) (.tup [d, e]) (fun r => (r.set i (.d d)).set j (.d e)) vs := fun F H r σ v Q S E h k => by
  cases h with
  | tup a l =>
    cases l with
    | cons p t =>
      cases t with
      | cons q t =>
        cases t
        exact ⟨_, _, rfl, same_t S a, rfl, _, _, rfl, _, _, rfl, rfl, k _ (EnvD.set j (EnvD.set i E ⟨_, rfl, p⟩) ⟨_, rfl, q⟩) (by rw [wipe_set h2, wipe_set h1])⟩
/-- [f(x) for target in items if p(x)] -/
theorem el_lcG {items : List D} {f : D → D} {pp : D → Bool} {vs : List Nat} {tt : TT} {wi : TI} {g : TG} (u : D → List Sl → List Sl) (E : EnvD K F r σ) (hi : EvI K wi σ F items) (hn : items.length < sizeLine) (hg : ∀ d, d ∈ items → TgW K g d (u d) vs)
    (ht : ∀ d F' σ', d ∈ items → Same F F' → EnvD K F' (u d (wipeR r vs)) σ' → EvT K tt σ' F' (pp d))
    (he : ∀ d F' σ', d ∈ items → Same F F' → EnvD K F' (u d (wipeR r vs)) σ' → pp d = true → EvD K te σ' F' (f d)) :
    EvL K (tLc wi g tt te vs) σ F ((items.filter pp).map f) := fun H s Q q => hi H s _ fun J F1 H1 x1 W1 Dl hD => by
  obtain ⟨G, Y, w, hG, hy⟩ := W1
  refine lc_it w (fun i H' => ∃ F' acc, Ext [] F1 H1 F' H' ∧ F' Dl = none ∧ H' Dl = some (.lst acc) ∧ DenL K F' acc (((items.take i).filter pp).map f)) ?_ ?_ ?_ ?_
  · exact ⟨F1, [], Ext.newM x1.s hD, x1.s.free hD, upd_same, .nil⟩
  · rintro i H' _ ⟨F', acc, x, _⟩
    exact hG H' (x.f.trans x.s)
  · rintro i v H' H'' hlt ⟨F', acc, x, fD, eD, l⟩ y
    obtain ⟨d, F2, h1, h2, h3⟩ := hy i H' v H'' hlt (x.f.trans x.s) y
    have hd : d ∈ items := List.mem_of_getElem? h1
    have x2 := Ext.uni x.f x.s h2
    have h3' : Den K (uni F' F2) v d := h3.up (uni_r (x.s.trans h2.same) h2.s)
    have fD2 : uni F' F2 Dl = none := x2.n Dl fD (by rw [eD]; simp)
    have eD2 : H'' Dl = some (.lst acc) := x2.same _ _ eD
    have sF : Same F (uni F' F2) := (x1.f.trans x.f).trans x2.f
    refine hg d hd _ H'' _ _ v _ x2.s ((EnvD.wipe E vs).up sF) h3' fun σ2 E2 hw2 => ⟨by rw [hw2, wipe_wipe], ?_⟩
    refine ht d _ _ hd sF E2 H'' x2.s _ fun F3 H3 x3 => ?_
    have fD3 : F3 Dl = none := x3.n Dl fD2 (by rw [eD2]; simp)
    have eD3 : H3 Dl = some (.lst acc) := x3.same _ _ eD2
    cases hp : pp d with
    | true =>
      rw [if_pos rfl]
      refine ((he d _ _ hd sF E2 hp).up x3.f) H3 x3.s _ fun z F4 H4 x4 d4 => ?_
      have fD4 : F4 Dl = none := x4.n Dl fD3 (by rw [eD3]; simp)
      have eD4 : H4 Dl = some (.lst acc) := x4.same _ _ eD3
      refine ⟨acc, eD4, ?_, F4, acc ++ [z], Ext.mutNew (((x.tr x2).tr x3).tr x4) hD fD4, fD4, upd_same, ?_⟩
      · have := l.length
        rw [List.length_map] at this
        have h5 := List.length_filter_le pp (items.take i)
        have h6 := List.length_take_le i items
        omega
      · rw [take_succ' h1, List.filter_append, List.map_append, List.filter_cons, if_pos hp]
        exact (l.up ((x2.f.trans x3.f).trans x4.f)).append (.cons d4 .nil)
    | false =>
      rw [if_neg (by decide)]
      refine ⟨F3, acc, (x.tr x2).tr x3, fD3, eD3, ?_⟩
      rw [take_succ' h1, List.filter_append, List.map_append, List.filter_cons, if_neg (by rw [hp]; decide)]
      show DenL K F3 acc (_ ++ [])
      rw [List.append_nil]
      exact l.up (x2.f.trans x3.f)
  · rintro H' ⟨F', acc, x, fD, eD, l⟩
    rw [List.take_length] at l
    exact q Dl acc F' H' (x1.back hD) (x1.tr x) ⟨fD, eD⟩ l
theorem el_lcY {items : List D} {f : D → D} {vs : List Nat} {wi : TI} {g : TG} (u : D → List Sl → List Sl) (E : EnvD K F r σ) (hi : EvI K wi σ F items) (hn : items.length < sizeLine) (hg : ∀ d, d ∈ items → TgW K g d (u d) vs)
    (he : ∀ d F' σ', d ∈ items → Same F F' → EnvD K F' (u d (wipeR r vs)) σ' → EvD K te σ' F' (f d)) :
    EvL K (tLc wi g tYes te vs) σ F (items.map f) := by
  have h := el_lcG (pp := fun _ => true) u E hi hn hg (fun _ _ _ _ _ _ => et_yes) fun d F' σ' h1 h2 h3 _ => he d F' σ' h1 h2 h3
  rwa [List.filter_eq_self.mpr (fun _ _ => rfl)] at h
/-! ### a promise of a new list -/
def spFL (K : PySem.W.Frag) (n : Nat) (R : List D → List D → Prop) : Sp := fun vs H Q _ => ∃ F ds es, Same F H ∧ DenL K F vs ds ∧ R ds es ∧ ds.length = n ∧ ∀ p xs F' H', H p = none → Ext [] F H F' H' → Own F' H' p (.lst xs) → DenL K F' xs es → Q (.ref p) H'
theorem spFL_len {n : Nat} {R : List D → List D → Prop} {vs : List V} {Q : VK} {E : XK} (h : spFL K n R vs H Q E) : vs.length = n := by
  obtain ⟨F, ds, d, _, l, _, e, _⟩ := h
  rw [l.length, e]
theorem el_call {n : Nat} {R : List D → List D → Prop} {tr : TA} {E : XK} {es : List D} (ha : EvA K tr σ F ds) (hf : R ds es) (hn : ds.length = n) : EvL K (tCall (spFL K n R) [] E tr) σ F es := fun H s Q q =>
  ha H s _ fun vs F1 H1 x1 l1 => ⟨F1, ds, es, x1.s, by rw [List.append_nil]; exact l1, hf, hn, fun p xs F2 H2 hp x2 o l => q p xs F2 H2 (x1.back hp) (x1.tr x2) o l⟩
theorem s_retL (S : Same F H) (h : EvL K te σ F ds) (k : ∀ p xs F' H', H p = none → Ext [] F H F' H' → Own F' H' p (.lst xs) → DenL K F' xs ds → DE.rt (.ref p) H') : tRet te DE σ H := h H S _ k
/-- x = a new list, kept as one's own -/
theorem q_asgL {j : Nat} (S : Same F H) (E : EnvD K F r σ) (h : EvL K te σ F ds) (k : ∀ p xs F' H' σ', H p = none → Ext [] F H F' H' → Own F' H' p (.lst xs) → DenL K F' xs ds → EnvD K F' (r.set j (.v (.ref p))) σ' → tz DE σ' H') : tSeq (tAsg te (gName j)) tz DE σ H :=
  h H S _ fun p xs F' H' hp x o l => k p xs F' H' _ hp x o l (EnvD.set (s := .v (.ref p)) j (E.up x.f) rfl)
/-! ### lending -/
theorem lend {o : HO} (w : Own F H p o) (S : Same F H) : Same (upd F p o) H := fun a u h => by
  by_cases z : a = p
  · subst z; rw [upd_same] at h; rw [← h]; exact w.h
  · rw [upd_ne z] at h; exact S a u h
def del (F : Hp) (p : Addr) : Hp := fun a => if a = p then none else F a
theorem del_ne {a : Addr} (h : a ≠ p) : del F p a = F a := if_neg h
theorem Ext.thaw {o : HO} {F1 H1 : Hp} (w : Own F H p o) (S : Same F H) (x : Ext [] (upd F p o) H F1 H1) : Ext [] F H (del F1 p) H1 ∧ Own (del F1 p) H1 p o := by
  refine ⟨⟨fun a u h => ?_, x.h, fun a u h => ?_, fun a h k => ?_, x.k⟩, if_pos rfl, ?_⟩
  · have z : a ≠ p := fun z => by rw [z, w.f] at h; cases h
    rw [del_ne z]
    exact x.f a u (by rw [upd_ne z]; exact h)
  · by_cases z : a = p
    · subst z; unfold del at h; rw [if_pos rfl] at h; cases h
    · rw [del_ne z] at h; exact x.s a u h
  · by_cases z : a = p
    · subst z; exact if_pos rfl
    · rw [del_ne z]; exact x.n a (by rw [upd_ne z]; exact h) k
  · exact x.s _ _ (x.f _ _ upd_same)
/-- the slot seen as data -/
theorem EnvD.see : ∀ {r : List Sl} {σ : L2.St} {i : Nat} {v : V} {d : D}, EnvD K F r σ → σ[i]? = some (some v) → Den K F v d → EnvD K F (r.set i (.d d)) σ
  | _, _, _, _, _, .nil, _, _ => .nil
  | _, _, 0, _, _, .cons _ t, h, e => by
    simp at h
    subst h
    exact .cons ⟨_, rfl, e⟩ t
  | _, _, i + 1, _, _, .cons q t, h, e => .cons q (EnvD.see t (by simpa using h) e)
theorem EnvD.seeV {i : Nat} (E : EnvD K F r σ) (h : r[i]? = some (.v (.ref p))) (e : Den K F (.ref p) d) : EnvD K F (r.set i (.d d)) σ := by
  obtain ⟨o, h1, h2⟩ := E.get h
  have h2 : o = some (.ref p) := h2
  subst h2
  exact E.see h1 e
/-- a test that looks into a list of one's own -/
theorem et_lend {i : Nat} {xs : List V} {tt : TT} {b : Bool} (S : Same F H) (E : EnvD K F r σ) (hi : r[i]? = some (.v (.ref p))) (w : Own F H p (.lst xs)) (l : DenL K F xs ds) (h : ∀ F', Same F F' → EnvD K F' (r.set i (.d (.lst ds))) σ → EvT K tt σ F' b)
    {Q : Bool → Hp → Prop} (k : ∀ F' H', Ext [] F H F' H' → Own F' H' p (.lst xs) → Q b H') : tt σ H Q := by
  have g : Same F (upd F p (.lst xs)) := same_new w.f
  refine h _ g ((E.up g).seeV hi (.lst upd_same (l.up g))) H (lend w S) Q fun F1 H1 x => ?_
  obtain ⟨h1, h2⟩ := Ext.thaw w S x
  exact k _ _ h1 h2
/-- frozen for good -/
theorem Own.freeze {o : HO} (w : Own F H p o) (S : Same F H) : Same (upd F p o) H ∧ Same F (upd F p o) := ⟨lend w S, same_new w.f⟩
/-- l.append(x) -/
theorem s_app {i : Nat} {xs : List V} (S : Same F H) (E : EnvD K F r σ) (hp : r[i]? = some (.v (.ref p))) (w : Own F H p (.lst xs)) (h : EvD K te σ F d) (hz : xs.length < 100000)
    (k : ∀ v F' H', Ext [] F H F' H' → Own F' H' p (.lst xs) → Den K F' v d → DE.nx σ (upd H' p (.lst (xs ++ [v])))) : tDrop (tBM K "list" rAppend (tVar i) (tCons te tNil)) DE σ H := by
  obtain ⟨o, h1, h2⟩ := E.get hp
  have h2 : o = some (.ref p) := h2
  subst h2
  refine ⟨_, h1, .inl ⟨rfl, xs, SqL.of w.h⟩, h H S _ fun v F' H' x dv => ?_⟩
  have w' := w.ext0 x
  exact ⟨p, xs, v, rfl, rfl, w'.h, Nat.lt_of_lt_of_le hz (by rw [sizeLine_eq]; decide), k v F' H' x w' dv⟩
theorem q_app {i : Nat} {xs : List V} (S : Same F H) (E : EnvD K F r σ) (hp : r[i]? = some (.v (.ref p))) (w : Own F H p (.lst xs)) (h : EvD K te σ F d) (hz : xs.length < 100000)
    (k : ∀ v F' H', Ext [] F H F' H' → Own F' H' p (.lst xs) → Den K F' v d → tz DE σ (upd H' p (.lst (xs ++ [v])))) : tSeq (tDrop (tBM K "list" rAppend (tVar i) (tCons te tNil))) tz DE σ H := s_app (DE := { DE with nx := tz DE }) S E hp w h hz k
end
end Nm

set_option Elab.async false
set_option linter.all false
set_option maxRecDepth 100000
set_option maxHeartbeats 1000000
namespace Nm
open PySem PySem.Spec L2
/-! ### sorted signs, pairs by which a table leads from word to word -/
def sortC (ks : List Nat) : List Nat := (sortS (ks.map fun c => (⟨#[c]⟩ : Str))).map fun s => s.cps.toList.headD 0
theorem sortC_map (ks : List Nat) : (sortC ks).map (fun c => (⟨#[c]⟩ : Str)) = sortS (ks.map fun c => (⟨#[c]⟩ : Str)) := by
  unfold sortC
  rw [List.map_map]
  conv => rhs; rw [← List.map_id (sortS _)]
  apply List.map_congr_left
  intro s hs
  obtain ⟨c, _, rfl⟩ := List.mem_map.mp ((sortS_perm _).subset hs)
  rfl
theorem sortC_mem {ks : List Nat} {c : Nat} (h : c ∈ sortC ks) : c ∈ ks := by
  unfold sortC at h
  obtain ⟨s, hs, rfl⟩ := List.mem_map.mp h
  obtain ⟨c, hc, rfl⟩ := List.mem_map.mp ((sortS_perm _).subset hs)
  exact hc
theorem sortC_len (ks : List Nat) : (sortC ks).length = ks.length := by
  unfold sortC
  rw [List.length_map, (sortS_perm _).length_eq, List.length_map]
def fks (fo : Fo) : List Nat := sortC (fo.map (·.1))
def mks (ma : Ma) : List Nat := sortC (ma.map (·.1))
def ltC (a b : Nat) : Bool := decide ([a] < [b])
def mm (ma : Ma) : List (Nat × Nat) := (mks ma).flatMap fun a => ((mks ma).filter fun b => ltC a b && !decide (lk ma a = lk ma b)).map fun b => (a, b)
def prF (fo : Fo) : List (List Nat × List Nat) := (fks fo).map fun c => ([c], foldS fo c)
def prM (ma : Ma) : List (List Nat × List Nat) := (mm ma).map fun p => ([p.1, p.2], [p.2, p.1])
def prs (fo : Fo) (ma : Ma) : List (List Nat × List Nat) := prF fo ++ prM ma
def pairD (p : List Nat × List Nat) : D := .tup [txt p.1, txt p.2]
def isOne (fo : Fo) (ma : Ma) (p : List Nat × List Nat) : Bool := decide (key fo ma p.1 = key fo ma p.2)
def fails (fo : Fo) (ma : Ma) (fo' : Fo) (ma' : Ma) : List (List Nat × List Nat) := (prs fo ma).filter fun p => !isOne fo' ma' p
theorem fks_len (fo : Fo) : (fks fo).length = fo.length := by unfold fks; rw [sortC_len, List.length_map]
theorem mks_len (ma : Ma) : (mks ma).length = ma.length := by unfold mks; rw [sortC_len, List.length_map]
theorem fks_mem {fo : Fo} {c : Nat} (h : c ∈ fks fo) : ∃ w, (c, w) ∈ fo := by
  obtain ⟨p, hp, rfl⟩ := List.mem_map.mp (sortC_mem h)
  exact ⟨p.2, hp⟩
theorem mks_mem {ma : Ma} {c : Nat} (h : c ∈ mks ma) : ∃ w, (c, w) ∈ ma := by
  obtain ⟨p, hp, rfl⟩ := List.mem_map.mp (sortC_mem h)
  exact ⟨p.2, hp⟩
theorem mm_mem {ma : Ma} {p : Nat × Nat} (h : p ∈ mm ma) : p.1 ∈ mks ma ∧ p.2 ∈ mks ma := by
  unfold mm at h
  obtain ⟨a, ha, h⟩ := List.mem_flatMap.mp h
  obtain ⟨b, hb, rfl⟩ := List.mem_map.mp h
  exact ⟨ha, (List.mem_filter.mp hb).1⟩
theorem flatMap_len {α β : Type} (f : α → List β) (n : Nat) : ∀ l : List α, (∀ a ∈ l, (f a).length ≤ n) → (l.flatMap f).length ≤ l.length * n
  | [], _ => by simp
  | a :: l, h => by
    have h1 := h a (by simp)
    have h2 := flatMap_len f n l fun b hb => h b (List.mem_cons_of_mem _ hb)
    rw [List.flatMap_cons, List.length_append, List.length_cons, Nat.add_mul, Nat.one_mul]
    omega
theorem mm_len (ma : Ma) : (mm ma).length ≤ ma.length * ma.length := by
  unfold mm
  have := flatMap_len (fun a => ((mks ma).filter fun b => ltC a b && !decide (lk ma a = lk ma b)).map fun b => (a, b)) ma.length (mks ma) fun a _ => by
    rw [List.length_map]
    have := List.length_filter_le (fun b => ltC a b && !decide (lk ma a = lk ma b)) (mks ma)
    rw [mks_len] at this
    exact this
  rw [mks_len] at this
  exact this
theorem prs_ok {sg : Nat → Bool} {fo : Fo} {ma : Ma} (ok : okTab sg fo ma) {p : List Nat × List Nat} (h : p ∈ prs fo ma) : (∀ c ∈ p.1, sg c = true) ∧ (∀ c ∈ p.2, sg c = true) ∧ 1 ≤ p.1.length ∧ p.1.length ≤ 2 ∧ 1 ≤ p.2.length ∧ p.2.length ≤ 3 := by
  unfold prs at h
  rcases List.mem_append.mp h with h | h
  · unfold prF at h
    obtain ⟨c, hc, rfl⟩ := List.mem_map.mp h
    obtain ⟨w, hw⟩ := fks_mem hc
    have hs := ok.fs _ hw
    have := foldS_ok ok hs
    refine ⟨fun d hd => by simp at hd; subst hd; exact hs, fun d hd => (this.2.2 d hd).1, by simp, by simp, this.1, this.2.1⟩
  · unfold prM at h
    obtain ⟨q, hq, rfl⟩ := List.mem_map.mp h
    obtain ⟨h1, h2⟩ := mm_mem hq
    obtain ⟨w1, g1⟩ := mks_mem h1
    obtain ⟨w2, g2⟩ := mks_mem h2
    have s1 := (ok.ms _ g1).1
    have s2 := (ok.ms _ g2).1
    refine ⟨fun d hd => ?_, fun d hd => ?_, by simp, by simp, by simp, by simp⟩
    · simp at hd; rcases hd with rfl | rfl <;> assumption
    · simp at hd; rcases hd with rfl | rfl <;> assumption
theorem dec_txt {a b : List Nat} : decide ((⟨a.toArray⟩ : Str) = ⟨b.toArray⟩) = decide (a = b) := by
  by_cases h : a = b
  · subst h; simp
  · have : ¬ ((⟨a.toArray⟩ : Str) = ⟨b.toArray⟩) := fun z => h (by
      have := congrArg (fun s : Str => s.cps.toList) z
      simpa using this)
    rw [decide_eq_false h, decide_eq_false this]
theorem str_two (a b : Nat) : (⟨#[a]⟩ : Str) ++ (⟨#[b]⟩ : Str) = ⟨#[a, b]⟩ := by
  apply str_ext
  show (#[a] ++ #[b]).toList = _
  simp
section
variable {K : PySem.W.Frag} {F H : Hp} {σ : L2.St} {te : TE}
theorem rv_lt_str {i j : Str} : RvD K (rLtA K) (.str i) (.str j) (.bl (decide (i.cps.toList < j.cps.toList))) := rv_cmp_str
theorem ev_sortedF {fo : Fo} (h : EvD K te σ F (foD fo)) (hl : fo.length < 64) : EvD K (tCB (rSortedA K) (tCons te tNil)) σ F (.lst (chs (fks fo))) := by
  refine ev_is (ev_cb (ea_cons h ea_nil) (rc_sorted_dic (es := foE fo) (ks := (fo.map (·.1)).map fun c => (⟨#[c]⟩ : Str)) ?_ (by rw [List.length_map, List.length_map]; exact hl))) ?_
  · unfold foE; rw [List.map_map, List.map_map, List.map_map]; rfl
  · rw [← sortC_map, ← chs_str]; rfl
theorem ev_sortedM {ma : Ma} (h : EvD K te σ F (maD ma)) (hl : ma.length < 64) : EvD K (tCB (rSortedA K) (tCons te tNil)) σ F (.lst (chs (mks ma))) := by
  refine ev_is (ev_cb (ea_cons h ea_nil) (rc_sorted_dic (es := maE ma) (ks := (ma.map (·.1)).map fun c => (⟨#[c]⟩ : Str)) ?_ (by rw [List.length_map, List.length_map]; exact hl))) ?_
  · unfold maE; rw [List.map_map, List.map_map, List.map_map]; rfl
  · rw [← sortC_map, ← chs_str]; rfl
def onPair (f : List Nat → List Nat → D) : D → D
  | .tup [.str s, .str t] => f s.cps.toList t.cps.toList
  | _ => .non
def onPairB (f : List Nat → List Nat → Bool) : D → Bool
  | .tup [.str s, .str t] => f s.cps.toList t.cps.toList
  | _ => false
end
end Nm

set_option Elab.async false
set_option linter.all false
set_option maxRecDepth 100000
set_option maxHeartbeats 1000000
namespace Nm
open PySem PySem.Spec L2
/-! ### how long repr is, what can be compared -/
theorem textFrom_le : ∀ (ts : List Str) (k : Nat) (acc : Str), (textFrom k acc ts).length ≤ acc.length + piled ts
  | [], k, acc => by simp [textFrom, piled]
  | t :: ts, k, acc => by
    unfold textFrom
    have ih := textFrom_le ts (k + 1) (acc ++ (if k > 0 then ", " else "" : String) ++ t)
    rw [strLen_append, strLen_append] at ih
    rw [piled_cons]
    have : (((if k > 0 then ", " else "") : String) : Str).length ≤ 2 := by
      split
      · exact Nat.le_refl 2
      · exact Nat.zero_le 2
    omega
theorem listText_le (ts : List Str) : (listText ts).length ≤ piled ts + 2 := by
  unfold listText
  rw [strLen_append]
  have := textFrom_le ts 0 "["
  have e1 : (("[" : String) : Str).length = 1 := rfl
  have e2 : (("]" : String) : Str).length = 1 := rfl
  omega
theorem tupleText_le (ts : List Str) : (tupleText ts).length ≤ piled ts + 4 := by
  unfold tupleText
  rw [strLen_append, strLen_append]
  have e1 : (("(" : String) : Str).length = 1 := rfl
  have e2 : (((if ts.length == 1 then ",)" else ")") : String) : Str).length ≤ 2 := by
    split
    · exact Nat.le_refl 2
    · exact Nat.le_succ 1
  have e3 : (Str.join ", " ts).length ≤ piled ts := by
    cases ts with
    | nil => exact Nat.le_refl 0
    | cons t r =>
      have := join_length_add (t :: r) (by simp)
      omega
  omega
mutual
/-- a bound for repr -/
def wt : D → Nat
  | .str z => 10 * z.length + 2
  | .lst ds => wtL ds + 4
  | .tup ds => wtL ds + 4
  | d => (toPy d).shown.length
def wtL : List D → Nat
  | [] => 0
  | d :: ds => (wt d + 2) + wtL ds
end
mutual
def dp : D → Nat
  | .lst ds => dpL ds + 1
  | .tup ds => dpL ds + 1
  | _ => 0
def dpL : List D → Nat
  | [] => 0
  | d :: ds => max (dp d) (dpL ds)
end
mutual
/-- texts, lists and tuples of them -/
def txtD : D → Bool
  | .non => true
  | .bl _ => true
  | .str z => PyData.strOk z
  | .lst ds => txtDL ds
  | .tup ds => txtDL ds
  | _ => false
def txtDL : List D → Bool
  | [] => true
  | d :: ds => txtD d && txtDL ds
end
mutual
theorem plain_of : ∀ d : D, txtD d = true → plain d = true
  | .non, _ => by unfold plain; rfl
  | .bl _, _ => by unfold plain; rfl
  | .str _, _ => by unfold plain; rfl
  | .int _, h => by unfold txtD at h; cases h
  | .dic _, h => by unfold txtD at h; cases h
  | .obj _ _, h => by unfold txtD at h; cases h
  | .ty _, h => by unfold txtD at h; cases h
  | .cls _, h => by unfold txtD at h; cases h
  | .lst ds, h => by unfold txtD at h; unfold plain; exact plain_ofL ds h
  | .tup ds, h => by unfold txtD at h; unfold plain; exact plain_ofL ds h
theorem plain_ofL : ∀ ds : List D, txtDL ds = true → plainL ds = true
  | [], _ => by unfold plainL; rfl
  | d :: ds, h => by
    unfold txtDL at h
    rw [Bool.and_eq_true] at h
    unfold plainL
    rw [plain_of d h.1, plain_ofL ds h.2]; rfl
end
theorem okCodes {z : Str} (h : PyData.strOk z = true) : ∀ c ∈ z.cps.toList, c < 16 ^ 8 := fun c hc => by
  unfold PyData.strOk at h
  rw [← Array.all_toList, List.all_eq_true] at h
  have := of_decide_eq_true (h c hc)
  have e : (16 : Nat) ^ 8 = 4294967296 := by decide
  omega
mutual
theorem show_of : ∀ d : D, txtD d = true → (toPy d).showable = true ∧ (toPy d).canLay0 = true ∧ (toPy d).depth = dp d ∧ (toPy d).shown.length ≤ wt d
  | .non, _ => by unfold toPy; simp only [PyData.showable, PyData.canLay0, PyData.depth, dp]; exact ⟨trivial, trivial, trivial, by unfold wt toPy; exact Nat.le_refl _⟩
  | .bl _, _ => by unfold toPy; simp only [PyData.showable, PyData.canLay0, PyData.depth, dp]; exact ⟨trivial, trivial, trivial, by unfold wt toPy; exact Nat.le_refl _⟩
  | .str z, h => by
    unfold txtD at h
    unfold toPy
    simp only [PyData.showable, PyData.canLay0, PyData.depth, dp, PyData.shown, wt]
    exact ⟨trivial, h, trivial, PySem.StrLaws.reprText_len z (okCodes h)⟩
  | .int _, h => by unfold txtD at h; cases h
  | .dic _, h => by unfold txtD at h; cases h
  | .obj _ _, h => by unfold txtD at h; cases h
  | .ty _, h => by unfold txtD at h; cases h
  | .cls _, h => by unfold txtD at h; cases h
  | .lst ds, h => by
    unfold txtD at h
    obtain ⟨h1, h2, h3, h4⟩ := show_ofL ds h
    unfold toPy
    simp only [PyData.showable, PyData.canLay0, PyData.depth, dp, PyData.shown, wt, h3]
    refine ⟨h1, h2, trivial, ?_⟩
    have := listText_le (PyData.shownAll (toPyL ds))
    omega
  | .tup ds, h => by
    unfold txtD at h
    obtain ⟨h1, h2, h3, h4⟩ := show_ofL ds h
    unfold toPy
    simp only [PyData.showable, PyData.canLay0, PyData.depth, dp, PyData.shown, wt, h3]
    refine ⟨h1, h2, trivial, ?_⟩
    have := tupleText_le (PyData.shownAll (toPyL ds))
    omega
theorem show_ofL : ∀ ds : List D, txtDL ds = true → PyData.showableAll (toPyL ds) = true ∧ PyData.canLayAll0 (toPyL ds) = true ∧ PyData.depthAll (toPyL ds) = dpL ds ∧ piled (PyData.shownAll (toPyL ds)) ≤ wtL ds
  | [], _ => by unfold toPyL; simp only [PyData.showableAll, PyData.canLayAll0, PyData.depthAll, dpL, PyData.shownAll, piled_nil, wtL]; exact ⟨trivial, trivial, trivial, Nat.le_refl _⟩
  | d :: ds, h => by
    unfold txtDL at h
    rw [Bool.and_eq_true] at h
    obtain ⟨a1, a2, a3, a4⟩ := show_of d h.1
    obtain ⟨h1, h2, h3, h4⟩ := show_ofL ds h.2
    unfold toPyL
    simp only [PyData.showableAll, PyData.canLayAll0, PyData.depthAll, dpL, PyData.shownAll, piled_cons, wtL, a1, a2, a3, h1, h2, h3]
    exact ⟨rfl, rfl, trivial, by omega⟩
end
theorem okR_txt {d : D} (h : txtD d = true) (h1 : dp d ≤ 40) (h2 : wt d ≤ 16777216) : okR d = true := by
  obtain ⟨a1, a2, a3, a4⟩ := show_of d h
  unfold okR shownD
  rw [plain_of d h, a1, a3, decide_eq_true h1, decide_eq_true (by omega)]
  rfl
section
variable {K : PySem.W.Frag}
theorem shaped_of {d : D} (h : txtD d = true) (h1 : dp d ≤ 64) : SeqAt.shaped (toPy d) = true := by
  obtain ⟨a1, a2, a3, a4⟩ := show_of d h
  unfold SeqAt.shaped
  rw [a2, a3, decide_eq_true h1]; rfl
theorem rv_ne_self {d : D} (h : txtD d = true) (h1 : dp d ≤ 64) : RvD K (rNeA K) d d (.bl false) := fun F H x y s hx hy Q q => by
  refine .inr ⟨_, _, den_dp s d hx (plain_of d h), den_dp s d hy (plain_of d h), shaped_of h h1, shaped_of h h1, ?_⟩
  rw [SeqAt.eqv_refl _ (show_of d h).2.1]
  exact q _ F H (Ext.refl s) (.bl _)
theorem rv_eq_self {d : D} (h : txtD d = true) (h1 : dp d ≤ 64) : RvD K (rEqA K) d d (.bl true) := fun F H x y s hx hy Q q => by
  refine .inr ⟨_, _, den_dp s d hx (plain_of d h), den_dp s d hy (plain_of d h), shaped_of h h1, shaped_of h h1, ?_⟩
  rw [SeqAt.eqv_refl _ (show_of d h).2.1]
  exact q _ F H (Ext.refl s) (.bl _)
end
end Nm

set_option Elab.async false
set_option linter.all false
set_option maxRecDepth 100000
set_option maxHeartbeats 1000000
namespace Nm
open PySem PySem.Spec L2
section
variable {K : PySem.W.Frag} {F H : Hp} {σ : L2.St} {te ta tb : TE} {r : List Sl} {DE : Ends} {tz : TS} {d e : D} {b p : Addr} {R : List Sl → Prop}
/-- what the law's script is -/
def spLaw (K : PySem.W.Frag) : Sp := fun vs H Q _ => ∃ (a : Addr) (ns : List Int), vs = [.ref a] ∧ SqL K H a (ns.map V.int) ∧ ns.length ≤ 63 ∧ ∀ H', Q (.bl true) H'
theorem spLaw_len {vs : List V} {Q : VK} {E : XK} (h : spLaw K vs H Q E) : vs.length = 1 := by
  obtain ⟨a, ns, rfl, _⟩ := h
  rfl
/-- for at in range(max(lo, min(hi, len(script)))): bag = _law_bag(script, at); .. -/
theorem q_cells {body : TS} {a : Addr} {ns : List Int} {j t : Nat} {lo hi : Int} {E : XK} (S : Same F H) (EV : EnvD K F r σ) (sq : SqL K F a (ns.map V.int)) (hlen : ns.length ≤ 63) (hlo : 0 ≤ lo ∧ lo ≤ 100) (hhi : 0 ≤ hi ∧ hi ≤ 100) (h0 : ∀ r, R r → r[0]? = some (.v (.ref a))) (hlj : ∀ r, R r → j < r.length) (hj : j ≠ 0) (hr : R r)
    (hb : ∀ (m : Nat) F2 H2 b r' σ' (N : L2.St → Hp → Prop), Same F F2 → Same F2 H2 → R r' → BagAt F2 H2 b 1000000000 → EnvD K F2 ((r'.set j (.d (.int (m : Nat)))).set t (.v (.ref b))) σ' → (∀ F3 H3 r3 σ3, Ext [b] F2 H2 F3 H3 → EnvD K F3 r3 σ3 → R r3 → N σ3 H3) → body { DE with nx := N, ct := N, bk := tz DE } σ' H2)
    (hd : ∀ F' H' r' σ', Same F F' → Same F' H' → EnvD K F' r' σ' → R r' → tz DE σ' H') :
    tSeq (tFor (iRng1 (tCons (tCB rMax2 (tCons (tC (.int lo)) (tCons (tCB rMin2 (tCons (tC (.int hi)) (tCons (tCB (rLenA K) (tCons (tVar 0) tNil)) tNil))) tNil))) tNil)) (gName j) (tSeq (tAsg (tCall (spBag K) [] E (tCons (tVar 0) (tCons (tVar j) tNil))) (gName t)) body)) tz DE σ H := by
  have lenS : EvD K (tCB (rLenA K) (tCons (tVar 0) tNil)) σ F (.int (ns.length : Int)) := fun H4 s4 Q4 q4 => by
    obtain ⟨o, g1, g2⟩ := EV.get (h0 r hr)
    have g2 : o = some (.ref a) := g2
    subst g2
    exact ⟨.ref a, g1, .inl ⟨a, _, rfl, .inl (same_l s4 sq), by rw [List.length_map]; exact q4 _ F H4 (Ext.refl s4) (.int _)⟩⟩
  have rng := ei_rng1 (K := K) (ea_cons (ev_cb (ea_cons (ev_c (.int lo)) (ea_cons (ev_cb (ea_cons (ev_c (.int hi)) (ea_cons lenS ea_nil)) rc_min2) ea_nil)) rc_max2) ea_nil) (by split <;> split <;> omega) (by split <;> split <;> omega)
  refine q_for [] (fun _ _ _ r' => R r') S EV rng (fun _ _ _ => hr) ?_ (fun F' H' r' σ' x E' p => hd F' H' r' σ' x.f x.s E' p)
  rintro i d F1 H1 F2 H2 r' σ' N hdd x1 hr' x2 E2 kN
  obtain ⟨m, rfl, hm⟩ : ∃ m : Nat, d = .int (m : Nat) ∧ m ≤ 1000 := by
    rw [List.getElem?_map] at hdd
    obtain ⟨m, h1, h2⟩ := Option.map_eq_some_iff.mp hdd
    have h3 := (List.getElem?_eq_some_iff.mp h1).1
    have e := (List.getElem?_eq_some_iff.mp h1).2
    rw [List.getElem_range] at e
    rw [List.length_range] at h3
    refine ⟨m, h2.symm, ?_⟩
    have : (if (if (ns.length : Int) < hi then (ns.length : Int) else hi) > lo then (if (ns.length : Int) < hi then (ns.length : Int) else hi) else lo) ≤ 100 := by split <;> split <;> omega
    omega
  refine q_bag x2.s E2 (by rw [List.getElem?_set_ne hj]; exact h0 r' hr') (by rw [List.getElem?_set_self (hlj r' hr')]) hm (same_l (x1.f.trans x2.f) sq) fun b H3 σ3 hb' x3 w3 E3 => ?_
  exact hb m F2 H3 b r' σ3 N (x1.f.trans x2.f) x3.s hr' w3 E3 fun F4 H4 r4 σ4 x4 E4 h4 => kN F4 H4 r4 σ4 (Ext.forget x3 x4 hb') E4 h4
/-- a for whose body draws at most c numbers -/
theorem s_turns {body : TS} {items : List D} {wi : TI} {j n : Nat} (c : Nat) (S : Same F H) (EV : EnvD K F r σ) (w : BagAt F H b (n + items.length * c)) (hi : EvI K wi σ F items) (hr : R r)
    (hs : ∀ d F2 H2 r' σ' m (N : L2.St → Hp → Prop), d ∈ items → Same F F2 → Same F2 H2 → R r' → BagAt F2 H2 b (m + c) → EnvD K F2 (r'.set j (.d d)) σ' → (∀ F3 H3 r3 σ3, Ext [b] F2 H2 F3 H3 → BagAt F3 H3 b m → EnvD K F3 r3 σ3 → R r3 → N σ3 H3) → body { DE with nx := N, ct := N, bk := DE.nx } σ' H2)
    (hd : ∀ F' H' r' σ', Ext [b] F H F' H' → BagAt F' H' b n → EnvD K F' r' σ' → R r' → DE.nx σ' H') : tFor wi (gName j) body DE σ H := by
  refine s_for [b] (fun i F' H' r' => R r' ∧ BagAt F' H' b (n + (items.length - i) * c)) S EV hi (fun F' H' x => ⟨hr, w.ext0 x⟩) ?_ ?_
  · rintro i d F1 H1 F2 H2 r' σ' N hdd x1 ⟨hr', w1⟩ x2 E2 kN
    have hlt : i < items.length := (List.getElem?_eq_some_iff.mp hdd).1
    have e : (items.length - i) * c = (items.length - (i + 1)) * c + c := by
      have : items.length - i = (items.length - (i + 1)) + 1 := by omega
      rw [this, Nat.add_mul, Nat.one_mul]
    refine hs d F2 H2 r' σ' (n + (items.length - (i + 1)) * c) N (List.mem_of_getElem? hdd) (x1.f.trans x2.f) x2.s hr' ((w1.ext0 x2).less (by omega)) E2 fun F3 H3 r3 σ3 x3 w3 E3 h3 => kN F3 H3 r3 σ3 x3 E3 ⟨h3, w3⟩
  · rintro F' H' r' σ' x E' ⟨h1, h2⟩
    exact hd F' H' r' σ' x (h2.less (by omega)) E' h1
theorem q_turns {body : TS} {items : List D} {wi : TI} {j n : Nat} (c : Nat) (S : Same F H) (EV : EnvD K F r σ) (w : BagAt F H b (n + items.length * c)) (hi : EvI K wi σ F items) (hr : R r)
    (hs : ∀ d F2 H2 r' σ' m (N : L2.St → Hp → Prop), d ∈ items → Same F F2 → Same F2 H2 → R r' → BagAt F2 H2 b (m + c) → EnvD K F2 (r'.set j (.d d)) σ' → (∀ F3 H3 r3 σ3, Ext [b] F2 H2 F3 H3 → BagAt F3 H3 b m → EnvD K F3 r3 σ3 → R r3 → N σ3 H3) → body { DE with nx := N, ct := N, bk := tz DE } σ' H2)
    (hd : ∀ F' H' r' σ', Ext [b] F H F' H' → BagAt F' H' b n → EnvD K F' r' σ' → R r' → tz DE σ' H') : tSeq (tFor wi (gName j) body) tz DE σ H := s_turns (DE := { DE with nx := tz DE }) c S EV w hi hr hs hd
/-! worth in this heap -/
def EvDH (K : PySem.W.Frag) (te : TE) (σ : L2.St) (F H : Hp) (d : D) : Prop := ∀ Q : VK, (∀ v F' H', Ext [] F H F' H' → Den K F' v d → Q v H') → te σ H Q
theorem EvD.here (h : EvD K te σ F d) (S : Same F H) : EvDH K te σ F H d := h H S
theorem At.here {v : V} (h : At te σ H v) (S : Same F H) (dv : Den K F v d) : EvDH K te σ F H d := fun Q q => h Q (q v F H (Ext.refl S) dv)
theorem at_ixT {v : V} {ds : List D} {i : Nat} (h : At ta σ H v) (S : Same F H) (dv : Den K F v (.tup ds)) (e : ds[i]? = some d) : ∃ w, At (tOp (rIxA K) ta (tC (.int (i : Nat)))) σ H w ∧ Den K F w d := by
  cases dv with
  | tup a l =>
    obtain ⟨w, h1, h2⟩ := l.get e
    exact ⟨w, at_op h at_c fun Q q => .inl (.inr (.inl ⟨_, _, _, _, rfl, rfl, same_t S a, atI_nat h1, q⟩)), h2⟩
theorem edh_tup2 {v w : V} (ha : At ta σ H v) (hb : At tb σ H w) (S : Same F H) (dv : Den K F v d) (dw : Den K F w e) : EvDH K (tTup (tCons ta (tCons tb tNil))) σ F H (.tup [d, e]) := fun Q q =>
  ha _ (hb _ ⟨sz2, fun p hp => q _ _ _ (Ext.new S hp) (.tup (SqT.of upd_same) (.cons (dv.up (Ext.new (o := .tup [v, w]) S hp).f) (.cons (dw.up (Ext.new (o := .tup [v, w]) S hp).f) .nil)))⟩)
theorem q_appH {i : Nat} {xs : List V} (E : EnvD K F r σ) (hp : r[i]? = some (.v (.ref p))) (w : Own F H p (.lst xs)) (h : EvDH K te σ F H d) (hz : xs.length < 100000)
    (k : ∀ v F' H', Ext [] F H F' H' → Own F' H' p (.lst xs) → Den K F' v d → tz DE σ (upd H' p (.lst (xs ++ [v])))) : tSeq (tDrop (tBM K "list" rAppend (tVar i) (tCons te tNil))) tz DE σ H := by
  obtain ⟨o, h1, h2⟩ := E.get hp
  have h2 : o = some (.ref p) := h2
  subst h2
  refine ⟨_, h1, .inl ⟨rfl, xs, SqL.of w.h⟩, h _ fun v F' H' x dv => ?_⟩
  have w' := w.ext0 x
  exact ⟨p, xs, v, rfl, rfl, w'.h, Nat.lt_of_lt_of_le hz (by rw [sizeLine_eq]; decide), k v F' H' x w' dv⟩
theorem s_appH {i : Nat} {xs : List V} (E : EnvD K F r σ) (hp : r[i]? = some (.v (.ref p))) (w : Own F H p (.lst xs)) (h : EvDH K te σ F H d) (hz : xs.length < 100000)
    (k : ∀ v F' H', Ext [] F H F' H' → Own F' H' p (.lst xs) → Den K F' v d → DE.nx σ (upd H' p (.lst (xs ++ [v])))) : tDrop (tBM K "list" rAppend (tVar i) (tCons te tNil)) DE σ H := q_appH (tz := fun D σ H => DE.nx σ H) (DE := DE) E hp w h hz k
/-- x = [drawn, ..], kept as one's own -/
theorem q_asgLB {tr : TA} {j n c : Nat} {SS : List D → Prop} (S : Same F H) (E : EnvD K F r σ) (w : BagAt F H b (n + c)) (h : EvBA K b c tr σ F SS) (hl : ∀ ds, SS ds → ds.length ≤ sizeLine)
    (k : ∀ p xs ds F' H' σ', SS ds → H p = none → b ≠ p → Ext [b] F H F' H' → BagAt F' H' b n → Own F' H' p (.lst xs) → DenL K F' xs ds → EnvD K F' (r.set j (.v (.ref p))) σ' → tz DE σ' H') : tSeq (tAsg (tLst tr) (gName j)) tz DE σ H :=
  h H n S w _ fun vs ds F1 H1 x1 w1 r1 d1 => ⟨by rw [d1.length]; exact hl ds r1, fun p hp => by
    have bp : b ≠ p := fun z => w1.ne (by rw [z]; exact hp)
    exact k p vs ds F1 _ _ r1 (x1.back hp) bp (x1.tl (Ext.newM x1.s hp)) (w1.set (o := .tup []) bp) ⟨x1.s.free hp, upd_same⟩ d1 (EnvD.set (s := .v (.ref p)) j (E.up x1.f) rfl)⟩
end
end Nm
namespace Nm
open PySem PySem.Spec L2
section
variable {K : PySem.W.Frag} {F H : Hp} {σ : L2.St} {te ta tb : TE} {r : List Sl} {DE : Ends} {tz : TS} {d e : D} {b p : Addr} {ds : List D}
theorem Ext.dropM {M M' : List Addr} {F1 H1 F2 H2 : Hp} (x : Ext M F H F1 H1) (y : Ext M' F1 H1 F2 H2) (h : ∀ a ∈ M', a ∈ M ∨ H a = none) : Ext M F H F2 H2 :=
  ⟨x.f.trans y.f, fun a o m e => y.h a o (fun z => (h a z).elim m (fun q => by rw [q] at e; cases e)) (x.h a o m e), y.s, fun a f k => y.n a (x.n a f k) (x.k a k), fun a k => y.k a (x.k a k)⟩
theorem q_ifLend {i : Nat} {xs : List V} {tt : TT} {tu tw : TS} {bb : Bool} (S : Same F H) (E : EnvD K F r σ) (hi : r[i]? = some (.v (.ref p))) (w : Own F H p (.lst xs)) (l : DenL K F xs ds) (h : ∀ F', Same F F' → EnvD K F' (r.set i (.d (.lst ds))) σ → EvT K tt σ F' bb)
    (h1 : bb = true → ∀ F' H', Ext [] F H F' H' → Own F' H' p (.lst xs) → tu { DE with nx := tz DE } σ H') (h2 : bb = false → ∀ F' H', Ext [] F H F' H' → Own F' H' p (.lst xs) → tw { DE with nx := tz DE } σ H') : tSeq (tIfS tt tu tw) tz DE σ H :=
  et_lend S E hi w l h fun F' H' x o => by
    cases bb with
    | true => exact h1 rfl F' H' x o
    | false => exact h2 rfl F' H' x o
theorem wtL_cons (d : D) (ds : List D) : wtL (d :: ds) = (wt d + 2) + wtL ds := by simp only [wtL]
theorem txtDL_cons (d : D) (ds : List D) : txtDL (d :: ds) = (txtD d && txtDL ds) := by simp only [txtDL]
theorem dpL_cons (d : D) (ds : List D) : dpL (d :: ds) = max (dp d) (dpL ds) := by simp only [dpL]
theorem wt_pair (p : List Nat × List Nat) : wt (pairD p) = 10 * p.1.length + 10 * p.2.length + 12 := by
  unfold pairD txt
  simp only [wt, wtL, txt_len]
  omega
theorem pairs_wt : ∀ ps : List (List Nat × List Nat), (∀ p ∈ ps, p.1.length ≤ 40 ∧ p.2.length ≤ 40) → wtL (ps.map pairD) ≤ ps.length * 1000
  | [], _ => by simp [wtL]
  | p :: ps, h => by
    have ih := pairs_wt ps fun q hq => h q (List.mem_cons_of_mem _ hq)
    obtain ⟨h1, h2⟩ := h p (by simp)
    rw [List.map_cons, List.length_cons, Nat.add_mul, Nat.one_mul, wtL_cons, wt_pair]
    omega
theorem strOk_of {l : List Nat} (h : ∀ c ∈ l, c < 1114112) : PyData.strOk ⟨l.toArray⟩ = true := by
  unfold PyData.strOk
  rw [← Array.all_toList, List.all_eq_true]
  exact fun c hc => decide_eq_true (h c hc)
theorem pairs_txt : ∀ ps : List (List Nat × List Nat), (∀ p ∈ ps, (∀ c ∈ p.1, c < 1114112) ∧ ∀ c ∈ p.2, c < 1114112) → txtDL (ps.map pairD) = true
  | [], _ => by simp only [List.map_nil, txtDL]
  | p :: ps, h => by
    have ih := pairs_txt ps fun q hq => h q (List.mem_cons_of_mem _ hq)
    obtain ⟨h1, h2⟩ := h p (by simp)
    have e : txtD (pairD p) = true := by
      unfold pairD txt
      simp only [txtD, txtDL, strOk_of h1, strOk_of h2, Bool.and_true]
    rw [List.map_cons, txtDL_cons, ih, e]
    rfl
theorem pairs_dp : ∀ ps : List (List Nat × List Nat), dpL (ps.map pairD) ≤ 1
  | [] => by simp only [List.map_nil, dpL]; exact Nat.zero_le _
  | p :: ps => by
    have ih := pairs_dp ps
    have e : dp (pairD p) = 1 := by
      unfold pairD txt
      simp only [dp, dpL]
      rfl
    rw [List.map_cons, dpL_cons, e]
    omega
theorem pairs_ok {ps : List (List Nat × List Nat)} (h : ∀ p ∈ ps, (p.1.length ≤ 40 ∧ p.2.length ≤ 40) ∧ (∀ c ∈ p.1, c < 1114112) ∧ ∀ c ∈ p.2, c < 1114112) (hl : ps.length ≤ 10000) : txtD (.lst (ps.map pairD)) = true ∧ dp (.lst (ps.map pairD)) ≤ 2 ∧ wt (.lst (ps.map pairD)) ≤ 16777216 := by
  have h1 := pairs_wt ps fun p hp => (h p hp).1
  have h2 := pairs_txt ps fun p hp => (h p hp).2
  have h3 := pairs_dp ps
  refine ⟨by unfold txtD; exact h2, by unfold dp; omega, by unfold wt; omega⟩
end
end Nm

set_option Elab.async false
set_option linter.all false
set_option maxRecDepth 100000
set_option maxHeartbeats 4000000
namespace Nm
open PySem PySem.Spec L2 PyProof.Rows
def top (i : Nat) : Stmt := PySem.Challenge.pw_namesone_k17_failing_exchanges.main.body.getD i (.Pass ⟨0, 0, 0, 0⟩)
abbrev s_is_sign : Stmt := top 16
abbrev N_is_sign : List Str := ["thing"]
abbrev P_is_sign : List Str := ["thing"]
theorem sc_is_sign : FnScope N_is_sign P_is_sign (defScope s_is_sign) := ⟨rfl, rfl, rfl, by decide +kernel, rfl, by decide +kernel, by decide +kernel⟩
abbrev s_has_signs : Stmt := top 17
abbrev N_has_signs : List Str := ["thing", "most", "sign"]
abbrev P_has_signs : List Str := ["thing", "most"]
theorem sc_has_signs : FnScope N_has_signs P_has_signs (defScope s_has_signs) := ⟨rfl, rfl, rfl, by decide +kernel, rfl, by decide +kernel, by decide +kernel⟩
abbrev s_is_class : Stmt := top 19
abbrev N_is_class : List Str := ["thing"]
abbrev P_is_class : List Str := ["thing"]
theorem sc_is_class : FnScope N_is_class P_is_class (defScope s_is_class) := ⟨rfl, rfl, rfl, by decide +kernel, rfl, by decide +kernel, by decide +kernel⟩
abbrev s_look_folds : Stmt := top 20
abbrev N_look_folds : List Str := ["folds", "sign", "word", "one"]
abbrev P_look_folds : List Str := ["folds"]
theorem sc_look_folds : FnScope N_look_folds P_look_folds (defScope s_look_folds) := ⟨rfl, rfl, rfl, by decide +kernel, rfl, by decide +kernel, by decide +kernel⟩
abbrev s_look_marks : Stmt := top 21
abbrev N_look_marks : List Str := ["marks", "folds", "sign"]
abbrev P_look_marks : List Str := ["marks", "folds"]
theorem sc_look_marks : FnScope N_look_marks P_look_marks (defScope s_look_marks) := ⟨rfl, rfl, rfl, by decide +kernel, rfl, by decide +kernel, by decide +kernel⟩
abbrev s_in_order : Stmt := top 22
abbrev N_in_order : List Str := ["run", "marks", "number", "mark"]
abbrev P_in_order : List Str := ["run", "marks"]
theorem sc_in_order : FnScope N_in_order P_in_order (defScope s_in_order) := ⟨rfl, rfl, rfl, by decide +kernel, rfl, by decide +kernel, by decide +kernel⟩
abbrev s_ordered_runs : Stmt := top 23
abbrev N_ordered_runs : List Str := ["string", "marks", "sign", "found", "run"]
abbrev P_ordered_runs : List Str := ["string", "marks"]
theorem sc_ordered_runs : FnScope N_ordered_runs P_ordered_runs (defScope s_ordered_runs) := ⟨rfl, rfl, rfl, by decide +kernel, rfl, by decide +kernel, by decide +kernel⟩
abbrev s_key_of : Stmt := top 24
abbrev N_key_of : List Str := ["rule", "string", "folds", "marks", "sign"]
abbrev P_key_of : List Str := ["rule", "string"]
theorem sc_key_of : FnScope N_key_of P_key_of (defScope s_key_of) := ⟨rfl, rfl, rfl, by decide +kernel, rfl, by decide +kernel, by decide +kernel⟩
abbrev s_exchange_pairs : Stmt := top 25
abbrev N_exchange_pairs : List Str := ["rule", "pairs", "both", "folds", "marks", "sign", "a", "b"]
abbrev P_exchange_pairs : List Str := ["rule"]
theorem sc_exchange_pairs : FnScope N_exchange_pairs P_exchange_pairs (defScope s_exchange_pairs) := ⟨rfl, rfl, rfl, by decide +kernel, rfl, by decide +kernel, by decide +kernel⟩
abbrev s_are_one : Stmt := top 26
abbrev N_are_one : List Str := ["rule", "one", "other"]
abbrev P_are_one : List Str := ["rule", "one", "other"]
theorem sc_are_one : FnScope N_are_one P_are_one (defScope s_are_one) := ⟨rfl, rfl, rfl, by decide +kernel, rfl, by decide +kernel, by decide +kernel⟩
abbrev s_Table___init : Stmt := inClass (top 27) 0
abbrev N_Table___init : List Str := ["self", "folds", "marks", "rows", "limit"]
abbrev P_Table___init : List Str := ["self", "folds", "marks"]
theorem sc_Table___init : FnScope N_Table___init P_Table___init (defScope s_Table___init) := ⟨rfl, rfl, rfl, by decide +kernel, rfl, by decide +kernel, by decide +kernel⟩
abbrev s_failing : Stmt := top 29
abbrev N_failing : List Str := ["one", "other", "pair"]
abbrev P_failing : List Str := ["one", "other"]
theorem sc_failing : FnScope N_failing P_failing (defScope s_failing) := ⟨rfl, rfl, rfl, by decide +kernel, rfl, by decide +kernel, by decide +kernel⟩
abbrev s_law_bag : Stmt := top 31
abbrev N_law_bag : List Str := ["_law_script", "_law_at", "_law_cell", "_law_digits"]
abbrev P_law_bag : List Str := ["_law_script", "_law_at"]
theorem sc_law_bag : FnScope N_law_bag P_law_bag (defScope s_law_bag) := ⟨rfl, rfl, rfl, by decide +kernel, rfl, by decide +kernel, by decide +kernel⟩
abbrev s_law_take : Stmt := top 32
abbrev N_law_take : List Str := ["_law_bag_here", "_law_many", "_law_mixed", "_law_digit"]
abbrev P_law_take : List Str := ["_law_bag_here", "_law_many"]
theorem sc_law_take : FnScope N_law_take P_law_take (defScope s_law_take) := ⟨rfl, rfl, rfl, by decide +kernel, rfl, by decide +kernel, by decide +kernel⟩
abbrev s_law_rule : Stmt := top 33
abbrev N_law_rule : List Str := ["_law_bag_here", "_law_sign", "_law_folds", "_law_marks", "_law_k"]
abbrev P_law_rule : List Str := ["_law_bag_here"]
theorem sc_law_rule : FnScope N_law_rule P_law_rule (defScope s_law_rule) := ⟨rfl, rfl, rfl, by decide +kernel, rfl, by decide +kernel, by decide +kernel⟩
abbrev s_law_key : Stmt := top 35
abbrev N_law_key : List Str := ["_law_rule_here", "_law_word_here", "_law_folds", "_law_marks", "_law_signs", "_law_is_ready", "_law_at", "_law_one", "_law_other", "_law_sign"]
abbrev P_law_key : List Str := ["_law_rule_here", "_law_word_here"]
theorem sc_law_key : FnScope N_law_key P_law_key (defScope s_law_key) := ⟨rfl, rfl, rfl, by decide +kernel, rfl, by decide +kernel, by decide +kernel⟩
abbrev s_law_due : Stmt := top 36
abbrev N_law_due : List Str := ["_law_one", "_law_other", "_law_found", "_law_a", "_law_folds", "_law_marks", "_law_b", "_law_sign"]
abbrev P_law_due : List Str := ["_law_one", "_law_other"]
theorem sc_law_due : FnScope N_law_due P_law_due (defScope s_law_due) := ⟨rfl, rfl, rfl, by decide +kernel, rfl, by decide +kernel, by decide +kernel⟩
abbrev s_law : Stmt := top 37
abbrev N_law : List Str := ["_law_script", "_law_at", "_law_bag_here", "_law_turn", "_law_rules", "_law_some", "_law_i", "_law_j", "_law_rule_here", "_law_due_here", "_law_told", "_law_sign"]
abbrev P_law : List Str := ["_law_script"]
theorem sc_law : FnScope N_law P_law (defScope s_law) := ⟨rfl, rfl, rfl, by decide +kernel, rfl, by decide +kernel, by decide +kernel⟩
/-- what the top has left -/
structure Txt (K : PySem.W.Frag) (mg : Str → Option Value) where
  a_is_sign : Addr
  fd_is_sign : FuncData
  g_is_sign : mg "is_sign" = some (.ref a_is_sign)
  k_is_sign : PySem.W.keepIn K (.ref a_is_sign) = true
  F_is_sign : Fun K "is_sign" "is_sign" s_is_sign a_is_sign fd_is_sign
  b_is_sign : Binds K fd_is_sign P_is_sign []
  a_has_signs : Addr
  fd_has_signs : FuncData
  g_has_signs : mg "has_signs" = some (.ref a_has_signs)
  k_has_signs : PySem.W.keepIn K (.ref a_has_signs) = true
  F_has_signs : Fun K "has_signs" "has_signs" s_has_signs a_has_signs fd_has_signs
  b_has_signs : Binds K fd_has_signs P_has_signs []
  a_is_class : Addr
  fd_is_class : FuncData
  g_is_class : mg "is_class" = some (.ref a_is_class)
  k_is_class : PySem.W.keepIn K (.ref a_is_class) = true
  F_is_class : Fun K "is_class" "is_class" s_is_class a_is_class fd_is_class
  b_is_class : Binds K fd_is_class P_is_class []
  a_look_folds : Addr
  fd_look_folds : FuncData
  g_look_folds : mg "look_folds" = some (.ref a_look_folds)
  k_look_folds : PySem.W.keepIn K (.ref a_look_folds) = true
  F_look_folds : Fun K "look_folds" "look_folds" s_look_folds a_look_folds fd_look_folds
  b_look_folds : Binds K fd_look_folds P_look_folds []
  a_look_marks : Addr
  fd_look_marks : FuncData
  g_look_marks : mg "look_marks" = some (.ref a_look_marks)
  k_look_marks : PySem.W.keepIn K (.ref a_look_marks) = true
  F_look_marks : Fun K "look_marks" "look_marks" s_look_marks a_look_marks fd_look_marks
  b_look_marks : Binds K fd_look_marks P_look_marks []
  a_in_order : Addr
  fd_in_order : FuncData
  g_in_order : mg "in_order" = some (.ref a_in_order)
  k_in_order : PySem.W.keepIn K (.ref a_in_order) = true
  F_in_order : Fun K "in_order" "in_order" s_in_order a_in_order fd_in_order
  b_in_order : Binds K fd_in_order P_in_order []
  a_ordered_runs : Addr
  fd_ordered_runs : FuncData
  g_ordered_runs : mg "ordered_runs" = some (.ref a_ordered_runs)
  k_ordered_runs : PySem.W.keepIn K (.ref a_ordered_runs) = true
  F_ordered_runs : Fun K "ordered_runs" "ordered_runs" s_ordered_runs a_ordered_runs fd_ordered_runs
  b_ordered_runs : Binds K fd_ordered_runs P_ordered_runs []
  a_key_of : Addr
  fd_key_of : FuncData
  g_key_of : mg "key_of" = some (.ref a_key_of)
  k_key_of : PySem.W.keepIn K (.ref a_key_of) = true
  F_key_of : Fun K "key_of" "key_of" s_key_of a_key_of fd_key_of
  b_key_of : Binds K fd_key_of P_key_of []
  a_exchange_pairs : Addr
  fd_exchange_pairs : FuncData
  g_exchange_pairs : mg "exchange_pairs" = some (.ref a_exchange_pairs)
  k_exchange_pairs : PySem.W.keepIn K (.ref a_exchange_pairs) = true
  F_exchange_pairs : Fun K "exchange_pairs" "exchange_pairs" s_exchange_pairs a_exchange_pairs fd_exchange_pairs
  b_exchange_pairs : Binds K fd_exchange_pairs P_exchange_pairs []
  a_are_one : Addr
  fd_are_one : FuncData
  g_are_one : mg "are_one" = some (.ref a_are_one)
  k_are_one : PySem.W.keepIn K (.ref a_are_one) = true
  F_are_one : Fun K "are_one" "are_one" s_are_one a_are_one fd_are_one
  b_are_one : Binds K fd_are_one P_are_one []
  a_Table___init : Addr
  fd_Table___init : FuncData
  k_Table___init : PySem.W.keepIn K (.ref a_Table___init) = true
  F_Table___init : Fun K "__init__" "Table.__init__" s_Table___init a_Table___init fd_Table___init
  b_Table___init : Binds K fd_Table___init P_Table___init []
  a_failing : Addr
  fd_failing : FuncData
  g_failing : mg "failing" = some (.ref a_failing)
  k_failing : PySem.W.keepIn K (.ref a_failing) = true
  F_failing : Fun K "failing" "failing" s_failing a_failing fd_failing
  b_failing : Binds K fd_failing P_failing []
  a_law_bag : Addr
  fd_law_bag : FuncData
  g_law_bag : mg "_law_bag" = some (.ref a_law_bag)
  k_law_bag : PySem.W.keepIn K (.ref a_law_bag) = true
  F_law_bag : Fun K "_law_bag" "_law_bag" s_law_bag a_law_bag fd_law_bag
  b_law_bag : Binds K fd_law_bag P_law_bag []
  a_law_take : Addr
  fd_law_take : FuncData
  g_law_take : mg "_law_take" = some (.ref a_law_take)
  k_law_take : PySem.W.keepIn K (.ref a_law_take) = true
  F_law_take : Fun K "_law_take" "_law_take" s_law_take a_law_take fd_law_take
  b_law_take : Binds K fd_law_take P_law_take []
  a_law_rule : Addr
  fd_law_rule : FuncData
  g_law_rule : mg "_law_rule" = some (.ref a_law_rule)
  k_law_rule : PySem.W.keepIn K (.ref a_law_rule) = true
  F_law_rule : Fun K "_law_rule" "_law_rule" s_law_rule a_law_rule fd_law_rule
  b_law_rule : Binds K fd_law_rule P_law_rule []
  a_law_key : Addr
  fd_law_key : FuncData
  g_law_key : mg "_law_key" = some (.ref a_law_key)
  k_law_key : PySem.W.keepIn K (.ref a_law_key) = true
  F_law_key : Fun K "_law_key" "_law_key" s_law_key a_law_key fd_law_key
  b_law_key : Binds K fd_law_key P_law_key []
  a_law_due : Addr
  fd_law_due : FuncData
  g_law_due : mg "_law_due" = some (.ref a_law_due)
  k_law_due : PySem.W.keepIn K (.ref a_law_due) = true
  F_law_due : Fun K "_law_due" "_law_due" s_law_due a_law_due fd_law_due
  b_law_due : Binds K fd_law_due P_law_due []
  a_law : Addr
  fd_law : FuncData
  g_law : mg "law" = some (.ref a_law)
  k_law : PySem.W.keepIn K (.ref a_law) = true
  F_law : Fun K "law" "law" s_law a_law fd_law
  b_law : Binds K fd_law P_law []
  a_Table : Addr
  g_Table : mg "Table" = some (.ref a_Table)
  cl_Table : Cls K a_Table
  mk_Table : Mk K a_Table a_Table___init
  na_Table_rule : NoAttr K a_Table "rule"
  a_CLASSES : Addr
  g_CLASSES : mg "CLASSES" = some (.ref a_CLASSES)
  s_CLASSES : ∀ H, SqT K H a_CLASSES [.int 1, .int 2, .int 3]
  u_LETTERS : Value
  g_LETTERS : mg "LETTERS" = some u_LETTERS
  r_LETTERS : RelV (.str "abcdefghijklmnopqrstuvwxyz") u_LETTERS
  u_CAPITALS : Value
  g_CAPITALS : mg "CAPITALS" = some u_CAPITALS
  r_CAPITALS : RelV (.str "ABCDEFGHIJKLMNOPQRSTUVWXYZ") u_CAPITALS
  u_OTHERS : Value
  g_OTHERS : mg "OTHERS" = some u_OTHERS
  r_OTHERS : RelV (.str "0123456789'-.:^_~") u_OTHERS
  u_MOST_WORD : Value
  g_MOST_WORD : mg "MOST_WORD" = some u_MOST_WORD
  r_MOST_WORD : RelV (.int 40) u_MOST_WORD
  u_MOST_FOLD : Value
  g_MOST_FOLD : mg "MOST_FOLD" = some u_MOST_FOLD
  r_MOST_FOLD : RelV (.int 3) u_MOST_FOLD
  u_MOST_FOLDS : Value
  g_MOST_FOLDS : mg "MOST_FOLDS" = some u_MOST_FOLDS
  r_MOST_FOLDS : RelV (.int 40) u_MOST_FOLDS
  u_MOST_MARKS : Value
  g_MOST_MARKS : mg "MOST_MARKS" = some u_MOST_MARKS
  r_MOST_MARKS : RelV (.int 8) u_MOST_MARKS
  n_abs : mg "abs" = none
  n_all : mg "all" = none
  n_any : mg "any" = none
  n_bool : mg "bool" = none
  n_dict : mg "dict" = none
  n_int : mg "int" = none
  n_isinstance : mg "isinstance" = none
  n_len : mg "len" = none
  n_list : mg "list" = none
  n_max : mg "max" = none
  n_min : mg "min" = none
  n_range : mg "range" = none
  n_repr : mg "repr" = none
  n_sorted : mg "sorted" = none
  n_str : mg "str" = none
section
variable {P : Program} {w : World} {K : PySem.W.Frag} {mg : Str → Option Value} {base : Heap}
def t_is_sign (K : PySem.W.Frag)   : TS :=
    (tRet (tAndV (tCB (rIsiA K) (tCons (tVar 0) (tCons (tC (.ty "str")) tNil))) (tAndV (tOp (rEqA K) (tCB (rLenA K) (tCons (tVar 0) tNil)) (tC (.int 1))) (tOp (rInA K) (tVar 0) (tOp (rAddA K) (tOp (rAddA K) (tC (.str "abcdefghijklmnopqrstuvwxyz")) (tC (.str "ABCDEFGHIJKLMNOPQRSTUVWXYZ"))) (tC (.str "0123456789'-.:^_~")))))))
theorem d_is_sign (T : Txt K mg) {cdv : Value} {A : Around} {outer : List Env} {s : Shared} {H : Hp} {E : XK} (hr : Room 0 (A.deeper (envOfC "is_sign" (defScope s_is_sign) s.heap.objs.size T.a_is_sign cdv)))  :
    PSs (cxOf CX0 P w K mg base N_is_sign "is_sign" (defScope s_is_sign) T.a_is_sign cdv A outer s H E).nox (defBody s_is_sign) (t_is_sign K  ) :=
    (pss_one (ps_ret (pe_and (pe_callB c_isi (by rfl) T.n_isinstance (by decide +kernel) (pa_cons (pv 0) (pa_cons (pe_bltn (by rfl) T.n_str (by decide +kernel) rfl) pa_nil))) (pe_and (pe_cmpR (o_eq (hu4 hr)) (pe_callB c_len (by rfl) T.n_len (by decide +kernel) (pa_cons (pv 0) pa_nil)) pe_int (nomark _)) (pe_one (pe_cmpR (o_in (hu_of hr)) (pv 0) (pe_op o_add (pe_op o_add (pe_glob rfl T.g_LETTERS T.r_LETTERS) (pe_glob rfl T.g_CAPITALS T.r_CAPITALS)) (pe_glob rfl T.g_OTHERS T.r_OTHERS)) (by rfl)))))))
def t_has_signs (K : PySem.W.Frag)  (sp_is_sign : Sp) : TS :=
    (tRet (tAndV (tCB (rIsiA K) (tCons (tVar 0) (tCons (tC (.ty "str")) tNil))) (tAndV (tChain (rLeA K) (rLeA K) (tC (.int 1)) (tCB (rLenA K) (tCons (tVar 0) tNil)) (tVar 1)) (tCB (rAll K) (tCons (tLc (iSeq K (tVar 0)) (gName 2) tYes (tCall sp_is_sign [] E0 (tCons (tVar 2) tNil)) [2]) tNil)))))
theorem d_has_signs (T : Txt K mg) {cdv : Value} {A : Around} {outer : List Env} {s : Shared} {H : Hp} {E : XK} (hr : Room 1 (A.deeper (envOfC "has_signs" (defScope s_has_signs) s.heap.objs.size T.a_has_signs cdv))) {sp_is_sign : Sp} (G_is_sign : FnOk P w K mg base CX0 1 T.a_is_sign T.fd_is_sign P_is_sign sp_is_sign) :
    PSs (cxOf CX0 P w K mg base N_has_signs "has_signs" (defScope s_has_signs) T.a_has_signs cdv A outer s H E).nox (defBody s_has_signs) (t_has_signs K  sp_is_sign) :=
    (pss_one (ps_ret (pe_and (pe_callB c_isi (by rfl) T.n_isinstance (by decide +kernel) (pa_cons (pv 0) (pa_cons (pe_bltn (by rfl) T.n_str (by decide +kernel) rfl) pa_nil))) (pe_and (pe_chain (x_le hr.units0) (x_le hr.units0) pe_int (pe_callB c_len (by rfl) T.n_len (by decide +kernel) (pa_cons (pv 0) pa_nil)) (pv 1)) (pe_one (pe_callB (cr_all rfl) (by rfl) T.n_all (by decide +kernel) (pa_cons (pe_lc (own := [("sign", 2)]) rfl sc_has_signs.nd (pi_seq (pv 0)) (blkOk_by (own := [("sign", 2)]) (N := N_has_signs) (sc := defScope s_has_signs) (by decide +kernel)) (fun _ _ _ _ _ => (pg_name (i := 2) sc_has_signs.nd rfl (Or.inl rfl))) (fun _ _ _ _ _ => pts_nil) (fun _ _ _ _ _ => (pe_call G_is_sign (hr.mono (by decide)) rfl T.g_is_sign T.k_is_sign T.b_is_sign .nil pass0 (pa_cons (pv 2) pa_nil)))) pa_nil)))))))
def t_is_class (K : PySem.W.Frag) (ad_CLASSES : Addr)  : TS :=
    (tRet (tAndV (tCB (rIsiA K) (tCons (tVar 0) (tCons (tC (.ty "int")) tNil))) (tAndV (tNotV (tCB (rIsiA K) (tCons (tVar 0) (tCons (tC (.ty "bool")) tNil)))) (tOp (rInA K) (tVar 0) (tC (.ref ad_CLASSES))))))
theorem d_is_class (T : Txt K mg) {cdv : Value} {A : Around} {outer : List Env} {s : Shared} {H : Hp} {E : XK} (hr : Room 0 (A.deeper (envOfC "is_class" (defScope s_is_class) s.heap.objs.size T.a_is_class cdv)))  :
    PSs (cxOf CX0 P w K mg base N_is_class "is_class" (defScope s_is_class) T.a_is_class cdv A outer s H E).nox (defBody s_is_class) (t_is_class K T.a_CLASSES ) :=
    (pss_one (ps_ret (pe_and (pe_callB c_isi (by rfl) T.n_isinstance (by decide +kernel) (pa_cons (pv 0) (pa_cons (pe_bltn (by rfl) T.n_int (by decide +kernel) rfl) pa_nil))) (pe_and (pe_not (pe_callB c_isi (by rfl) T.n_isinstance (by decide +kernel) (pa_cons (pv 0) (pa_cons (pe_bltn (by rfl) T.n_bool (by decide +kernel) rfl) pa_nil)))) (pe_one (pe_cmpR (o_in (hu_of hr)) (pv 0) (pe_glob rfl T.g_CLASSES rfl) (by rfl)))))))
def t_look_folds (K : PySem.W.Frag)  (sp_has_signs : Sp) (sp_is_sign : Sp) : TS :=
    (tFor (iSeq K (tCB (rSortedA K) (tCons (tVar 0) tNil))) (gName 1) (tSeq (tAsg (tOp (rIxA K) (tVar 0) (tVar 1)) (gName 2))
    (tSeq (tIfS (tNot (tB (tCall sp_is_sign [] E0 (tCons (tVar 1) tNil)))) tNever tNext)
    (tIfS (tOr (tNot (tB (tCall sp_has_signs [] E0 (tCons (tVar 2) (tCons (tC (.int 3)) tNil))))) (tB (tCB (rAny K) (tCons (tLc (iSeq K (tVar 2)) (gName 3) tYes (tOp (rInA K) (tVar 3) (tVar 0)) [3]) tNil)))) tNever tNext))))
theorem d_look_folds (T : Txt K mg) {cdv : Value} {A : Around} {outer : List Env} {s : Shared} {H : Hp} {E : XK} (hr : Room 2 (A.deeper (envOfC "look_folds" (defScope s_look_folds) s.heap.objs.size T.a_look_folds cdv))) {sp_has_signs : Sp} (G_has_signs : FnOk P w K mg base CX0 2 T.a_has_signs T.fd_has_signs P_has_signs sp_has_signs) {sp_is_sign : Sp} (G_is_sign : FnOk P w K mg base CX0 1 T.a_is_sign T.fd_is_sign P_is_sign sp_is_sign) :
    PSs (cxOf CX0 P w K mg base N_look_folds "look_folds" (defScope s_look_folds) T.a_look_folds cdv A outer s H E).nox (defBody s_look_folds) (t_look_folds K  sp_has_signs sp_is_sign) :=
    (pss_one (ps_for PassesOwn.never rfl (pi_seq (pe_callB (c_sorted rfl) (by rfl) T.n_sorted (by decide +kernel) (pa_cons (pv 0) pa_nil))) (pg_name (i := 1) sc_look_folds.nd rfl (Or.inl rfl)) (pss_cons (ps_set (i := 2) sc_look_folds.nd rfl (Or.inl rfl) (pe_ix (ix_any (hu_of hr)) (pv 0) (pv 1) (fun _ _ => rfl)))
    (pss_cons (ps_if (pt_not (pt_val (pe_call G_is_sign (hr.mono (by decide)) rfl T.g_is_sign T.k_is_sign T.b_is_sign .nil pass0 (pa_cons (pv 1) pa_nil)))) (pss_one ps_never) pss_nil)
    (pss_one (ps_if (PW.pt (pw_or (pt_not (pt_val (pe_call G_has_signs (hr.mono (by decide)) rfl T.g_has_signs T.k_has_signs T.b_has_signs .nil pass0 (pa_cons (pv 2) (pa_cons (pe_glob rfl T.g_MOST_FOLD T.r_MOST_FOLD) pa_nil))))) (pw_or1 (pt_val (pe_callB (cr_any rfl) (by rfl) T.n_any (by decide +kernel) (pa_cons (pe_lc (own := [("one", 3)]) rfl sc_look_folds.nd (pi_seq (pv 2)) (blkOk_by (own := [("one", 3)]) (N := N_look_folds) (sc := defScope s_look_folds) (by decide +kernel)) (fun _ _ _ _ _ => (pg_name (i := 3) sc_look_folds.nd rfl (Or.inl rfl))) (fun _ _ _ _ _ => pts_nil) (fun _ _ _ _ _ => (pe_cmpR (o_in (hu_of hr)) (pv 3) (pv 0) (by rfl)))) pa_nil)))))) (pss_one ps_never) pss_nil))))))
def t_look_marks (K : PySem.W.Frag)  (sp_is_class : Sp) (sp_is_sign : Sp) : TS :=
    (tFor (iSeq K (tCB (rSortedA K) (tCons (tVar 0) tNil))) (gName 2) (tSeq (tIfS (tNot (tB (tCall sp_is_sign [] E0 (tCons (tVar 2) tNil)))) tNever tNext)
    (tIfS (tOr (tNot (tB (tCall sp_is_class [] E0 (tCons (tOp (rIxA K) (tVar 0) (tVar 2)) tNil)))) (tTest (tOp (rInA K) (tVar 2) (tVar 1)))) tNever tNext)))
theorem d_look_marks (T : Txt K mg) {cdv : Value} {A : Around} {outer : List Env} {s : Shared} {H : Hp} {E : XK} (hr : Room 1 (A.deeper (envOfC "look_marks" (defScope s_look_marks) s.heap.objs.size T.a_look_marks cdv))) {sp_is_class : Sp} (G_is_class : FnOk P w K mg base CX0 1 T.a_is_class T.fd_is_class P_is_class sp_is_class) {sp_is_sign : Sp} (G_is_sign : FnOk P w K mg base CX0 1 T.a_is_sign T.fd_is_sign P_is_sign sp_is_sign) :
    PSs (cxOf CX0 P w K mg base N_look_marks "look_marks" (defScope s_look_marks) T.a_look_marks cdv A outer s H E).nox (defBody s_look_marks) (t_look_marks K  sp_is_class sp_is_sign) :=
    (pss_one (ps_for PassesOwn.never rfl (pi_seq (pe_callB (c_sorted rfl) (by rfl) T.n_sorted (by decide +kernel) (pa_cons (pv 0) pa_nil))) (pg_name (i := 2) sc_look_marks.nd rfl (Or.inl rfl)) (pss_cons (ps_if (pt_not (pt_val (pe_call G_is_sign (hr.mono (by decide)) rfl T.g_is_sign T.k_is_sign T.b_is_sign .nil pass0 (pa_cons (pv 2) pa_nil)))) (pss_one ps_never) pss_nil)
    (pss_one (ps_if (PW.pt (pw_or (pt_not (pt_val (pe_call G_is_class (hr.mono (by decide)) rfl T.g_is_class T.k_is_class T.b_is_class .nil pass0 (pa_cons (pe_ix (ix_any (hu_of hr)) (pv 0) (pv 2) (fun _ _ => rfl)) pa_nil)))) (pw_or1 (pt_cmpR (o_in (hu_of hr)) (pv 2) (pv 1) (by rfl))))) (pss_one ps_never) pss_nil)))))
def t_in_order (K : PySem.W.Frag) (ad_CLASSES : Addr)  : TS :=
    (tRet (tLc2 (iSeq K (tC (.ref ad_CLASSES))) (gName 2) tYes (iSeq K (tVar 0)) (gName 3) (tTest (tOp (rEqA K) (tOp (rIxA K) (tVar 1) (tVar 3)) (tVar 2))) (tVar 3) [2, 3] [3]))
theorem d_in_order (T : Txt K mg) {cdv : Value} {A : Around} {outer : List Env} {s : Shared} {H : Hp} {E : XK} (hr : Room 0 (A.deeper (envOfC "in_order" (defScope s_in_order) s.heap.objs.size T.a_in_order cdv)))  :
    PSs (cxOf CX0 P w K mg base N_in_order "in_order" (defScope s_in_order) T.a_in_order cdv A outer s H E).nox (defBody s_in_order) (t_in_order K T.a_CLASSES ) :=
    (pss_one (ps_ret (pe_lc2 (own := [("number", 2), ("mark", 3)]) (vs1 := [3]) rfl sc_in_order.nd (pi_seq (pe_glob rfl T.g_CLASSES rfl)) (blkOk_by (own := [("number", 2), ("mark", 3)]) (N := N_in_order) (sc := defScope s_in_order) (by decide +kernel)) (by decide) (fun _ _ _ _ _ => (pg_name (i := 2) sc_in_order.nd rfl (Or.inl rfl))) (fun _ _ _ _ _ => pts_nil) (fun _ _ _ _ _ => (pi_seq (pv 0))) (fun _ _ _ _ _ => (pg_name (i := 3) sc_in_order.nd rfl (Or.inl rfl))) (fun _ _ _ _ _ => pts_one (pt_cmpR (o_eq (hu4 hr)) (pe_ix (ix_any (hu_of hr)) (pv 1) (pv 3) (fun _ _ => rfl)) (pv 2) (nomark _))) (fun _ _ _ _ _ => (pv 3)))))
def t_ordered_runs (K : PySem.W.Frag)  (sp_in_order : Sp) : TS :=
    (tSeq (tPar 3 4 (tCons (tLst tNil) (tCons (tLst tNil) tNil)))
    (tSeq (tFor (iSeq K (tVar 0)) (gName 2) (tIfS (tTest (tOp (rInA K) (tVar 2) (tVar 1))) (tAsg (tLst (StX.tStar K (tVar 4) (tCons (tVar 2) tNil))) (gName 4)) (tSeq (tAsg (tLst (StX.tStar K (tVar 3) (StX.tStar K (tCall sp_in_order [] E0 (tCons (tVar 4) (tCons (tVar 1) tNil))) (tCons (tVar 2) tNil)))) (gName 3))
    (tAsg (tLst tNil) (gName 4)))))
    (tRet (tM1 (rJoin K) (tC (.str "")) (tLst (StX.tStar K (tVar 3) (StX.tStar K (tCall sp_in_order [] E0 (tCons (tVar 4) (tCons (tVar 1) tNil))) tNil)))))))
theorem d_ordered_runs (T : Txt K mg) {cdv : Value} {A : Around} {outer : List Env} {s : Shared} {H : Hp} {E : XK} (hr : Room 1 (A.deeper (envOfC "ordered_runs" (defScope s_ordered_runs) s.heap.objs.size T.a_ordered_runs cdv))) {sp_in_order : Sp} (G_in_order : FnOk P w K mg base CX0 1 T.a_in_order T.fd_in_order P_in_order sp_in_order) :
    PSs (cxOf CX0 P w K mg base N_ordered_runs "ordered_runs" (defScope s_ordered_runs) T.a_ordered_runs cdv A outer s H E).nox (defBody s_ordered_runs) (t_ordered_runs K  sp_in_order) :=
    (pss_cons (ps_par (by rfl) sc_ordered_runs.nd (i := 3) (j := 4) rfl rfl (by decide) rfl rfl (pa_cons (pe_lst pa_nil) (pa_cons (pe_lst pa_nil) pa_nil)) (by rfl))
    (pss_cons (ps_for PassesOwn.never rfl (pi_seq (pv 0)) (pg_name (i := 2) sc_ordered_runs.nd rfl (Or.inl rfl)) (pss_one (ps_if (pt_cmpR (o_in (hu_of hr)) (pv 2) (pv 1) (by rfl)) (pss_one (ps_set (i := 4) sc_ordered_runs.nd rfl (Or.inl rfl) (pe_lst (StX.pa_star (pv 4) (pa_cons (pv 2) pa_nil))))) (pss_cons (ps_set (i := 3) sc_ordered_runs.nd rfl (Or.inl rfl) (pe_lst (StX.pa_star (pv 3) (StX.pa_star (pe_call G_in_order (hr.mono (by decide)) rfl T.g_in_order T.k_in_order T.b_in_order .nil pass0 (pa_cons (pv 4) (pa_cons (pv 1) pa_nil))) (pa_cons (pv 2) pa_nil)))))
    (pss_one (ps_set (i := 4) sc_ordered_runs.nd rfl (Or.inl rfl) (pe_lst pa_nil)))))))
    (pss_one (ps_ret (pe_join pe_str (pe_lst (StX.pa_star (pv 3) (StX.pa_star (pe_call G_in_order (hr.mono (by decide)) rfl T.g_in_order T.k_in_order T.b_in_order .nil pass0 (pa_cons (pv 4) (pa_cons (pv 1) pa_nil))) pa_nil))))))))
def t_key_of (K : PySem.W.Frag)  (sp_ordered_runs : Sp) : TS :=
    (tSeq (tAsg (tVar 0) (gTup K 2 (gCons (gName 2) (gCons (gName 3) gNil))))
    (tRet (tCall sp_ordered_runs [] E0 (tCons (tM1 (rJoin K) (tC (.str "")) (tLc (iSeq K (tVar 1)) (gName 4) tYes (tIf (tTest (tOp (rInA K) (tVar 4) (tVar 2))) (tOp (rIxA K) (tVar 2) (tVar 4)) (tVar 4)) [4])) (tCons (tVar 3) tNil)))))
theorem d_key_of (T : Txt K mg) {cdv : Value} {A : Around} {outer : List Env} {s : Shared} {H : Hp} {E : XK} (hr : Room 2 (A.deeper (envOfC "key_of" (defScope s_key_of) s.heap.objs.size T.a_key_of cdv))) {sp_ordered_runs : Sp} (G_ordered_runs : FnOk P w K mg base CX0 2 T.a_ordered_runs T.fd_ordered_runs P_ordered_runs sp_ordered_runs) :
    PSs (cxOf CX0 P w K mg base N_key_of "key_of" (defScope s_key_of) T.a_key_of cdv A outer s H E).nox (defBody s_key_of) (t_key_of K  sp_ordered_runs) :=
    (pss_cons (ps_asg (pv 0) (pg_tup rfl (pgs_cons (pg_name (i := 2) sc_key_of.nd rfl (Or.inr rfl)) (pgs_cons (pg_name (i := 3) sc_key_of.nd rfl (Or.inl rfl)) pgs_nil))))
    (pss_one (ps_ret (pe_call G_ordered_runs (hr.mono (by decide)) rfl T.g_ordered_runs T.k_ordered_runs T.b_ordered_runs .nil pass0 (pa_cons (pe_join pe_str (pe_lc (own := [("sign", 4)]) rfl sc_key_of.nd (pi_seq (pv 1)) (blkOk_by (own := [("sign", 4)]) (N := N_key_of) (sc := defScope s_key_of) (by decide +kernel)) (fun _ _ _ _ _ => (pg_name (i := 4) sc_key_of.nd rfl (Or.inl rfl))) (fun _ _ _ _ _ => pts_nil) (fun _ _ _ _ _ => (pe_ifExp (pt_cmpR (o_in (hu_of hr)) (pv 4) (pv 2) (by rfl)) (pe_ix (ix_any (hu_of hr)) (pv 2) (pv 4) (fun _ _ => rfl)) (pv 4))))) (pa_cons (pv 3) pa_nil))))))
def t_exchange_pairs (K : PySem.W.Frag)   : TS :=
    (tSeq (tAsg (tVar 0) (gTup K 2 (gCons (gName 3) (gCons (gName 4) gNil))))
    (tSeq (tAsg (tLc (iSeq K (tCB (rSortedA K) (tCons (tVar 3) tNil))) (gName 5) tYes (tTup (tCons (tVar 5) (tCons (tOp (rIxA K) (tVar 3) (tVar 5)) tNil))) [5]) (gName 1))
    (tSeq (tAsg (tLc2 (iSeq K (tCB (rSortedA K) (tCons (tVar 4) tNil))) (gName 6) tYes (iSeq K (tCB (rSortedA K) (tCons (tVar 4) tNil))) (gName 7) (tAnd (tTest (tOp (rLtA K) (tVar 6) (tVar 7))) (tTest (tOp (rNeA K) (tOp (rIxA K) (tVar 4) (tVar 6)) (tOp (rIxA K) (tVar 4) (tVar 7))))) (tTup (tCons (tVar 6) (tCons (tVar 7) tNil))) [6, 7] [7]) (gName 2))
    (tRet (tOp (rAddA K) (tVar 1) (tLc (iSeq K (tVar 2)) (gTup K 2 (gCons (gName 6) (gCons (gName 7) gNil))) tYes (tTup (tCons (tOp (rAddA K) (tVar 6) (tVar 7)) (tCons (tOp (rAddA K) (tVar 7) (tVar 6)) tNil))) [6, 7]))))))
theorem d_exchange_pairs (T : Txt K mg) {cdv : Value} {A : Around} {outer : List Env} {s : Shared} {H : Hp} {E : XK} (hr : Room 0 (A.deeper (envOfC "exchange_pairs" (defScope s_exchange_pairs) s.heap.objs.size T.a_exchange_pairs cdv)))  :
    PSs (cxOf CX0 P w K mg base N_exchange_pairs "exchange_pairs" (defScope s_exchange_pairs) T.a_exchange_pairs cdv A outer s H E).nox (defBody s_exchange_pairs) (t_exchange_pairs K  ) :=
    (pss_cons (ps_asg (pv 0) (pg_tup rfl (pgs_cons (pg_name (i := 3) sc_exchange_pairs.nd rfl (Or.inr rfl)) (pgs_cons (pg_name (i := 4) sc_exchange_pairs.nd rfl (Or.inr rfl)) pgs_nil))))
    (pss_cons (ps_setLc (i := 1) (own := [("sign", 5)]) rfl sc_exchange_pairs.nd rfl rfl (sw_true rfl rfl rfl (by decide +kernel)) (pi_seq (pe_callB (c_sorted rfl) (by rfl) T.n_sorted (by decide +kernel) (pa_cons (pv 3) pa_nil))) (blkOk_by (own := [("sign", 5)]) (N := N_exchange_pairs) (sc := defScope s_exchange_pairs) (by decide +kernel)) (fun _ _ _ _ _ => (pg_name (i := 5) sc_exchange_pairs.nd rfl (Or.inl rfl))) (fun _ _ _ _ _ => pts_nil) (fun _ _ _ _ _ => (pe_tup (pa_cons (pv 5) (pa_cons (pe_ix (ix_any (hu_of hr)) (pv 3) (pv 5) (fun _ _ => rfl)) pa_nil)))))
    (pss_cons (ps_setLc2 (i := 2) (own := [("a", 6), ("b", 7)]) (vs1 := [7]) rfl sc_exchange_pairs.nd rfl rfl (sw_true rfl rfl rfl (by decide +kernel)) (pi_seq (pe_callB (c_sorted rfl) (by rfl) T.n_sorted (by decide +kernel) (pa_cons (pv 4) pa_nil))) (blkOk_by (own := [("a", 6), ("b", 7)]) (N := N_exchange_pairs) (sc := defScope s_exchange_pairs) (by decide +kernel)) (by decide) (fun _ _ _ _ _ => (pg_name (i := 6) sc_exchange_pairs.nd rfl (Or.inl rfl))) (fun _ _ _ _ _ => pts_nil) (fun _ _ _ _ _ => (pi_seq (pe_callB (c_sorted rfl) (by rfl) T.n_sorted (by decide +kernel) (pa_cons (pv 4) pa_nil)))) (fun _ _ _ _ _ => (pg_name (i := 7) sc_exchange_pairs.nd rfl (Or.inl rfl))) (fun _ _ _ _ _ => pts_one (PW.pt (pw_and (pt_cmpR (x_lt hr.units0) (pv 6) (pv 7) (nomark _)) (pw_and1 (pt_cmpR (o_ne (hu4 hr)) (pe_ix (ix_any (hu_of hr)) (pv 4) (pv 6) (fun _ _ => rfl)) (pe_ix (ix_any (hu_of hr)) (pv 4) (pv 7) (fun _ _ => rfl)) (nomark _)))))) (fun _ _ _ _ _ => (pe_tup (pa_cons (pv 6) (pa_cons (pv 7) pa_nil)))))
    (pss_one (ps_ret (pe_op o_add (pv 1) (pe_lc (own := [("a", 6), ("b", 7)]) rfl sc_exchange_pairs.nd (pi_seq (pv 2)) (blkOk_by (own := [("a", 6), ("b", 7)]) (N := N_exchange_pairs) (sc := defScope s_exchange_pairs) (by decide +kernel)) (fun _ _ _ _ _ => (pg_tup rfl (pgs_cons (pg_name (i := 6) sc_exchange_pairs.nd rfl (Or.inl rfl)) (pgs_cons (pg_name (i := 7) sc_exchange_pairs.nd rfl (Or.inl rfl)) pgs_nil)))) (fun _ _ _ _ _ => pts_nil) (fun _ _ _ _ _ => (pe_tup (pa_cons (pe_op o_add (pv 6) (pv 7)) (pa_cons (pe_op o_add (pv 7) (pv 6)) pa_nil)))))))))))
def t_are_one (K : PySem.W.Frag)  (sp_key_of : Sp) : TS :=
    (tRet (tOp (rEqA K) (tCall sp_key_of [] E0 (tCons (tVar 0) (tCons (tVar 1) tNil))) (tCall sp_key_of [] E0 (tCons (tVar 0) (tCons (tVar 2) tNil)))))
theorem d_are_one (T : Txt K mg) {cdv : Value} {A : Around} {outer : List Env} {s : Shared} {H : Hp} {E : XK} (hr : Room 3 (A.deeper (envOfC "are_one" (defScope s_are_one) s.heap.objs.size T.a_are_one cdv))) {sp_key_of : Sp} (G_key_of : FnOk P w K mg base CX0 3 T.a_key_of T.fd_key_of P_key_of sp_key_of) :
    PSs (cxOf CX0 P w K mg base N_are_one "are_one" (defScope s_are_one) T.a_are_one cdv A outer s H E).nox (defBody s_are_one) (t_are_one K  sp_key_of) :=
    (pss_one (ps_ret (pe_cmpR (o_eq (hu4 hr)) (pe_call G_key_of (hr.mono (by decide)) rfl T.g_key_of T.k_key_of T.b_key_of .nil pass0 (pa_cons (pv 0) (pa_cons (pv 1) pa_nil))) (pe_call G_key_of (hr.mono (by decide)) rfl T.g_key_of T.k_key_of T.b_key_of .nil pass0 (pa_cons (pv 0) (pa_cons (pv 2) pa_nil))) (nomark _))))
def t_Table___init (K : PySem.W.Frag)  (sp_look_marks : Sp) (sp_look_folds : Sp) : TS :=
    (tSeq (tDrop (tCall sp_look_folds [] E0 (tCons (tVar 1) tNil)))
    (tSeq (tDrop (tCall sp_look_marks [] E0 (tCons (tVar 2) (tCons (tVar 1) tNil))))
    (tSeq (tFor (iSeq K (tTup (tCons (tTup (tCons (tVar 1) (tCons (tC (.int 40)) tNil))) (tCons (tTup (tCons (tVar 2) (tCons (tC (.int 8)) tNil))) tNil)))) (gTup K 2 (gCons (gName 3) (gCons (gName 4) gNil))) (tIfS (tTest (tOp (rGtA K) (tCB (rLenA K) (tCons (tVar 3) tNil)) (tVar 4))) tNever tNext))
    (sFld K (tVar 0) (tTup (tCons (tLk (tCB rDictA (tCons (tVar 1) tNil))) (tCons (tLk (tCB rDictA (tCons (tVar 2) tNil))) tNil))) "rule"))))
theorem d_Table___init (T : Txt K mg) {cdv : Value} {A : Around} {outer : List Env} {s : Shared} {H : Hp} {E : XK} (hr : Room 3 (A.deeper (envOfC "Table.__init__" (defScope s_Table___init) s.heap.objs.size T.a_Table___init cdv))) {sp_look_marks : Sp} (G_look_marks : FnOk P w K mg base CX0 2 T.a_look_marks T.fd_look_marks P_look_marks sp_look_marks) {sp_look_folds : Sp} (G_look_folds : FnOk P w K mg base CX0 3 T.a_look_folds T.fd_look_folds P_look_folds sp_look_folds) :
    PSs (cxOf CX0 P w K mg base N_Table___init "Table.__init__" (defScope s_Table___init) T.a_Table___init cdv A outer s H E).nox (defBody s_Table___init) (t_Table___init K  sp_look_marks sp_look_folds) :=
    (pss_cons (ps_expr (pe_call G_look_folds (hr.mono (by decide)) rfl T.g_look_folds T.k_look_folds T.b_look_folds .nil pass0 (pa_cons (pv 1) pa_nil)))
    (pss_cons (ps_expr (pe_call G_look_marks (hr.mono (by decide)) rfl T.g_look_marks T.k_look_marks T.b_look_marks .nil pass0 (pa_cons (pv 2) (pa_cons (pv 1) pa_nil))))
    (pss_cons (ps_for PassesOwn.never rfl (pi_seq (pe_tup (pa_cons (pe_tup (pa_cons (pv 1) (pa_cons (pe_glob rfl T.g_MOST_FOLDS T.r_MOST_FOLDS) pa_nil))) (pa_cons (pe_tup (pa_cons (pv 2) (pa_cons (pe_glob rfl T.g_MOST_MARKS T.r_MOST_MARKS) pa_nil))) pa_nil)))) (pg_tup rfl (pgs_cons (pg_name (i := 3) sc_Table___init.nd rfl (Or.inl rfl)) (pgs_cons (pg_name (i := 4) sc_Table___init.nd rfl (Or.inl rfl)) pgs_nil))) (pss_one (ps_if (pt_cmpR (x_gt hr.units0) (pe_callB c_len (by rfl) T.n_len (by decide +kernel) (pa_cons (pv 3) pa_nil)) (pv 4) (nomark _)) (pss_one ps_never) pss_nil)))
    (pss_one (ps_fld (pv 0) (pe_tup (pa_cons (pe_lk (pe_callTy c_dict (by rfl) T.n_dict (by decide +kernel) (pa_cons (pv 1) pa_nil))) (pa_cons (pe_lk (pe_callTy c_dict (by rfl) T.n_dict (by decide +kernel) (pa_cons (pv 2) pa_nil))) pa_nil))) rfl)))))
def t_failing (K : PySem.W.Frag)  (sp_exchange_pairs : Sp) (sp_are_one : Sp) : TS :=
    (tRet (tLc (iSeq K (tCall sp_exchange_pairs [] E0 (tCons (tFld K (tVar 0) "rule") tNil))) (gName 2) (tNot (tB (tCall sp_are_one [] E0 (tCons (tFld K (tVar 1) "rule") (StX.tStar K (tVar 2) tNil))))) (tVar 2) [2]))
theorem d_failing (T : Txt K mg) {cdv : Value} {A : Around} {outer : List Env} {s : Shared} {H : Hp} {E : XK} (hr : Room 4 (A.deeper (envOfC "failing" (defScope s_failing) s.heap.objs.size T.a_failing cdv))) {sp_exchange_pairs : Sp} (G_exchange_pairs : FnOk P w K mg base CX0 1 T.a_exchange_pairs T.fd_exchange_pairs P_exchange_pairs sp_exchange_pairs) {sp_are_one : Sp} (G_are_one : FnOk P w K mg base CX0 4 T.a_are_one T.fd_are_one P_are_one sp_are_one) :
    PSs (cxOf CX0 P w K mg base N_failing "failing" (defScope s_failing) T.a_failing cdv A outer s H E).nox (defBody s_failing) (t_failing K  sp_exchange_pairs sp_are_one) :=
    (pss_one (ps_ret (pe_lc (own := [("pair", 2)]) rfl sc_failing.nd (pi_seq (pe_call G_exchange_pairs (hr.mono (by decide)) rfl T.g_exchange_pairs T.k_exchange_pairs T.b_exchange_pairs .nil pass0 (pa_cons (pe_fld (pv 0) rfl) pa_nil))) (blkOk_by (own := [("pair", 2)]) (N := N_failing) (sc := defScope s_failing) (by decide +kernel)) (fun _ _ _ _ _ => (pg_name (i := 2) sc_failing.nd rfl (Or.inl rfl))) (fun _ _ _ _ _ => pts_one (pt_not (pt_val (pe_callS G_are_one (hr.mono (by decide)) rfl T.g_are_one T.k_are_one T.b_are_one pass0 (pa_cons (pe_fld (pv 1) rfl) (StX.pa_star (pv 2) pa_nil)))))) (fun _ _ _ _ _ => (pv 2)))))
def t_law_bag (K : PySem.W.Frag)   : TS :=
    (tSeq (tAsg (tIf (tTest (tOp (rLtA K) (tVar 1) (tCB (rLenA K) (tCons (tVar 0) tNil)))) (tOp (rIxA K) (tVar 0) (tVar 1)) (tC (.int 0))) (gName 2))
    (tSeq (tAsg (tIf (tTest (tOp (rGeA K) (tCB rAbs (tCons (tVar 2) tNil)) (tOp (rI CPow fun i j => V.int (i ^ j.toNat)) (tC (.int 10)) (tC (.int 18))))) (tCB rAbs (tCons (tVar 2) tNil)) (tC (.int 0))) (gName 3))
    (tRet (tLst (tCons (tVar 3) (tCons (tOp (rI (fun _ j => 0 < j) fun i j => V.int (i % j)) (tOp (rMulA K) (tOp (rAddA K) (tOp (rAddA K) (tOp (rI (fun _ j => 0 < j) fun i j => V.int (i % j)) (tVar 2) (tC (.int 2305843009213693951))) (tOp (rMulA K) (tC (.int 6211)) (tVar 1))) (tC (.int 17))) (tC (.int 92821993))) (tC (.int 2305843009213693951))) (tCons (tC (.int 0)) tNil)))))))
theorem d_law_bag (T : Txt K mg) {cdv : Value} {A : Around} {outer : List Env} {s : Shared} {H : Hp} {E : XK} (hr : Room 0 (A.deeper (envOfC "_law_bag" (defScope s_law_bag) s.heap.objs.size T.a_law_bag cdv)))  :
    PSs (cxOf CX0 P w K mg base N_law_bag "_law_bag" (defScope s_law_bag) T.a_law_bag cdv A outer s H E).nox (defBody s_law_bag) (t_law_bag K  ) :=
    (pss_cons (ps_set (i := 2) sc_law_bag.nd rfl (Or.inl rfl) (pe_ifExp (pt_cmpR (x_lt hr.units0) (pv 1) (pe_callB c_len (by rfl) T.n_len (by decide +kernel) (pa_cons (pv 0) pa_nil)) (nomark _)) (pe_ix (ix_any (hu_of hr)) (pv 0) (pv 1) (fun _ _ => rfl)) pe_int))
    (pss_cons (ps_set (i := 3) sc_law_bag.nd rfl (Or.inl rfl) (pe_ifExp (pt_cmpR (x_ge hr.units0) (pe_callB call_abs (by rfl) T.n_abs (by decide +kernel) (pa_cons (pv 2) pa_nil)) (pe_op op_pow pe_int pe_int) (nomark _)) (pe_callB call_abs (by rfl) T.n_abs (by decide +kernel) (pa_cons (pv 2) pa_nil)) pe_int))
    (pss_one (ps_ret (pe_lst (pa_cons (pv 3) (pa_cons (pe_op op_mod (pe_op o_mul (pe_op o_add (pe_op o_add (pe_op op_mod (pv 2) pe_int) (pe_op o_mul pe_int (pv 1))) pe_int) pe_int) pe_int) (pa_cons pe_int pa_nil))))))))
def t_law_take (K : PySem.W.Frag)   : TS :=
    (tSeq (tIfS (tTest (tOp (rGtA K) (tOp (rIxA K) (tVar 0) (tC (.int 0))) (tC (.int 0)))) (tSeq (tAsg (tOp (rI (fun _ j => 0 < j) fun i j => V.int (i % j)) (tOp (rIxA K) (tVar 0) (tC (.int 0))) (tVar 1)) (gName 3))
    (tSeq (tAsg (tOp (rI CDiv fun i j => V.int (i / j)) (tOp (rIxA K) (tVar 0) (tC (.int 0))) (tVar 1)) (gSub (tVar 0) (tC (.int 0)) rSetL))
    (tRet (tVar 3)))) tNext)
    (tSeq (tAsg (tOp (rAddA K) (tOp (rIxA K) (tVar 0) (tC (.int 2))) (tC (.int 1))) (gSub (tVar 0) (tC (.int 2)) rSetL))
    (tSeq (tAsg (tOp (rI (fun _ j => 0 < j) fun i j => V.int (i % j)) (tOp (rI CPow fun i j => V.int (i ^ j.toNat)) (tOp (rAddA K) (tOp (rIxA K) (tVar 0) (tC (.int 1))) (tOp (rMulA K) (tC (.int 5000011)) (tOp (rIxA K) (tVar 0) (tC (.int 2))))) (tC (.int 3))) (tC (.int 2305843009213693921))) (gName 2))
    (tSeq (tAsg (tOp (rI (fun _ j => 0 < j) fun i j => V.int (i % j)) (tOp (rI CPow fun i j => V.int (i ^ j.toNat)) (tOp (rAddA K) (tVar 2) (tOp (rMulA K) (tC (.int 71993051)) (tOp (rIxA K) (tVar 0) (tC (.int 2))))) (tC (.int 2))) (tC (.int 2305843009213693951))) (gName 2))
    (tRet (tOp (rI (fun _ j => 0 < j) fun i j => V.int (i % j)) (tOp (rI CDiv fun i j => V.int (i / j)) (tVar 2) (tC (.int 2048))) (tVar 1)))))))
theorem d_law_take (T : Txt K mg) {cdv : Value} {A : Around} {outer : List Env} {s : Shared} {H : Hp} {E : XK} (hr : Room 0 (A.deeper (envOfC "_law_take" (defScope s_law_take) s.heap.objs.size T.a_law_take cdv)))  :
    PSs (cxOf CX0 P w K mg base N_law_take "_law_take" (defScope s_law_take) T.a_law_take cdv A outer s H E).nox (defBody s_law_take) (t_law_take K  ) :=
    (pss_cons (ps_if (pt_cmpR (x_gt hr.units0) (pe_ix (ix_any (hu_of hr)) (pv 0) pe_int (fun _ _ => rfl)) pe_int (nomark _)) (pss_cons (ps_set (i := 3) sc_law_take.nd rfl (Or.inl rfl) (pe_op op_mod (pe_ix (ix_any (hu_of hr)) (pv 0) pe_int (fun _ _ => rfl)) (pv 1)))
    (pss_cons (ps_asg (pe_op op_fdiv (pe_ix (ix_any (hu_of hr)) (pv 0) pe_int (fun _ _ => rfl)) (pv 1)) (pg_sub (pv 0) pe_int set_list))
    (pss_one (ps_ret (pv 3))))) pss_nil)
    (pss_cons (ps_asg (pe_op o_add (pe_ix (ix_any (hu_of hr)) (pv 0) pe_int (fun _ _ => rfl)) pe_int) (pg_sub (pv 0) pe_int set_list))
    (pss_cons (ps_set (i := 2) sc_law_take.nd rfl (Or.inl rfl) (pe_op op_mod (pe_op op_pow (pe_op o_add (pe_ix (ix_any (hu_of hr)) (pv 0) pe_int (fun _ _ => rfl)) (pe_op o_mul pe_int (pe_ix (ix_any (hu_of hr)) (pv 0) pe_int (fun _ _ => rfl)))) pe_int) pe_int))
    (pss_cons (ps_set (i := 2) sc_law_take.nd rfl (Or.inl rfl) (pe_op op_mod (pe_op op_pow (pe_op o_add (pv 2) (pe_op o_mul pe_int (pe_ix (ix_any (hu_of hr)) (pv 0) pe_int (fun _ _ => rfl)))) pe_int) pe_int))
    (pss_one (ps_ret (pe_op op_mod (pe_op op_fdiv (pv 2) pe_int) (pv 1))))))))
def t_law_rule (K : PySem.W.Frag)  (sp_law_take : Sp) : TS :=
    (tSeq (tPar 2 3 (tCons tDNewK (tCons tDNewK tNil)))
    (tSeq (tFor (iSeq K (tC (.str "A1B2_Z9"))) (gName 1) (tIfS (tTest (tOp (rEqA K) (tCall sp_law_take [] E0 (tCons (tVar 0) (tCons (tC (.int 2)) tNil))) (tC (.int 0)))) (sDPut (tVar 2) (tVar 1) (tM1 (rJoin K) (tC (.str "")) (tLc (iRng1 (tCons (tOp (rIxA K) (tLst (tCons (tC (.int 1)) (tCons (tC (.int 1)) (tCons (tC (.int 2)) (tCons (tC (.int 2)) (tCons (tC (.int 3)) tNil)))))) (tCall sp_law_take [] E0 (tCons (tVar 0) (tCons (tC (.int 5)) tNil)))) tNil)) (gName 4) tYes (tOp (rIxA K) (tC (.str "aabc':^")) (tCall sp_law_take [] E0 (tCons (tVar 0) (tCons (tC (.int 7)) tNil)))) [4]))) tNext))
    (tSeq (tFor (iSeq K (tC (.str "':^~"))) (gName 1) (tIfS (tTest (tOp (rGtA K) (tCall sp_law_take [] E0 (tCons (tVar 0) (tCons (tC (.int 3)) tNil))) (tC (.int 0)))) (sDPut (tVar 3) (tVar 1) (tOp (rAddA K) (tC (.int 1)) (tCall sp_law_take [] E0 (tCons (tVar 0) (tCons (tC (.int 3)) tNil))))) tNext))
    (tRet (tTup (tCons (tLk (tVar 2)) (tCons (tLk (tVar 3)) tNil)))))))
theorem d_law_rule (T : Txt K mg) {cdv : Value} {A : Around} {outer : List Env} {s : Shared} {H : Hp} {E : XK} (hr : Room 1 (A.deeper (envOfC "_law_rule" (defScope s_law_rule) s.heap.objs.size T.a_law_rule cdv))) {sp_law_take : Sp} (G_law_take : FnOk P w K mg base CX0 1 T.a_law_take T.fd_law_take P_law_take sp_law_take) :
    PSs (cxOf CX0 P w K mg base N_law_rule "_law_rule" (defScope s_law_rule) T.a_law_rule cdv A outer s H E).nox (defBody s_law_rule) (t_law_rule K  sp_law_take) :=
    (pss_cons (ps_par (by rfl) sc_law_rule.nd (i := 2) (j := 3) rfl rfl (by decide) rfl rfl (pa_cons pe_dnewK (pa_cons pe_dnewK pa_nil)) (by rfl))
    (pss_cons (ps_for PassesOwn.never rfl (pi_seq pe_str) (pg_name (i := 1) sc_law_rule.nd rfl (Or.inl rfl)) (pss_one (ps_if (pt_cmpR (o_eq (hu4 hr)) (pe_call G_law_take (hr.mono (by decide)) rfl T.g_law_take T.k_law_take T.b_law_take .nil pass0 (pa_cons (pv 0) (pa_cons pe_int pa_nil))) pe_int (nomark _)) (pss_one (ps_dput (hu_of hr) (pv 2) (pv 1) (pe_join pe_str (pe_lc (own := [("_law_k", 4)]) rfl sc_law_rule.nd (pi_range1 rfl T.n_range (pa_cons (pe_ix (ix_any (hu_of hr)) (pe_lst (pa_cons pe_int (pa_cons pe_int (pa_cons pe_int (pa_cons pe_int (pa_cons pe_int pa_nil)))))) (pe_call G_law_take (hr.mono (by decide)) rfl T.g_law_take T.k_law_take T.b_law_take .nil pass0 (pa_cons (pv 0) (pa_cons pe_int pa_nil))) (fun _ _ => rfl)) pa_nil)) (blkOk_by (own := [("_law_k", 4)]) (N := N_law_rule) (sc := defScope s_law_rule) (by decide +kernel)) (fun _ _ _ _ _ => (pg_name (i := 4) sc_law_rule.nd rfl (Or.inl rfl))) (fun _ _ _ _ _ => pts_nil) (fun _ _ _ _ _ => (pe_ix (ix_any (hu_of hr)) pe_str (pe_call G_law_take (hr.mono (by decide)) rfl T.g_law_take T.k_law_take T.b_law_take .nil pass0 (pa_cons (pv 0) (pa_cons pe_int pa_nil))) (fun _ _ => rfl))))) rfl)) pss_nil)))
    (pss_cons (ps_for PassesOwn.never rfl (pi_seq pe_str) (pg_name (i := 1) sc_law_rule.nd rfl (Or.inl rfl)) (pss_one (ps_if (pt_cmpR (x_gt hr.units0) (pe_call G_law_take (hr.mono (by decide)) rfl T.g_law_take T.k_law_take T.b_law_take .nil pass0 (pa_cons (pv 0) (pa_cons pe_int pa_nil))) pe_int (nomark _)) (pss_one (ps_dput (hu_of hr) (pv 3) (pv 1) (pe_op o_add pe_int (pe_call G_law_take (hr.mono (by decide)) rfl T.g_law_take T.k_law_take T.b_law_take .nil pass0 (pa_cons (pv 0) (pa_cons pe_int pa_nil)))) rfl)) pss_nil)))
    (pss_one (ps_ret (pe_tup (pa_cons (pe_lk (pv 2)) (pa_cons (pe_lk (pv 3)) pa_nil))))))))
def t_law_key (K : PySem.W.Frag)   : TS :=
    (tSeq (tAsg (tVar 0) (gTup K 2 (gCons (gName 2) (gCons (gName 3) gNil))))
    (tSeq (tPar 4 5 (tCons (tCB (rListA K) (tCons (tM1 (rJoin K) (tC (.str "")) (tLc (iSeq K (tVar 1)) (gName 9) tYes (tDGet2 (tVar 2) (tVar 9) (tVar 9)) [9])) tNil)) (tCons (tC (.bl false)) tNil)))
    (tSeq (tWhile (tNot (tB (tVar 5))) (tSeq (tAsg (tC (.bl true)) (gName 5))
    (tFor (iRng1 (tCons (tOp (rI0 fun i j => V.int (i - j)) (tCB (rLenA K) (tCons (tVar 4) tNil)) (tC (.int 1))) tNil)) (gName 6) (tSeq (tPar 7 8 (tCons (tOp (rIxA K) (tVar 4) (tVar 6)) (tCons (tOp (rIxA K) (tVar 4) (tOp (rAddA K) (tVar 6) (tC (.int 1)))) tNil)))
    (tIfS (tAnd (tTest (tOp (rInA K) (tVar 7) (tVar 3))) (tAnd (tTest (tOp (rInA K) (tVar 8) (tVar 3))) (tTest (tOp (rGtA K) (tOp (rIxA K) (tVar 3) (tVar 7)) (tOp (rIxA K) (tVar 3) (tVar 8)))))) (tSeq (tAsg (tTup (tCons (tVar 8) (tCons (tVar 7) tNil))) (gTup K 2 (gCons (gSub (tVar 4) (tVar 6) rSetL) (gCons (gSub (tVar 4) (tOp (rAddA K) (tVar 6) (tC (.int 1))) rSetL) gNil))))
    (tAsg (tC (.bl false)) (gName 5))) tNext)))))
    (tRet (tM1 (rJoin K) (tC (.str "")) (tVar 4))))))
theorem d_law_key (T : Txt K mg) {cdv : Value} {A : Around} {outer : List Env} {s : Shared} {H : Hp} {E : XK} (hr : Room 0 (A.deeper (envOfC "_law_key" (defScope s_law_key) s.heap.objs.size T.a_law_key cdv)))  :
    PSs (cxOf CX0 P w K mg base N_law_key "_law_key" (defScope s_law_key) T.a_law_key cdv A outer s H E).nox (defBody s_law_key) (t_law_key K  ) :=
    (pss_cons (ps_asg (pv 0) (pg_tup rfl (pgs_cons (pg_name (i := 2) sc_law_key.nd rfl (Or.inr rfl)) (pgs_cons (pg_name (i := 3) sc_law_key.nd rfl (Or.inl rfl)) pgs_nil))))
    (pss_cons (ps_par (by rfl) sc_law_key.nd (i := 4) (j := 5) rfl rfl (by decide) rfl rfl (pa_cons (pe_callTy (c_list rfl) (by rfl) T.n_list (by decide +kernel) (pa_cons (pe_join pe_str (pe_lc (own := [("_law_sign", 9)]) rfl sc_law_key.nd (pi_seq (pv 1)) (blkOk_by (own := [("_law_sign", 9)]) (N := N_law_key) (sc := defScope s_law_key) (by decide +kernel)) (fun _ _ _ _ _ => (pg_name (i := 9) sc_law_key.nd rfl (Or.inl rfl))) (fun _ _ _ _ _ => pts_nil) (fun _ _ _ _ _ => (pe_dget2 (hu_of hr) (pv 2) (pv 9) (pv 9) ⟨rfl, rfl, rfl, rfl⟩)))) pa_nil)) (pa_cons pe_bl pa_nil)) (by rfl))
    (pss_cons (ps_while PassesOwn.never (pt_not (pt_val (pv 5))) (pss_cons (ps_set (i := 5) sc_law_key.nd rfl (Or.inl rfl) pe_bl)
    (pss_one (ps_for PassesOwn.never rfl (pi_range1 rfl T.n_range (pa_cons (pe_op op_sub (pe_callB c_len (by rfl) T.n_len (by decide +kernel) (pa_cons (pv 4) pa_nil)) pe_int) pa_nil)) (pg_name (i := 6) sc_law_key.nd rfl (Or.inl rfl)) (pss_cons (ps_par (by rfl) sc_law_key.nd (i := 7) (j := 8) rfl rfl (by decide) rfl rfl (pa_cons (pe_ix (ix_any (hu_of hr)) (pv 4) (pv 6) (fun _ _ => rfl)) (pa_cons (pe_ix (ix_any (hu_of hr)) (pv 4) (pe_op o_add (pv 6) pe_int) (fun _ _ => rfl)) pa_nil)) (by rfl))
    (pss_one (ps_if (PW.pt (pw_and (pt_cmpR (o_in (hu_of hr)) (pv 7) (pv 3) (by rfl)) (pw_and (pt_cmpR (o_in (hu_of hr)) (pv 8) (pv 3) (by rfl)) (pw_and1 (pt_cmpR (x_gt hr.units0) (pe_ix (ix_any (hu_of hr)) (pv 3) (pv 7) (fun _ _ => rfl)) (pe_ix (ix_any (hu_of hr)) (pv 3) (pv 8) (fun _ _ => rfl)) (nomark _)))))) (pss_cons (ps_asg (pe_tup (pa_cons (pv 8) (pa_cons (pv 7) pa_nil))) (pg_tup rfl (pgs_cons (pg_sub (pv 4) (pv 6) set_list) (pgs_cons (pg_sub (pv 4) (pe_op o_add (pv 6) pe_int) set_list) pgs_nil))))
    (pss_one (ps_set (i := 5) sc_law_key.nd rfl (Or.inl rfl) pe_bl))) pss_nil)))))))
    (pss_one (ps_ret (pe_join pe_str (pv 4)))))))
def t_law_due (K : PySem.W.Frag)  (sp_law_key : Sp) : TS :=
    (tSeq (tAsg (tVar 0) (gTup K 2 (gCons (gName 4) (gCons (gName 5) gNil))))
    (tSeq (tAsg (tLc (iSeq K (tCB (rSortedA K) (tCons (tVar 4) tNil))) (gName 7) (tTest (tOp (rNeA K) (tCall sp_law_key [] E0 (tCons (tVar 1) (tCons (tVar 7) tNil))) (tCall sp_law_key [] E0 (tCons (tVar 1) (tCons (tOp (rIxA K) (tVar 4) (tVar 7)) tNil))))) (tTup (tCons (tVar 7) (tCons (tOp (rIxA K) (tVar 4) (tVar 7)) tNil))) [7]) (gName 2))
    (tSeq (tFor (iSeq K (tCB (rSortedA K) (tCons (tVar 5) tNil))) (gName 3) (tFor (iSeq K (tCB (rSortedA K) (tCons (tVar 5) tNil))) (gName 6) (tIfS (tAnd (tTest (tOp (rLtA K) (tVar 3) (tVar 6))) (tAnd (tTest (tOp (rNeA K) (tOp (rIxA K) (tVar 5) (tVar 3)) (tOp (rIxA K) (tVar 5) (tVar 6)))) (tTest (tOp (rNeA K) (tCall sp_law_key [] E0 (tCons (tVar 1) (tCons (tOp (rAddA K) (tVar 3) (tVar 6)) tNil))) (tCall sp_law_key [] E0 (tCons (tVar 1) (tCons (tOp (rAddA K) (tVar 6) (tVar 3)) tNil))))))) (tDrop (tBM K "list" rAppend (tVar 2) (tCons (tTup (tCons (tOp (rAddA K) (tVar 3) (tVar 6)) (tCons (tOp (rAddA K) (tVar 6) (tVar 3)) tNil))) tNil))) tNext)))
    (tRet (tVar 2)))))
theorem d_law_due (T : Txt K mg) {cdv : Value} {A : Around} {outer : List Env} {s : Shared} {H : Hp} {E : XK} (hr : Room 1 (A.deeper (envOfC "_law_due" (defScope s_law_due) s.heap.objs.size T.a_law_due cdv))) {sp_law_key : Sp} (G_law_key : FnOk P w K mg base CX0 1 T.a_law_key T.fd_law_key P_law_key sp_law_key) :
    PSs (cxOf CX0 P w K mg base N_law_due "_law_due" (defScope s_law_due) T.a_law_due cdv A outer s H E).nox (defBody s_law_due) (t_law_due K  sp_law_key) :=
    (pss_cons (ps_asg (pv 0) (pg_tup rfl (pgs_cons (pg_name (i := 4) sc_law_due.nd rfl (Or.inr rfl)) (pgs_cons (pg_name (i := 5) sc_law_due.nd rfl (Or.inl rfl)) pgs_nil))))
    (pss_cons (ps_setLc (i := 2) (own := [("_law_sign", 7)]) rfl sc_law_due.nd rfl rfl (sw_true rfl rfl rfl (by decide +kernel)) (pi_seq (pe_callB (c_sorted rfl) (by rfl) T.n_sorted (by decide +kernel) (pa_cons (pv 4) pa_nil))) (blkOk_by (own := [("_law_sign", 7)]) (N := N_law_due) (sc := defScope s_law_due) (by decide +kernel)) (fun _ _ _ _ _ => (pg_name (i := 7) sc_law_due.nd rfl (Or.inl rfl))) (fun _ _ _ _ _ => pts_one (pt_cmpR (o_ne (hu4 hr)) (pe_call G_law_key (hr.mono (by decide)) rfl T.g_law_key T.k_law_key T.b_law_key .nil pass0 (pa_cons (pv 1) (pa_cons (pv 7) pa_nil))) (pe_call G_law_key (hr.mono (by decide)) rfl T.g_law_key T.k_law_key T.b_law_key .nil pass0 (pa_cons (pv 1) (pa_cons (pe_ix (ix_any (hu_of hr)) (pv 4) (pv 7) (fun _ _ => rfl)) pa_nil))) (nomark _))) (fun _ _ _ _ _ => (pe_tup (pa_cons (pv 7) (pa_cons (pe_ix (ix_any (hu_of hr)) (pv 4) (pv 7) (fun _ _ => rfl)) pa_nil)))))
    (pss_cons (ps_for PassesOwn.never rfl (pi_seq (pe_callB (c_sorted rfl) (by rfl) T.n_sorted (by decide +kernel) (pa_cons (pv 5) pa_nil))) (pg_name (i := 3) sc_law_due.nd rfl (Or.inl rfl)) (pss_one (ps_for PassesOwn.never rfl (pi_seq (pe_callB (c_sorted rfl) (by rfl) T.n_sorted (by decide +kernel) (pa_cons (pv 5) pa_nil))) (pg_name (i := 6) sc_law_due.nd rfl (Or.inl rfl)) (pss_one (ps_if (PW.pt (pw_and (pt_cmpR (x_lt hr.units0) (pv 3) (pv 6) (nomark _)) (pw_and (pt_cmpR (o_ne (hu4 hr)) (pe_ix (ix_any (hu_of hr)) (pv 5) (pv 3) (fun _ _ => rfl)) (pe_ix (ix_any (hu_of hr)) (pv 5) (pv 6) (fun _ _ => rfl)) (nomark _)) (pw_and1 (pt_cmpR (o_ne (hu4 hr)) (pe_call G_law_key (hr.mono (by decide)) rfl T.g_law_key T.k_law_key T.b_law_key .nil pass0 (pa_cons (pv 1) (pa_cons (pe_op o_add (pv 3) (pv 6)) pa_nil))) (pe_call G_law_key (hr.mono (by decide)) rfl T.g_law_key T.k_law_key T.b_law_key .nil pass0 (pa_cons (pv 1) (pa_cons (pe_op o_add (pv 6) (pv 3)) pa_nil))) (nomark _)))))) (pss_one (ps_expr (pe_bm PySem.F.plainAttrs_list PySem.F.slot_list_append PySem.F.type_list_append mt_append (pv 2) (pa_cons (pe_tup (pa_cons (pe_op o_add (pv 3) (pv 6)) (pa_cons (pe_op o_add (pv 6) (pv 3)) pa_nil))) pa_nil)))) pss_nil)))))
    (pss_one (ps_ret (pv 2))))))
def t_law (K : PySem.W.Frag) (ad_Table : Addr) (sp_failing : Sp) (sp_law_due : Sp) (sp_Table___init : Sp) (sp_law_rule : Sp) (sp_law_bag : Sp) : TS :=
    (tSeq (tFor (iRng1 (tCons (tCB rMax2 (tCons (tC (.int 2)) (tCons (tCB rMin2 (tCons (tC (.int 6)) (tCons (tCB (rLenA K) (tCons (tVar 0) tNil)) tNil))) tNil))) tNil)) (gName 1) (tSeq (tAsg (tCall sp_law_bag [] E0 (tCons (tVar 0) (tCons (tVar 1) tNil))) (gName 2))
    (tFor (iRng1 (tCons (tC (.int 2)) tNil)) (gName 3) (tSeq (tAsg (tLst (tCons (tCall sp_law_rule [] E0 (tCons (tVar 2) tNil)) (tCons (tCall sp_law_rule [] E0 (tCons (tVar 2) tNil)) (tCons (tTup (tCons (tLk tDNewK) (tCons (tLk tDNewK) tNil))) tNil)))) (gName 4))
    (tSeq (tDrop (tBM K "list" rAppend (tVar 4) (tCons (tTup (tCons (tOp (rIxA K) (tOp (rIxA K) (tVar 4) (tC (.int 0))) (tC (.int 0))) (tCons (tOp (rIxA K) (tOp (rIxA K) (tVar 4) (tC (.int 1))) (tC (.int 1))) tNil))) tNil)))
    (tSeq (tIfS (tTest (tOp (rEqA K) (tLc (iSeq K (tOp (rIxA K) (tOp (rIxA K) (tVar 4) (tC (.int 0))) (tC (.int 1)))) (gName 11) (tTest (tOp (rInA K) (tVar 11) (tOp (rIxA K) (tOp (rIxA K) (tVar 4) (tC (.int 1))) (tC (.int 0))))) (tVar 11) [11]) (tLst tNil))) (tDrop (tBM K "list" rAppend (tVar 4) (tCons (tTup (tCons (tOp (rIxA K) (tOp (rIxA K) (tVar 4) (tC (.int 1))) (tC (.int 0))) (tCons (tOp (rIxA K) (tOp (rIxA K) (tVar 4) (tC (.int 0))) (tC (.int 1))) tNil))) tNil))) tNext)
    (tSeq (tAsg (tLc (iSeq K (tVar 4)) (gName 8) tYes (tMake ad_Table sp_Table___init [] E0 (tCons (tOp (rIxA K) (tVar 8) (tC (.int 0))) (tCons (tOp (rIxA K) (tVar 8) (tC (.int 1))) tNil))) [8]) (gName 5))
    (tFor (iRng1 (tCons (tCB (rLenA K) (tCons (tVar 5) tNil)) tNil)) (gName 6) (tFor (iRng1 (tCons (tCB (rLenA K) (tCons (tVar 5) tNil)) tNil)) (gName 7) (tSeq (tAsg (tCall sp_law_due [] E0 (tCons (tOp (rIxA K) (tVar 4) (tVar 6)) (tCons (tOp (rIxA K) (tVar 4) (tVar 7)) tNil))) (gName 9))
    (tSeq (tAsg (tCall sp_failing [] E0 (tCons (tOp (rIxA K) (tVar 5) (tVar 6)) (tCons (tOp (rIxA K) (tVar 5) (tVar 7)) tNil))) (gName 10))
    (tSeq (tIfS (tOr (tNot (tB (tCB (rIsiA K) (tCons (tVar 10) (tCons (tC (.ty "list")) tNil))))) (tTest (tOp (rNeA K) (tCB (rReprA K) (tCons (tVar 10) tNil)) (tCB (rReprA K) (tCons (tVar 9) tNil))))) (tRet (tC (.bl false))) tNext)
    (tSeq (tDrop (tBM K "list" rAppend (tVar 10) (tCons (tC (.str "changed")) tNil)))
    (tIfS (tTest (tOp (rNeA K) (tCall sp_failing [] E0 (tCons (tOp (rIxA K) (tVar 5) (tVar 6)) (tCons (tOp (rIxA K) (tVar 5) (tVar 7)) tNil))) (tVar 9))) (tRet (tC (.bl false))) tNext))))))))))))))
    (tRet (tC (.bl true))))
theorem d_law (T : Txt K mg) {cdv : Value} {A : Around} {outer : List Env} {s : Shared} {H : Hp} {E : XK} (hr : Room 5 (A.deeper (envOfC "law" (defScope s_law) s.heap.objs.size T.a_law cdv))) (hg : A.guards = some []) {sp_failing : Sp} (G_failing : FnOk P w K mg base CX0 5 T.a_failing T.fd_failing P_failing sp_failing) {sp_law_due : Sp} (G_law_due : FnOk P w K mg base CX0 2 T.a_law_due T.fd_law_due P_law_due sp_law_due) {sp_Table___init : Sp} (G_Table___init : FnOk P w K mg base CX0 4 T.a_Table___init T.fd_Table___init P_Table___init sp_Table___init) {sp_law_rule : Sp} (G_law_rule : FnOk P w K mg base CX0 2 T.a_law_rule T.fd_law_rule P_law_rule sp_law_rule) {sp_law_bag : Sp} (G_law_bag : FnOk P w K mg base CX0 1 T.a_law_bag T.fd_law_bag P_law_bag sp_law_bag) :
    PSs (cxOf CX0 P w K mg base N_law "law" (defScope s_law) T.a_law cdv A outer s H E).nox (defBody s_law) (t_law K T.a_Table sp_failing sp_law_due sp_Table___init sp_law_rule sp_law_bag) :=
    (pss_cons (ps_for PassesOwn.never rfl (pi_range1 rfl T.n_range (pa_cons (pe_callB (call_max2 rfl) (by rfl) T.n_max (by decide +kernel) (pa_cons pe_int (pa_cons (pe_callB (call_min2 rfl) (by rfl) T.n_min (by decide +kernel) (pa_cons pe_int (pa_cons (pe_callB c_len (by rfl) T.n_len (by decide +kernel) (pa_cons (pv 0) pa_nil)) pa_nil))) pa_nil))) pa_nil)) (pg_name (i := 1) sc_law.nd rfl (Or.inl rfl)) (pss_cons (ps_set (i := 2) sc_law.nd rfl (Or.inl rfl) (pe_call G_law_bag (hr.mono (by decide)) rfl T.g_law_bag T.k_law_bag T.b_law_bag .nil pass0 (pa_cons (pv 0) (pa_cons (pv 1) pa_nil))))
    (pss_one (ps_for PassesOwn.never rfl (pi_range1 rfl T.n_range (pa_cons pe_int pa_nil)) (pg_name (i := 3) sc_law.nd rfl (Or.inl rfl)) (pss_cons (ps_set (i := 4) sc_law.nd rfl (Or.inr rfl) (pe_lst (pa_cons (pe_call G_law_rule (hr.mono (by decide)) rfl T.g_law_rule T.k_law_rule T.b_law_rule .nil pass0 (pa_cons (pv 2) pa_nil)) (pa_cons (pe_call G_law_rule (hr.mono (by decide)) rfl T.g_law_rule T.k_law_rule T.b_law_rule .nil pass0 (pa_cons (pv 2) pa_nil)) (pa_cons (pe_tup (pa_cons (pe_lk pe_dnewK) (pa_cons (pe_lk pe_dnewK) pa_nil))) pa_nil)))))
    (pss_cons (ps_expr (pe_bm PySem.F.plainAttrs_list PySem.F.slot_list_append PySem.F.type_list_append mt_append (pv 4) (pa_cons (pe_tup (pa_cons (pe_ix (ix_any (hu_of hr)) (pe_ix (ix_any (hu_of hr)) (pv 4) pe_int (fun _ _ => rfl)) pe_int (fun _ _ => rfl)) (pa_cons (pe_ix (ix_any (hu_of hr)) (pe_ix (ix_any (hu_of hr)) (pv 4) pe_int (fun _ _ => rfl)) pe_int (fun _ _ => rfl)) pa_nil))) pa_nil)))
    (pss_cons (ps_if (pt_cmpR (o_eq (hu4 hr)) (pe_lc (own := [("_law_sign", 11)]) rfl sc_law.nd (pi_seq (pe_ix (ix_any (hu_of hr)) (pe_ix (ix_any (hu_of hr)) (pv 4) pe_int (fun _ _ => rfl)) pe_int (fun _ _ => rfl))) (blkOk_by (own := [("_law_sign", 11)]) (N := N_law) (sc := defScope s_law) (by decide +kernel)) (fun _ _ _ _ _ => (pg_name (i := 11) sc_law.nd rfl (Or.inl rfl))) (fun _ _ _ _ _ => pts_one (pt_cmpR (o_in (hu_of hr)) (pv 11) (pe_ix (ix_any (hu_of hr)) (pe_ix (ix_any (hu_of hr)) (pv 4) pe_int (fun _ _ => rfl)) pe_int (fun _ _ => rfl)) (by rfl))) (fun _ _ _ _ _ => (pv 11))) (pe_lst pa_nil) (nomark _)) (pss_one (ps_expr (pe_bm PySem.F.plainAttrs_list PySem.F.slot_list_append PySem.F.type_list_append mt_append (pv 4) (pa_cons (pe_tup (pa_cons (pe_ix (ix_any (hu_of hr)) (pe_ix (ix_any (hu_of hr)) (pv 4) pe_int (fun _ _ => rfl)) pe_int (fun _ _ => rfl)) (pa_cons (pe_ix (ix_any (hu_of hr)) (pe_ix (ix_any (hu_of hr)) (pv 4) pe_int (fun _ _ => rfl)) pe_int (fun _ _ => rfl)) pa_nil))) pa_nil)))) pss_nil)
    (pss_cons (ps_setLc (i := 5) (own := [("_law_rule_here", 8)]) rfl sc_law.nd rfl rfl (sw_true rfl rfl rfl (by decide +kernel)) (pi_seq (pv 4)) (blkOk_by (own := [("_law_rule_here", 8)]) (N := N_law) (sc := defScope s_law) (by decide +kernel)) (fun _ _ _ _ _ => (pg_name (i := 8) sc_law.nd rfl (Or.inl rfl))) (fun _ _ _ _ _ => pts_nil) (fun _ _ _ _ _ => (pe_make T.mk_Table G_Table___init (hr.mono (by decide)) rfl T.g_Table T.b_Table___init .nil pass0 (pa_cons (pe_ix (ix_any (hu_of hr)) (pv 8) pe_int (fun _ _ => rfl)) (pa_cons (pe_ix (ix_any (hu_of hr)) (pv 8) pe_int (fun _ _ => rfl)) pa_nil)))))
    (pss_one (ps_for PassesOwn.never rfl (pi_range1 rfl T.n_range (pa_cons (pe_callB c_len (by rfl) T.n_len (by decide +kernel) (pa_cons (pv 5) pa_nil)) pa_nil)) (pg_name (i := 6) sc_law.nd rfl (Or.inl rfl)) (pss_one (ps_for PassesOwn.never rfl (pi_range1 rfl T.n_range (pa_cons (pe_callB c_len (by rfl) T.n_len (by decide +kernel) (pa_cons (pv 5) pa_nil)) pa_nil)) (pg_name (i := 7) sc_law.nd rfl (Or.inl rfl)) (pss_cons (ps_set (i := 9) sc_law.nd rfl (Or.inl rfl) (pe_call G_law_due (hr.mono (by decide)) rfl T.g_law_due T.k_law_due T.b_law_due .nil pass0 (pa_cons (pe_ix (ix_any (hu_of hr)) (pv 4) (pv 6) (fun _ _ => rfl)) (pa_cons (pe_ix (ix_any (hu_of hr)) (pv 4) (pv 7) (fun _ _ => rfl)) pa_nil))))
    (pss_cons (ps_set (i := 10) sc_law.nd rfl (Or.inl rfl) (pe_call G_failing (hr.mono (by decide)) rfl T.g_failing T.k_failing T.b_failing .nil pass0 (pa_cons (pe_ix (ix_any (hu_of hr)) (pv 5) (pv 6) (fun _ _ => rfl)) (pa_cons (pe_ix (ix_any (hu_of hr)) (pv 5) (pv 7) (fun _ _ => rfl)) pa_nil))))
    (pss_cons (ps_if (PW.pt (pw_or (pt_not (pt_val (pe_callB c_isi (by rfl) T.n_isinstance (by decide +kernel) (pa_cons (pv 10) (pa_cons (pe_bltn (by rfl) T.n_list (by decide +kernel) rfl) pa_nil))))) (pw_or1 (pt_cmpR (o_ne (hu4 hr)) (pe_callB (c_repr hg (hu4 hr)) (by rfl) T.n_repr (by decide +kernel) (pa_cons (pv 10) pa_nil)) (pe_callB (c_repr hg (hu4 hr)) (by rfl) T.n_repr (by decide +kernel) (pa_cons (pv 9) pa_nil)) (nomark _))))) (pss_one (ps_ret pe_bl)) pss_nil)
    (pss_cons (ps_expr (pe_bm PySem.F.plainAttrs_list PySem.F.slot_list_append PySem.F.type_list_append mt_append (pv 10) (pa_cons pe_str pa_nil)))
    (pss_one (ps_if (pt_cmpR (o_ne (hu4 hr)) (pe_call G_failing (hr.mono (by decide)) rfl T.g_failing T.k_failing T.b_failing .nil pass0 (pa_cons (pe_ix (ix_any (hu_of hr)) (pv 5) (pv 6) (fun _ _ => rfl)) (pa_cons (pe_ix (ix_any (hu_of hr)) (pv 5) (pv 7) (fun _ _ => rfl)) pa_nil))) (pv 9) (nomark _)) (pss_one (ps_ret pe_bl)) pss_nil))))))))))))))))))
    (pss_one (ps_ret pe_bl)))
end
end Nm

set_option Elab.async false
set_option linter.all false
set_option maxRecDepth 100000
set_option maxHeartbeats 400000
namespace Nm
open PySem PySem.Spec L2
local macro_rules | `(tactic| walk_at "ev") => `(tactic| first
  | (with_reducible apply ev_var; assumption; with_unfolding_all rfl)
  | (with_reducible apply ev_c; first | with_reducible exact Den.int _ | with_reducible exact Den.str _ | with_reducible exact Den.bl _ | with_reducible exact Den.non | with_reducible exact Den.ty _)
  | with_reducible exact ea_nil
  | (with_reducible apply ea_cons; walk_at "ev"; walk_at "ev")
  | (with_reducible apply ev_op; walk_at "ev"; walk_at "ev"; walk_at "rv")
  | (with_reducible apply ev_cb; walk_at "ev"; walk_at "rv")
  | (with_reducible apply ev_lst; walk_at "ev"; walk_at "sz")
  | (with_reducible apply ev_tup; walk_at "ev"; walk_at "sz")
  | (with_reducible apply ev_un; walk_at "ev"; walk_at "rv")
  | (with_reducible apply ev_chainU; walk_at "ev"; walk_at "ev"; walk_at "rv"; walk_at "ev"; walk_at "rv")
  | with_reducible exact ev_dnew
  | with_reducible exact ev_disp1 (fun _ => Den.str _)
  | (with_reducible apply et_test; walk_at "ev")
  | (with_reducible apply et_B; walk_at "ev")
  | (with_reducible apply et_not; walk_at "ev")
  | (with_reducible apply ev_not; walk_at "ev")
  | (with_reducible apply ev_sl_str; walk_at "ev"; walk_at "ev"; walk_at "ev"; walk_at "sz")
  | (with_reducible apply eo_some; walk_at "ev")
  | with_reducible exact eo_none)
local macro_rules | `(tactic| walk_at "rv") => `(tactic| first
  | with_reducible exact rv_add_int | (with_reducible apply rv_add_str; walk_at "sz") | (with_reducible apply rv_add_lst; walk_at "sz")
  | with_reducible exact rv_lt_int | with_reducible exact rv_le_int | with_reducible exact rv_gt_int | with_reducible exact rv_ge_int
  | with_reducible exact rvA_eq_int | with_reducible exact rvA_eq_str | with_reducible exact rvA_ne_int | with_reducible exact rvA_ne_str
  | (with_reducible apply rv_mul_int; walk_at "mul")
  | with_reducible exact rv_in_sign | (with_reducible apply rc_len_str; walk_at "sz") | with_reducible exact rc_len_lst | with_reducible exact rc_len_tup
  | with_reducible exact rc_abs | with_reducible exact rc_max2 | with_reducible exact rc_min2
  | with_reducible exact rc_all | with_reducible exact rc_any | with_reducible exact ru_neg
  | (with_reducible apply rc_isiA; with_unfolding_all rfl; decide +kernel)
  | (with_reducible apply rv_ix_lst; with_unfolding_all rfl) | (with_reducible apply rv_ix_tup; with_unfolding_all rfl)
  | (with_reducible apply rv_I; first | walk_at "sd" | (unfold CPow; decide) | (unfold CDiv; first | decide | omega)))
local macro_rules | `(tactic| walk_at "sz") => `(tactic| first | assumption | (rw [sizeLine_eq]; omega) | (rw [sizeLine_eq]; decide) | (simp [sizeLine_eq]; done))
local macro_rules | `(tactic| walk_at "sd") => `(tactic| first | assumption | omega | decide)
local macro_rules | `(tactic| walk_at "mul") => `(tactic| first | exact Or.inl ⟨by omega, by omega⟩ | exact Or.inr ⟨by omega, by omega⟩)
/-! ### signs, words, names -/
def allS : Str := (("abcdefghijklmnopqrstuvwxyz" : Str) ++ ("ABCDEFGHIJKLMNOPQRSTUVWXYZ" : Str)) ++ ("0123456789'-.:^_~" : Str)
def isSignC (c : Nat) : Bool := decide (c ∈ allS.cps.toList)
def isSignL (l : List Nat) : Bool := match l with | [c] => isSignC c | _ => false
def isSign : D → Bool
  | .str s => isSignL s.cps.toList
  | _ => false
/-- plain data, its texts not too long -/
def okA : D → Bool
  | .str s => decide (s.length ≤ 1000000)
  | d => (tyD d).isSome
def f_is_sign : List D → Option D
  | [d] => if okA d then some (.bl (isSign d)) else none
  | _ => none
def hasSigns (d : D) (m : Int) : Bool := match d with
  | .str s => decide (1 ≤ (s.length : Int)) && decide ((s.length : Int) ≤ m) && s.cps.toList.all isSignC
  | _ => false
def f_has_signs : List D → Option D
  | [d, .int m] => if okA d then some (.bl (hasSigns d m)) else none
  | _ => none
def f_is_word : List D → Option D
  | [d] => if okA d then some (.bl (hasSigns d 40)) else none
  | _ => none
def f_is_name : List D → Option D
  | [d] => if okA d then some (.bl (hasSigns d 12)) else none
  | _ => none
section
variable {K : PySem.W.Frag} {vs : List V} {H : Hp} {Q : VK} {E : XK}
def isStrD : D → Bool | .str _ => true | _ => false
/-- isinstance(thing, str), whatever the thing -/
theorem ev_isStr {te : TE} {σ : L2.St} {F : Hp} {d : D} (h : EvD K te σ F d) (ok : okA d = true) : EvD K (tCB (rIsiA K) (tCons te (tCons (tC (.ty "str")) tNil))) σ F (.bl (isStrD d)) := by
  have go : ∀ {t : String} {b : Bool}, tyD d = some t → kitB t "str" = some b → EvD K (tCB (rIsiA K) (tCons te (tCons (tC (.ty "str")) tNil))) σ F (.bl b) := fun h1 h2 => ev_cb (ea_cons h (by walk_at "ev")) (rc_isiA h1 h2)
  cases d with
  | non => exact go (b := false) rfl (by decide +kernel)
  | bl b => exact go (b := false) rfl (by decide +kernel)
  | int b => exact go (b := false) rfl (by decide +kernel)
  | lst b => exact go (b := false) rfl (by decide +kernel)
  | tup b => exact go (b := false) rfl (by decide +kernel)
  | dic b => exact go (b := false) rfl (by decide +kernel)
  | str b => exact go (b := true) rfl (by decide +kernel)
  | obj C b => cases ok
  | ty C => cases ok
  | cls C => cases ok
theorem lenL (z : Str) : z.length = z.cps.toList.length := by simp [Str.length]
theorem rd_is_sign (h : spP K 1 f_is_sign vs H Q E) : t_is_sign K { nx := fun _ H' => Q .non H', rt := Q } (start N_is_sign vs) H := by
  obtain ⟨F, v, x, d, rfl, S, hv, hf, k⟩ := spP1 h
  have E1 : EnvD K F [.d x] (start N_is_sign [v]) := .cons ⟨v, rfl, hv⟩ .nil
  obtain ⟨ok, rfl⟩ := if_some hf
  refine s_ret S ?_ k
  have h0 := ev_isStr (ev_var (i := 0) E1 rfl) ok
  cases x with
  | str z =>
    have hz : z.length ≤ 1000000 := by simpa [okA] using ok
    refine ev_is (ev_andT h0 (ev_and (b := isSign (.str z)) (by walk_at "ev") fun h1 => ?_)) ?_
    · have h1 : z.length = 1 := by have := of_decide_eq_true h1; omega
      obtain ⟨c, hc⟩ : ∃ c, z.cps.toList = [c] := List.length_eq_one_iff.mp (by rw [← lenL]; exact h1)
      have e : z = ⟨#[c]⟩ := str_ext hc
      subst e
      apply ev_is
      · walk_at "ev"
      · rfl
    · have e : ∀ l : List Nat, ((l.length : Int) = 1) ∨ isSignL l = false := by
        intro l
        match l with
        | [] => exact .inr rfl
        | [c] => exact .inl rfl
        | _ :: _ :: _ => exact .inr rfl
      rcases e z.cps.toList with h | h
      · rw [lenL, decide_eq_true h]; rfl
      · have : isSign (.str z) = false := h
        rw [this]; simp
  | non => exact ev_andF h0
  | bl b => exact ev_andF h0
  | int b => exact ev_andF h0
  | lst b => exact ev_andF h0
  | tup b => exact ev_andF h0
  | dic b => exact ev_andF h0
  | obj C b => cases ok
  | ty C => cases ok
  | cls C => cases ok
theorem rd_has_signs (h : spP K 2 f_has_signs vs H Q E) : t_has_signs K (spP K 1 f_is_sign) { nx := fun _ H' => Q .non H', rt := Q } (start N_has_signs vs) H := by
  obtain ⟨F, v, w, x, y, d, rfl, S, hv, hw, hf, k⟩ := spP2 h
  have E1 : EnvD K F [.d x, .d y, .u] (start N_has_signs [v, w]) := .cons ⟨v, rfl, hv⟩ (.cons ⟨w, rfl, hw⟩ (.cons trivial .nil))
  cases y with
  | int m =>
    obtain ⟨ok, rfl⟩ := if_some hf
    refine s_ret S ?_ k
    have h0 := ev_isStr (ev_var (i := 0) E1 rfl) ok
    cases x with
    | str z =>
      have hz : z.length ≤ 1000000 := by simpa [okA] using ok
      refine ev_andT h0 (ev_and (ev_chain (q := decide ((z.length : Int) ≤ m)) (by walk_at "ev") (by walk_at "ev") (by walk_at "rv") (fun _ => by walk_at "ev") fun _ => by walk_at "rv") fun _ => ?_)
      refine ev_is (ev_cb (ea_cons (ev_is (ev_lc (f := fun d => .bl (isSign d)) E1 (ei_str (by walk_at "ev")) ?_ (wipe1 2) fun d F' σ' hd _ E' => ?_) ?_) ea_nil) (rc_all (bs := z.cps.toList.map isSignC))) ?_
      · unfold signs; rw [List.length_map, ← lenL, sizeLine_eq]; omega
      · obtain ⟨c, _, rfl⟩ := List.mem_map.mp hd
        exact ev_call (by walk_at "ev") rfl rfl
      · unfold signs; rw [List.map_map, List.map_map]; rfl
      · rw [List.all_map]; rfl
    | non => exact ev_andF h0
    | bl b => exact ev_andF h0
    | int b => exact ev_andF h0
    | lst b => exact ev_andF h0
    | tup b => exact ev_andF h0
    | dic b => exact ev_andF h0
    | obj C b => cases ok
    | ty C => cases ok
    | cls C => cases ok
  | _ => cases hf
end
end Nm

set_option Elab.async false
set_option linter.all false
set_option maxRecDepth 100000
set_option maxHeartbeats 400000
namespace Nm
open PySem PySem.Spec L2
local macro_rules | `(tactic| walk_at "ev") => `(tactic| first
  | (with_reducible apply ev_var; assumption; with_unfolding_all rfl)
  | (with_reducible apply ev_c; first | with_reducible exact Den.int _ | with_reducible exact Den.str _ | with_reducible exact Den.bl _ | with_reducible exact Den.non | with_reducible exact Den.ty _)
  | with_reducible exact ea_nil
  | (with_reducible apply ea_cons; walk_at "ev"; walk_at "ev")
  | (with_reducible apply ev_op; walk_at "ev"; walk_at "ev"; walk_at "rv")
  | (with_reducible apply ev_cb; walk_at "ev"; walk_at "rv")
  | (with_reducible apply ev_lst; walk_at "ev"; walk_at "sz")
  | (with_reducible apply ev_tup; walk_at "ev"; walk_at "sz")
  | (with_reducible apply ev_un; walk_at "ev"; walk_at "rv")
  | (with_reducible apply ev_chainU; walk_at "ev"; walk_at "ev"; walk_at "rv"; walk_at "ev"; walk_at "rv")
  | with_reducible exact ev_dnew
  | with_reducible exact ev_disp1 (fun _ => Den.str _)
  | (with_reducible apply et_test; walk_at "ev")
  | (with_reducible apply et_B; walk_at "ev")
  | (with_reducible apply et_not; walk_at "ev")
  | (with_reducible apply ev_not; walk_at "ev")
  | (with_reducible apply ev_sl_str; walk_at "ev"; walk_at "ev"; walk_at "ev"; walk_at "sz")
  | (with_reducible apply eo_some; walk_at "ev")
  | with_reducible exact eo_none)
local macro_rules | `(tactic| walk_at "rv") => `(tactic| first
  | with_reducible exact rv_add_int | (with_reducible apply rv_add_str; walk_at "sz") | (with_reducible apply rv_add_lst; walk_at "sz")
  | with_reducible exact rv_lt_int | with_reducible exact rv_le_int | with_reducible exact rv_gt_int | with_reducible exact rv_ge_int
  | with_reducible exact rvA_eq_int | with_reducible exact rvA_eq_str | with_reducible exact rvA_ne_int | with_reducible exact rvA_ne_str
  | (with_reducible apply rv_mul_int; walk_at "mul")
  | with_reducible exact rv_in_sign | (with_reducible apply rc_len_str; walk_at "sz") | with_reducible exact rc_len_lst | with_reducible exact rc_len_tup
  | with_reducible exact rc_abs | with_reducible exact rc_max2 | with_reducible exact rc_min2
  | with_reducible exact rc_all | with_reducible exact rc_any | with_reducible exact ru_neg
  | (with_reducible apply rc_isiA; with_unfolding_all rfl; decide +kernel)
  | (with_reducible apply rv_ix_lst; with_unfolding_all rfl) | (with_reducible apply rv_ix_tup; with_unfolding_all rfl)
  | (with_reducible apply rv_I; first | walk_at "sd" | (unfold CPow; decide) | (unfold CDiv; first | decide | omega)))
local macro_rules | `(tactic| walk_at "sz") => `(tactic| first | assumption | (rw [sizeLine_eq]; omega) | (rw [sizeLine_eq]; decide) | (simp [sizeLine_eq]; done))
local macro_rules | `(tactic| walk_at "sd") => `(tactic| first | assumption | omega | decide)
local macro_rules | `(tactic| walk_at "mul") => `(tactic| first | exact Or.inl ⟨by omega, by omega⟩ | exact Or.inr ⟨by omega, by omega⟩)
/-! ### the bag -/
section
variable {K : PySem.W.Frag} {vs : List V} {H : Hp} {Q : VK} {E : XK}
theorem mix_small {y z : Int} {m : Nat} (hy : 0 ≤ y) (hy2 : y < 2305843009213693951) (hz : 0 ≤ z) (hz2 : z ≤ 1000000000) (c : Int) (hc : 0 ≤ c) (hc2 : c ≤ 1000000000) : (y + c * z).natAbs < 2 ^ 64 := by
  have h1 : 0 ≤ c * z := Int.mul_nonneg hc hz
  have h2 : c * z ≤ 1000000000 * 1000000000 := Int.mul_le_mul hc2 hz2 hz (by decide)
  omega
theorem rd_law_take (h : spTake K vs H Q E) : t_law_take K { nx := fun _ H' => Q .non H', rt := Q } (start N_law_take vs) H := by
  obtain ⟨F, b, n, ws, ds, rfl, S, ⟨x, y, z, o, hx, hy, hy2, hz, hz2⟩, l, e, pre, k⟩ := h
  match ds, l, e, pre, k with
  | [.int m], .cons (.int _) .nil, _, ⟨m0, m1⟩, k =>
  refine ⟨.ref b, rfl, .inl (.inl ⟨b, _, 0, _, rfl, rfl, SqL.of o.h, rfl, .inl ⟨x, 0, rfl, rfl, _, rfl, ?_⟩⟩)⟩
  refine ite2 (fun hp => ?_) (fun hp => ?_)
  · have hp := of_decide_eq_true hp
    refine ⟨.ref b, rfl, .inl (.inl ⟨b, _, 0, _, rfl, rfl, SqL.of o.h, rfl, .int m, rfl, x, m, rfl, rfl, m0, ?_⟩)⟩
    refine ⟨.ref b, rfl, .inl (.inl ⟨b, _, 0, _, rfl, rfl, SqL.of o.h, rfl, .int m, rfl, x, m, rfl, rfl, ⟨m0, m1⟩, ?_⟩)⟩
    refine ⟨.ref b, rfl, b, _, 0, 0, rfl, rfl, o.h, rfl, .int (x % m), rfl, ?_⟩
    refine k _ (.int (x % m)) F _ (o.set S) ⟨x / m, y, z, ⟨o.f, upd_same⟩, Int.ediv_nonneg hx (by omega), hy, hy2, hz, by omega⟩ ⟨Int.emod_nonneg _ (by omega), Int.emod_lt_of_pos _ m0⟩ (.int _)
  · -- bag[2] = bag[2] + 1
    refine ⟨.ref b, rfl, .inl (.inl ⟨b, _, 2, _, rfl, rfl, SqL.of o.h, rfl, .inl ⟨z, 1, rfl, rfl, ?_⟩⟩)⟩
    refine ⟨.ref b, rfl, b, _, 2, 2, rfl, rfl, o.h, rfl, ?_⟩
    have o2 : Own F (upd H b (.lst [.int x, .int y, .int (z + 1)])) b (.lst [.int x, .int y, .int (z + 1)]) := ⟨o.f, upd_same⟩
    -- the first mixing
    refine ⟨.ref b, rfl, .inl (.inl ⟨b, _, 1, _, rfl, rfl, SqL.of o2.h, rfl, .ref b, rfl, .inl (.inl ⟨b, _, 2, _, rfl, rfl, SqL.of o2.h, rfl, .inl ⟨_, z + 1, rfl, rfl, .inl ⟨by decide, by decide⟩, .inl ⟨_, _, rfl, rfl, _, _, rfl, rfl, ⟨by decide, by decide, mix_small (m := 0) hy hy2 (by omega) (by omega) _ (by decide) (by decide)⟩, _, _, rfl, rfl, (show (0 : Int) < 2305843009213693921 by decide), ?_⟩⟩⟩)⟩)⟩
    have m3 := Int.emod_nonneg ((y + 5000011 * (z + 1)) ^ (3 : Int).toNat) (show (2305843009213693921 : Int) ≠ 0 by decide)
    have m4 := Int.emod_lt_of_pos ((y + 5000011 * (z + 1)) ^ (3 : Int).toNat) (show (0 : Int) < 2305843009213693921 by decide)
    -- the second one
    refine ⟨_, rfl, .ref b, rfl, .inl (.inl ⟨b, _, 2, _, rfl, rfl, SqL.of o2.h, rfl, .inl ⟨_, z + 1, rfl, rfl, .inl ⟨by decide, by decide⟩, .inl ⟨_, _, rfl, rfl, _, _, rfl, rfl, ⟨by decide, by decide, mix_small (m := 0) m3 (by omega) (by omega) (by omega) _ (by decide) (by decide)⟩, _, _, rfl, rfl, (show (0 : Int) < 2305843009213693951 by decide), ?_⟩⟩⟩)⟩
    refine ⟨_, rfl, _, _, rfl, rfl, ⟨by decide, by decide⟩, .int m, rfl, _, m, rfl, rfl, m0, ?_⟩
    refine k _ (.int _) F _ (o.set S) ⟨x, y, z + 1, o2, hx, hy, hy2, by omega, by omega⟩ ⟨Int.emod_nonneg _ (by omega), Int.emod_lt_of_pos _ m0⟩ (.int _)
end
section
variable {K : PySem.W.Frag} {vs : List V} {H : Hp} {Q : VK} {E : XK}
theorem rd_law_bag (h : spBag K vs H Q E) : t_law_bag K { nx := fun _ H' => Q .non H', rt := Q } (start N_law_bag vs) H := by
  obtain ⟨F, a, ns, i, rfl, S, hs, h0, h1, k⟩ := h
  have hs' := same_l S hs
  -- whatever the cell is
  have rest : ∀ c : Int, tSeq (tAsg (tIf (tTest (tOp (rGeA K) (tCB rAbs (tCons (tVar 2) tNil)) (tOp (rI CPow fun i j => V.int (i ^ j.toNat)) (tC (.int 10)) (tC (.int 18))))) (tCB rAbs (tCons (tVar 2) tNil)) (tC (.int 0))) (gName 3))
      (tRet (tLst (tCons (tVar 3) (tCons (tOp (rI (fun _ j => 0 < j) fun i j => V.int (i % j)) (tOp (rMulA K) (tOp (rAddA K) (tOp (rAddA K) (tOp (rI (fun _ j => 0 < j) fun i j => V.int (i % j)) (tVar 2) (tC (.int 2305843009213693951))) (tOp (rMulA K) (tC (.int 6211)) (tVar 1))) (tC (.int 17))) (tC (.int 92821993))) (tC (.int 2305843009213693951))) (tCons (tC (.int 0)) tNil))))) { nx := fun _ H' => Q .non H', rt := Q } [some (.ref a), some (.int i), some (.int c), none] H := by
    intro c
    have fin : ∀ x : Int, 0 ≤ x → tRet (tLst (tCons (tVar 3) (tCons (tOp (rI (fun _ j => 0 < j) fun i j => V.int (i % j)) (tOp (rMulA K) (tOp (rAddA K) (tOp (rAddA K) (tOp (rI (fun _ j => 0 < j) fun i j => V.int (i % j)) (tVar 2) (tC (.int 2305843009213693951))) (tOp (rMulA K) (tC (.int 6211)) (tVar 1))) (tC (.int 17))) (tC (.int 92821993))) (tC (.int 2305843009213693951))) (tCons (tC (.int 0)) tNil)))) { nx := fun _ H' => Q .non H', rt := Q } [some (.ref a), some (.int i), some (.int c), some (.int x)] H := by
      intro x hx
      have c0 := Int.emod_nonneg c (show (2305843009213693951 : Int) ≠ 0 by decide)
      have c1 := Int.emod_lt_of_pos c (show (0 : Int) < 2305843009213693951 by decide)
      refine ⟨_, rfl, _, rfl, _, _, rfl, rfl, (show (0 : Int) < 2305843009213693951 by decide), _, rfl, .inl ⟨_, i, rfl, rfl, .inl ⟨by decide, by decide⟩, .inl ⟨_, _, rfl, rfl, .inl ⟨_, _, rfl, rfl, .inl ⟨_, _, rfl, rfl, .inl ⟨by omega, by omega⟩, _, _, rfl, rfl, (show (0 : Int) < 2305843009213693951 by decide), ?_⟩⟩⟩⟩⟩
      refine ⟨by show 3 ≤ sizeLine; decide, fun p hp => k p _ hp (Ext.newM S hp) ⟨_, _, 0, ⟨S.free hp, upd_same⟩, hx, Int.emod_nonneg _ (by decide), Int.emod_lt_of_pos _ (by decide), Int.le_refl _, by decide⟩⟩
    refine ⟨_, rfl, c, rfl, _, _, rfl, rfl, ⟨by decide, by decide, by decide⟩, .inl ⟨_, _, rfl, rfl, _, rfl, ?_⟩⟩
    refine ite2 (fun _ => ?_) (fun _ => ?_)
    · refine ⟨_, rfl, c, rfl, fin _ ?_⟩
      split <;> omega
    · exact fin 0 (Int.le_refl _)
  refine ⟨.int i, rfl, .ref a, rfl, .inl ⟨a, _, rfl, .inl hs', .inl ⟨i, _, rfl, rfl, _, rfl, ?_⟩⟩⟩
  refine ite2 (fun hp => ?_) (fun hp => ?_)
  · have hp := of_decide_eq_true hp
    rw [List.length_map] at hp
    obtain ⟨j, rfl⟩ : ∃ j : Nat, i = (j : Int) := ⟨i.toNat, by omega⟩
    have hj : j < ns.length := by omega
    refine ⟨.ref a, rfl, .int j, rfl, .inl (.inl ⟨a, _, _, .int ns[j], rfl, rfl, hs', ?_, rest ns[j]⟩)⟩
    exact atI_nat (by rw [List.getElem?_map, List.getElem?_eq_getElem hj]; rfl)
  · exact rest 0
end
end Nm

set_option Elab.async false
set_option linter.all false
set_option maxRecDepth 100000
set_option maxHeartbeats 400000
namespace Nm
open PySem PySem.Spec L2
local macro_rules | `(tactic| walk_at "ev") => `(tactic| first
  | (with_reducible apply ev_var; assumption; with_unfolding_all rfl)
  | (with_reducible apply ev_c; first | with_reducible exact Den.int _ | with_reducible exact Den.str _ | with_reducible exact Den.bl _ | with_reducible exact Den.non | with_reducible exact Den.ty _)
  | with_reducible exact ea_nil
  | (with_reducible apply ea_cons; walk_at "ev"; walk_at "ev")
  | (with_reducible apply ev_op; walk_at "ev"; walk_at "ev"; walk_at "rv")
  | (with_reducible apply ev_cb; walk_at "ev"; walk_at "rv")
  | (with_reducible apply ev_lst; walk_at "ev"; walk_at "sz")
  | (with_reducible apply ev_tup; walk_at "ev"; walk_at "sz")
  | (with_reducible apply ev_un; walk_at "ev"; walk_at "rv")
  | (with_reducible apply ev_chainU; walk_at "ev"; walk_at "ev"; walk_at "rv"; walk_at "ev"; walk_at "rv")
  | with_reducible exact ev_dnew
  | with_reducible exact ev_disp1 (fun _ => Den.str _)
  | (with_reducible apply et_test; walk_at "ev")
  | (with_reducible apply et_B; walk_at "ev")
  | (with_reducible apply et_not; walk_at "ev")
  | (with_reducible apply ev_not; walk_at "ev")
  | (with_reducible apply ev_sl_str; walk_at "ev"; walk_at "ev"; walk_at "ev"; walk_at "sz")
  | (with_reducible apply eo_some; walk_at "ev")
  | with_reducible exact eo_none)
local macro_rules | `(tactic| walk_at "rv") => `(tactic| first
  | with_reducible exact rv_add_int | (with_reducible apply rv_add_str; walk_at "sz") | (with_reducible apply rv_add_lst; walk_at "sz")
  | with_reducible exact rv_lt_int | with_reducible exact rv_le_int | with_reducible exact rv_gt_int | with_reducible exact rv_ge_int
  | with_reducible exact rvA_eq_int | with_reducible exact rvA_eq_str | with_reducible exact rvA_ne_int | with_reducible exact rvA_ne_str
  | (with_reducible apply rv_mul_int; walk_at "mul")
  | with_reducible exact rv_in_sign | (with_reducible apply rc_len_str; walk_at "sz") | with_reducible exact rc_len_lst | with_reducible exact rc_len_tup
  | with_reducible exact rc_abs | with_reducible exact rc_max2 | with_reducible exact rc_min2
  | with_reducible exact rc_all | with_reducible exact rc_any | with_reducible exact ru_neg
  | (with_reducible apply rc_isiA; with_unfolding_all rfl; decide +kernel)
  | (with_reducible apply rv_ix_lst; with_unfolding_all rfl) | (with_reducible apply rv_ix_tup; with_unfolding_all rfl)
  | (with_reducible apply rv_I; first | walk_at "sd" | (unfold CPow; decide) | (unfold CDiv; first | decide | omega)))
local macro_rules | `(tactic| walk_at "sz") => `(tactic| first | assumption | (rw [sizeLine_eq]; omega) | (rw [sizeLine_eq]; decide) | (simp [sizeLine_eq]; done))
local macro_rules | `(tactic| walk_at "sd") => `(tactic| first | assumption | omega | decide)
local macro_rules | `(tactic| walk_at "mul") => `(tactic| first | exact Or.inl ⟨by omega, by omega⟩ | exact Or.inr ⟨by omega, by omega⟩)
/-! ### tables: readings -/
def isCls : D → Bool
  | .int i => [1, 2, 3].any (· == i)
  | _ => false
def R_is_class (ds : List D) (d : D) : Prop := ∃ x, ds = [x] ∧ (tyD x).isSome = true ∧ d = .bl (isCls x)
def R_look_folds (ds : List D) (d : D) : Prop := ∃ fo ma, okTab isSignC fo ma ∧ ds = [foD fo] ∧ d = .non
def R_look_marks (ds : List D) (d : D) : Prop := ∃ fo ma, okTab isSignC fo ma ∧ ds = [maD ma, foD fo] ∧ d = .non
def R_in_order (ds : List D) (d : D) : Prop := ∃ ma run, (∀ c ∈ run, (lk ma c).isSome = true) ∧ run.length ≤ 10000 ∧ ds = [.lst (chs run), maD ma] ∧ d = .lst (chs (inOrd ma run))
def R_ordered_runs (ds : List D) (d : D) : Prop := ∃ ma l, okMa ma ∧ l.length ≤ 10000 ∧ ds = [txt l, maD ma] ∧ d = txt (runs ma [] l)
def R_key_of (ds : List D) (d : D) : Prop := ∃ fo ma l, okTab isSignC fo ma ∧ (∀ c ∈ l, isSignC c = true) ∧ l.length ≤ 3000 ∧ ds = [ruleD fo ma, txt l] ∧ d = txt (key fo ma l)
def R_init (ds : List D) (gs : List (Str × D)) : Prop := ∃ fo ma, okTab isSignC fo ma ∧ ds = [foD fo, maD ma] ∧ gs = ([("rule", ruleD fo ma)] : List (Str × D))
section
variable {K : PySem.W.Frag} {vs : List V} {H : Hp} {Q : VK} {E : XK}
theorem rd_is_class {ad : Addr} (hs : ∀ H, SqT K H ad [.int 1, .int 2, .int 3]) (h : spR K 1 R_is_class vs H Q E) : t_is_class K ad { nx := fun _ H' => Q .non H', rt := Q } (start N_is_class vs) H := by
  obtain ⟨F, v, x, d, rfl, S, hv, ⟨_, e, ok, rfl⟩, k⟩ := spR1 h
  cases e
  have E1 : EnvD K F [.d x] (start N_is_class [v]) := .cons ⟨v, rfl, hv⟩ .nil
  refine s_ret S ?_ k
  have go : ∀ {t : String} {b : Bool} {n : String}, tyD x = some t → kitB t n = some b → EvD K (tCB (rIsiA K) (tCons (tVar 0) (tCons (tC (.ty n)) tNil))) (start N_is_class [v]) F (.bl b) := fun h1 h2 => ev_cb (ea_cons (ev_var (i := 0) E1 rfl) (by walk_at "ev")) (rc_isiA h1 h2)
  cases x with
  | int i =>
    refine ev_andT (go (b := true) rfl (by decide +kernel)) (ev_andT (ev_not (go (b := false) rfl (by decide +kernel))) ?_)
    exact ev_op (ev_var E1 rfl) (ev_tupC hs (DenL.ints [1, 2, 3])) (rv_in_ints (ns := [1, 2, 3]))
  | bl b => exact ev_andT (go (b := true) rfl (by decide +kernel)) (ev_andF (ev_not (go (b := true) rfl (by decide +kernel))))
  | non => exact ev_andF (go (b := false) rfl (by decide +kernel))
  | str b => exact ev_andF (go (b := false) rfl (by decide +kernel))
  | lst b => exact ev_andF (go (b := false) rfl (by decide +kernel))
  | tup b => exact ev_andF (go (b := false) rfl (by decide +kernel))
  | dic b => exact ev_andF (go (b := false) rfl (by decide +kernel))
  | obj C b => cases ok
  | ty C => cases ok
  | cls C => cases ok
theorem f_sign1 {c : Nat} (h : isSignC c = true) : f_is_sign [.str ⟨#[c]⟩] = some (.bl true) := by
  have e : f_is_sign [.str ⟨#[c]⟩] = some (.bl (isSignC c)) := rfl
  rw [e, h]
theorem hasSigns_txt {w : List Nat} {m : Nat} (h1 : 1 ≤ w.length) (h2 : w.length ≤ m) (h : ∀ c ∈ w, isSignC c = true) : hasSigns (txt w) m = true := by
  unfold hasSigns txt
  dsimp only
  rw [txt_len, decide_eq_true (by omega), decide_eq_true (by omega)]
  simp only [Bool.and_self, Bool.true_and, List.all_eq_true]
  exact h
theorem okA_txt {w : List Nat} (h : w.length ≤ 1000000) : okA (txt w) = true := by
  unfold okA txt
  dsimp only
  rw [txt_len]; exact decide_eq_true h
theorem f_has1 {w : List Nat} {m : Nat} (h0 : w.length ≤ 1000000) (h1 : 1 ≤ w.length) (h2 : w.length ≤ m) (h : ∀ c ∈ w, isSignC c = true) : f_has_signs [txt w, .int m] = some (.bl true) := by
  unfold f_has_signs
  dsimp only
  rw [okA_txt h0, hasSigns_txt h1 h2 h]
  rfl
theorem chS_mem {x : D} {ks : List Str} (h : x ∈ (sortS ks).map D.str) : ∃ k ∈ ks, x = .str k := by
  obtain ⟨k, hk, rfl⟩ := List.mem_map.mp h
  exact ⟨k, (sortS_perm ks).subset hk, rfl⟩
theorem keysF (fo : Fo) : (foE fo).map (·.1) = (fo.map fun p => (⟨#[p.1]⟩ : Str)).map Sum.inr := by unfold foE; rw [List.map_map, List.map_map]; rfl
theorem keysM (ma : Ma) : (maE ma).map (·.1) = (ma.map fun p => (⟨#[p.1]⟩ : Str)).map Sum.inr := by unfold maE; rw [List.map_map, List.map_map]; rfl
theorem rd_look_folds (h : spR K 1 R_look_folds vs H Q E) : t_look_folds K (spP K 2 f_has_signs) (spP K 1 f_is_sign) { nx := fun _ H' => Q .non H', rt := Q } (start N_look_folds vs) H := by
  obtain ⟨F, v, x, d, rfl, S, hv, ⟨fo, ma, ok, e, rfl⟩, k⟩ := spR1 h
  cases e
  have E1 : EnvD K F [.d (foD fo), .u, .u, .u] (start N_look_folds [v]) := .cons ⟨v, rfl, hv⟩ (.cons trivial (.cons trivial (.cons trivial .nil)))
  refine s_look (fun d r => r.set 1 (.d d)) (fun r => ∃ a b c, r = [.d (foD fo), a, b, c]) S E1 (ei_lst (ev_cb (by walk_at "ev") (rc_sorted_dic (keysF fo) (by rw [List.length_map]; have := ok.fl; omega)))) (fun d _ => tg_name) ⟨_, _, _, rfl⟩ ?_ fun F' H' r' σ' x _ _ => k _ F' H' x .non
  rintro d F2 H2 r' σ' N hd s2 S2 ⟨a, b, c, rfl⟩ E2 n
  obtain ⟨ks, hk, rfl⟩ := chS_mem hd
  obtain ⟨p, hp, rfl⟩ := List.mem_map.mp hk
  have hw := ok.fw p hp
  have hl := lk_self ok.fn hp
  refine q_asg (d := txt p.2) (j := 2) S2 E2 (ev_op (ev_var (i := 0) E2 rfl) (ev_var (i := 1) E2 rfl) (rv_ix_dic (k := .inr ⟨#[p.1]⟩) rfl (by rw [valD_fo, hl]; rfl))) fun F3 H3 σ3 x3 E3 => ?_
  refine q_if (K := K) (b := false) x3.s (et_is (et_not (et_B (ev_call (ds := [.str ⟨#[p.1]⟩]) (d := .bl true) (by walk_at "ev") (f_sign1 (ok.fs p hp)) rfl))) rfl) (fun z => nomatch z) fun _ F4 H4 x4 => ?_
  have E4 := E3.up x4.f
  refine s_if (K := K) (b := false) x4.s (et_is (et_or (a := false) (b := false) (et_is (et_not (et_B (ev_call (ds := [txt p.2, .int 3]) (d := .bl true) (ea_cons (ev_var (i := 2) E4 rfl) (ea_cons (ev_c (.int 3)) ea_nil)) ?_ rfl))) rfl) fun _ => et_B ?_) rfl) (fun z => nomatch z) fun _ F5 H5 x5 => n F5 H5 _ _ ((x3.tr x4).tr x5) (E4.up x5.f) ⟨_, _, _, rfl⟩
  · exact f_has1 (m := 3) (by omega) hw.1 hw.2.1 fun c hc => (hw.2.2 c hc).1
  · refine ev_is (ev_cb (ea_cons (ev_is (ev_lc (f := fun _ => .bl false) E4 (ei_str (z := ⟨p.2.toArray⟩) (ev_var E4 rfl)) ?_ (wipe1 3) fun d F' σ' hd _ E' => ?_) ?_) ea_nil) (rc_any (bs := p.2.map fun _ => false))) ?_
    · unfold signs; rw [List.length_map, sizeLine_eq]; show p.2.length < _; omega
    · obtain ⟨c, hc, rfl⟩ := List.mem_map.mp hd
      refine ev_is (ev_op (ev_var E' rfl) (ev_var E' rfl) (rv_in_dic (es := foE fo) (k := .inr ⟨#[c]⟩) rfl)) ?_
      rw [isSome_fo, (hw.2.2 c hc).2]; rfl
    · unfold signs; rw [List.map_map, List.map_map]; rfl
    · rw [List.any_map]
      have : p.2.any (id ∘ fun _ => false) = false := List.any_eq_false.mpr fun _ _ h => nomatch h
      rw [this]
theorem rd_look_marks (h : spR K 2 R_look_marks vs H Q E) : t_look_marks K (spR K 1 R_is_class) (spP K 1 f_is_sign) { nx := fun _ H' => Q .non H', rt := Q } (start N_look_marks vs) H := by
  obtain ⟨F, v, w, x, y, d, rfl, S, hv, hw, ⟨fo, ma, ok, e, rfl⟩, k⟩ := spR2 h
  cases e
  have E1 : EnvD K F [.d (maD ma), .d (foD fo), .u] (start N_look_marks [v, w]) := .cons ⟨v, rfl, hv⟩ (.cons ⟨w, rfl, hw⟩ (.cons trivial .nil))
  refine s_look (fun d r => r.set 2 (.d d)) (fun r => ∃ a, r = [.d (maD ma), .d (foD fo), a]) S E1 (ei_lst (ev_cb (by walk_at "ev") (rc_sorted_dic (keysM ma) (by rw [List.length_map]; have := ok.ml; omega)))) (fun d _ => tg_name) ⟨_, rfl⟩ ?_ fun F' H' r' σ' x _ _ => k _ F' H' x .non
  rintro d F2 H2 r' σ' N hd s2 S2 ⟨a, rfl⟩ E2 n
  obtain ⟨ks, hk, rfl⟩ := chS_mem hd
  obtain ⟨p, hp, rfl⟩ := List.mem_map.mp hk
  have hm := ok.ms p hp
  have hl := lk_self ok.mn hp
  refine q_if (K := K) (b := false) S2 (et_is (et_not (et_B (ev_call (ds := [.str ⟨#[p.1]⟩]) (d := .bl true) (by walk_at "ev") (f_sign1 hm.1) rfl))) rfl) (fun z => nomatch z) fun _ F4 H4 x4 => ?_
  have E4 := E2.up x4.f
  refine s_if (K := K) (b := false) x4.s (et_is (et_or (a := false) (b := false) (et_is (et_not (et_B (ev_callR (ds := [.int (p.2 : Nat)]) (d := .bl true) (ea_cons (ev_op (ev_var (i := 0) E4 rfl) (ev_var (i := 2) E4 rfl) (rv_ix_dic (k := .inr ⟨#[p.1]⟩) rfl (by rw [valD_ma, hl]; rfl))) ea_nil) ?_ rfl))) rfl) fun _ => et_test (ev_is (ev_op (ev_var E4 rfl) (ev_var E4 rfl) (rv_in_dic (es := foE fo) (k := .inr ⟨#[p.1]⟩) rfl)) (by rw [isSome_fo, hm.2.2]; rfl))) rfl) (fun z => nomatch z) fun _ F5 H5 x5 => n F5 H5 _ _ (x4.tr x5) (E4.up x5.f) ⟨_, rfl⟩
  refine ⟨_, rfl, rfl, ?_⟩
  rcases hm.2.1 with e | e | e <;> rw [e] <;> rfl
theorem ofCls_dec (ma : Ma) (n c : Nat) (m : Nat) (h : lk ma c = some m) : decide ((m : Int) = (n : Int)) = ofCls ma n c := by
  unfold ofCls
  rw [h]
  by_cases e : m = n
  · subst e; simp
  · have : ¬ ((m : Int) = (n : Int)) := by omega
    simp [e, this]
theorem rd_in_order {ad : Addr} (hs : ∀ H, SqT K H ad [.int 1, .int 2, .int 3]) (h : spR K 2 R_in_order vs H Q E) : t_in_order K ad { nx := fun _ H' => Q .non H', rt := Q } (start N_in_order vs) H := by
  obtain ⟨F, v, w, x, y, d, rfl, S, hv, hw, ⟨ma, run, hr, hz, e, rfl⟩, k⟩ := spR2 h
  cases e
  have E1 : EnvD K F [.d (.lst (chs run)), .d (maD ma), .u, .u] (start N_in_order [v, w]) := .cons ⟨v, rfl, hv⟩ (.cons ⟨w, rfl, hw⟩ (.cons trivial (.cons trivial .nil)))
  refine s_ret S ?_ k
  let isC : D → D → Bool := fun n x => match n, x with
    | .int i, .str s => match s.cps.toList with | [c] => decide (((lk ma c).getD 0 : Nat) = i) | _ => false
    | _, _ => false
  refine ev_is (ev_lc2 (N := 10000) (items := [.int 1, .int 2, .int 3]) (ys := fun _ => chs run) (f := fun _ x => x) (p := isC) E1 (ei_tup (ev_tupC hs (DenL.ints [1, 2, 3]))) (by rw [sizeLine_eq]; decide) (fun _ _ => by unfold chs; rw [List.length_map]; exact hz) (wipe2 (by decide)) (wipe1 3) (fun d F' σ' _ _ E' => ei_lst (ev_var E' rfl)) ?_ ?_) ?_
  · intro d e F' σ' hd he _ E'
    obtain ⟨c, hc, rfl⟩ := List.mem_map.mp he
    obtain ⟨m, hm⟩ := Option.isSome_iff_exists.mp (hr c hc)
    have go : ∀ n : Nat, d = .int n → EvT K (tTest (tOp (rEqA K) (tOp (rIxA K) (tVar 1) (tVar 3)) (tVar 2))) σ' F' (isC d (.str ⟨#[c]⟩)) := by
      rintro n rfl
      refine et_test (ev_is (ev_op (ev_op (d := .int (m : Nat)) (ev_var (i := 1) E' rfl) (ev_var (i := 3) E' rfl) (rv_ix_dic (k := .inr ⟨#[c]⟩) rfl (by rw [valD_ma, hm]; rfl))) (ev_var (i := 2) E' rfl) rvA_eq_int) ?_)
      show D.bl (decide ((m : Int) = n)) = D.bl (decide ((((lk ma c).getD 0 : Nat) : Int) = (n : Int)))
      rw [hm]; rfl
    simp only [List.mem_cons, List.not_mem_nil, or_false] at hd
    rcases hd with rfl | rfl | rfl
    · exact go 1 rfl
    · exact go 2 rfl
    · exact go 3 rfl
  · intro d e F' σ' _ _ _ E' _
    exact ev_var E' rfl
  · have f : ∀ n : Nat, ((chs run).filter (isC (.int n))).map (fun x => x) = chs (run.filter (ofCls ma n)) := by
      intro n
      rw [List.map_id']
      unfold chs
      rw [List.filter_map]
      congr 1
      refine List.filter_congr fun c hc => ?_
      obtain ⟨m, hm⟩ := Option.isSome_iff_exists.mp (hr c hc)
      show decide ((((lk ma c).getD 0 : Nat) : Int) = (n : Int)) = _
      rw [hm]
      exact ofCls_dec ma n c m hm
    have e : (([.int 1, .int 2, .int 3] : List D).flatMap fun d => ((chs run).filter (isC d)).map (fun x => x)) = chs (inOrd ma run) := by
      have f1 := f 1; have f2 := f 2; have f3 := f 3
      show ((chs run).filter (isC (.int ((1 : Nat) : Int)))).map (fun x => x) ++ (((chs run).filter (isC (.int ((2 : Nat) : Int)))).map (fun x => x) ++ (((chs run).filter (isC (.int ((3 : Nat) : Int)))).map (fun x => x) ++ [])) = _
      rw [f1, f2, f3, List.append_nil]
      unfold inOrd chs
      rw [List.map_append, List.map_append]
    exact congrArg D.lst e
end
end Nm

set_option Elab.async false
set_option linter.all false
set_option maxRecDepth 100000
set_option maxHeartbeats 400000
namespace Nm
open PySem PySem.Spec L2
local macro_rules | `(tactic| walk_at "ev") => `(tactic| first
  | (with_reducible apply ev_var; assumption; with_unfolding_all rfl)
  | (with_reducible apply ev_c; first | with_reducible exact Den.int _ | with_reducible exact Den.str _ | with_reducible exact Den.bl _ | with_reducible exact Den.non | with_reducible exact Den.ty _)
  | with_reducible exact ea_nil
  | (with_reducible apply ea_cons; walk_at "ev"; walk_at "ev")
  | (with_reducible apply ev_op; walk_at "ev"; walk_at "ev"; walk_at "rv")
  | (with_reducible apply ev_cb; walk_at "ev"; walk_at "rv")
  | (with_reducible apply ev_lst; walk_at "ev"; walk_at "sz")
  | (with_reducible apply ev_tup; walk_at "ev"; walk_at "sz")
  | (with_reducible apply ev_un; walk_at "ev"; walk_at "rv")
  | (with_reducible apply ev_chainU; walk_at "ev"; walk_at "ev"; walk_at "rv"; walk_at "ev"; walk_at "rv")
  | with_reducible exact ev_dnew
  | with_reducible exact ev_disp1 (fun _ => Den.str _)
  | (with_reducible apply et_test; walk_at "ev")
  | (with_reducible apply et_B; walk_at "ev")
  | (with_reducible apply et_not; walk_at "ev")
  | (with_reducible apply ev_not; walk_at "ev")
  | (with_reducible apply ev_sl_str; walk_at "ev"; walk_at "ev"; walk_at "ev"; walk_at "sz")
  | (with_reducible apply eo_some; walk_at "ev")
  | with_reducible exact eo_none)
local macro_rules | `(tactic| walk_at "rv") => `(tactic| first
  | with_reducible exact rv_add_int | (with_reducible apply rv_add_str; walk_at "sz") | (with_reducible apply rv_add_lst; walk_at "sz")
  | with_reducible exact rv_lt_int | with_reducible exact rv_le_int | with_reducible exact rv_gt_int | with_reducible exact rv_ge_int
  | with_reducible exact rvA_eq_int | with_reducible exact rvA_eq_str | with_reducible exact rvA_ne_int | with_reducible exact rvA_ne_str
  | (with_reducible apply rv_mul_int; walk_at "mul")
  | with_reducible exact rv_in_sign | (with_reducible apply rc_len_str; walk_at "sz") | with_reducible exact rc_len_lst | with_reducible exact rc_len_tup
  | with_reducible exact rc_abs | with_reducible exact rc_max2 | with_reducible exact rc_min2
  | with_reducible exact rc_all | with_reducible exact rc_any | with_reducible exact ru_neg
  | (with_reducible apply rc_isiA; with_unfolding_all rfl; decide +kernel)
  | (with_reducible apply rv_ix_lst; with_unfolding_all rfl) | (with_reducible apply rv_ix_tup; with_unfolding_all rfl)
  | (with_reducible apply rv_I; first | walk_at "sd" | (unfold CPow; decide) | (unfold CDiv; first | decide | omega)))
local macro_rules | `(tactic| walk_at "sz") => `(tactic| first | assumption | (rw [sizeLine_eq]; omega) | (rw [sizeLine_eq]; decide) | (simp [sizeLine_eq]; done))
local macro_rules | `(tactic| walk_at "sd") => `(tactic| first | assumption | omega | decide)
local macro_rules | `(tactic| walk_at "mul") => `(tactic| first | exact Or.inl ⟨by omega, by omega⟩ | exact Or.inr ⟨by omega, by omega⟩)
/-! ### tables: runs, keys, making -/
section
variable {K : PySem.W.Frag} {vs : List V} {H F : Hp} {Q : VK} {E : XK} {σ : L2.St} {ta tb : TE}
theorem rd_ordered_runs (h : spR K 2 R_ordered_runs vs H Q E) : t_ordered_runs K (spR K 2 R_in_order) { nx := fun _ H' => Q .non H', rt := Q } (start N_ordered_runs vs) H := by
  obtain ⟨F, v, w, x, y, d, rfl, S, hv, hw, ⟨ma, l, ok, hz, e, rfl⟩, k⟩ := spR2 h
  cases e
  have E1 : EnvD K F [.d (txt l), .d (maD ma), .u, .u, .u] (start N_ordered_runs [v, w]) := .cons ⟨v, rfl, hv⟩ (.cons ⟨w, rfl, hw⟩ (.cons trivial (.cons trivial (.cons trivial .nil))))
  refine q_par (d := .lst (chs [])) (e := .lst (chs [])) S E1 (ea_cons (ev_lst ea_nil (Nat.zero_le _)) (ea_cons (ev_lst ea_nil (Nat.zero_le _)) ea_nil)) fun F1 H1 σ1 x1 E1 => ?_
  refine q_for [] (fun i _ _ r => ∃ a A B, r = [.d (txt l), .d (maD ma), a, .d (.lst (chs A)), .d (.lst (chs B))] ∧ A ++ runs ma B (l.drop i) = runs ma [] l ∧ (∀ c ∈ B, (lk ma c).isSome = true) ∧ A.length + B.length ≤ i) x1.s E1 (ei_str (z := ⟨l.toArray⟩) (ev_var E1 rfl)) (fun F' H' _ => ⟨_, [], [], rfl, rfl, (by simp), Nat.le_refl _⟩) ?_ ?_
  · rintro i d F2 H2 F3 H3 r' σ' N hd x2 ⟨a, A, B, rfl, inv, hB, hle⟩ x3 E3 n
    have hd' : (l.map fun c => D.str ⟨#[c]⟩)[i]? = some d := hd
    rw [List.getElem?_map] at hd'
    obtain ⟨c, hc, rfl⟩ := Option.map_eq_some_iff.mp hd'
    have hil : i < l.length := (List.getElem?_eq_some_iff.mp hc).1
    have dr : l.drop i = c :: l.drop (i + 1) := by
      obtain ⟨_, e⟩ := List.getElem?_eq_some_iff.mp hc
      rw [List.drop_eq_getElem_cons hil, e]
    rw [dr] at inv
    refine s_if (K := K) (b := (lk ma c).isSome) x3.s (et_test (ev_is (ev_op (ev_var E3 rfl) (ev_var E3 rfl) (rv_in_dic (es := maE ma) (k := .inr ⟨#[c]⟩) rfl)) (by rw [isSome_ma]))) ?_ ?_
    · intro hm F4 H4 x4
      refine s_asg (d := .lst (chs (B ++ [c]))) x4.s (E3.up x4.f) (ev_is (ev_lst (ea_star_lst (ds := chs B) (ev_var (E3.up x4.f) rfl) (ea_cons (ev_var (E3.up x4.f) rfl) ea_nil)) ?_) (by rw [chs_app]; rfl)) fun F5 H5 σ5 x5 E5 => n F5 H5 _ _ (x4.tr x5) E5 ⟨_, A, B ++ [c], rfl, ?_, ?_, ?_⟩
      · rw [List.length_append, chs_len, sizeLine_eq]; simp only [List.length_cons, List.length_nil]; omega
      · rw [← inv]; conv => rhs; unfold runs
        rw [if_pos hm]
      · intro c' hc'
        rcases List.mem_append.mp hc' with hc' | hc'
        · exact hB c' hc'
        · simp at hc'; subst hc'; exact hm
      · simp only [List.length_append, List.length_cons, List.length_nil]; omega
    · intro hm F4 H4 x4
      have il := inOrd_len ok B hB
      refine q_asg (d := .lst (chs (A ++ (inOrd ma B ++ [c])))) x4.s (E3.up x4.f) (ev_is (ev_lst (ea_star_lst (ds := chs A) (ev_var (E3.up x4.f) rfl) (ea_star_lst (ds := chs (inOrd ma B)) (ev_callR (ds := [.lst (chs B), maD ma]) (ea_cons (ev_var (E3.up x4.f) rfl) (ea_cons (ev_var (E3.up x4.f) rfl) ea_nil)) ⟨ma, B, hB, by omega, rfl, rfl⟩ rfl) (ea_cons (ev_var (E3.up x4.f) rfl) ea_nil))) ?_) (by rw [chs_app, chs_app]; rfl)) fun F5 H5 σ5 x5 E5 => ?_
      · rw [List.length_append, List.length_append, chs_len, chs_len, il, sizeLine_eq]; simp only [List.length_cons, List.length_nil]; omega
      refine s_asg (d := .lst (chs [])) x5.s E5 (ev_lst ea_nil (Nat.zero_le _)) fun F6 H6 σ6 x6 E6 => n F6 H6 _ _ ((x4.tr x5).tr x6) E6 ⟨_, A ++ (inOrd ma B ++ [c]), [], rfl, ?_, by simp, ?_⟩
      · rw [← inv]; conv => rhs; unfold runs
        rw [if_neg (by rw [hm]; decide)]
        simp
      · simp only [List.length_append, List.length_cons, List.length_nil, il]; omega
  · rintro F2 H2 r' σ' x2 E2 ⟨a, A, B, rfl, inv, hB, hle⟩
    have hl : (signs ⟨l.toArray⟩).length = l.length := by unfold signs; simp
    rw [hl] at inv hle
    rw [List.drop_length] at inv
    have il := inOrd_len ok B hB
    refine s_ret x2.s ?_ fun v F3 H3 x3 => k v F3 H3 (((x1.tr x2)).tr x3)
    refine ev_is (ev_joinC (l := A ++ inOrd ma B) (ev_c (.str _)) (ev_lst (ea_star_lst (ds := chs A) (ev_var E2 rfl) (ea_star_lst (ds := chs (inOrd ma B)) (ev_callR (ds := [.lst (chs B), maD ma]) (ea_cons (ev_var E2 rfl) (ea_cons (ev_var E2 rfl) ea_nil)) ⟨ma, B, hB, by omega, rfl, rfl⟩ rfl) ea_nil)) ?_) ?_ ?_) ?_
    · simp only [List.length_append, chs_len, il, sizeLine_eq, List.length_nil]; omega
    · rw [chs_app, List.append_nil]
    · rw [List.length_append, il]; omega
    · show txt (A ++ runs ma B []) = _
      rw [inv]
theorem rd_key_of (h : spR K 2 R_key_of vs H Q E) : t_key_of K (spR K 2 R_ordered_runs) { nx := fun _ H' => Q .non H', rt := Q } (start N_key_of vs) H := by
  obtain ⟨F, v, w, x, y, d, rfl, S, hv, hw, ⟨fo, ma, l, ok, hs, hz, e, rfl⟩, k⟩ := spR2 h
  cases e
  have E1 : EnvD K F [.d (ruleD fo ma), .d (txt l), .u, .u, .u] (start N_key_of [v, w]) := .cons ⟨v, rfl, hv⟩ (.cons ⟨w, rfl, hw⟩ (.cons trivial (.cons trivial (.cons trivial .nil))))
  refine q_asgG (d := ruleD fo ma) S E1 (ev_var E1 rfl) tg_two fun F1 H1 σ1 x1 E1 => ?_
  have fl := folded_len ok hs
  refine s_ret x1.s ?_ fun v F3 H3 x3 => k v F3 H3 (x1.tr x3)
  refine ev_callR (ds := [txt (folded fo l), maD ma]) (ea_cons ?_ (ea_cons (ev_var E1 rfl) ea_nil)) ⟨ma, folded fo l, ok.okMa, by omega, rfl, rfl⟩ rfl
  refine ev_joinW (ws := l.map (foldS fo)) (ev_c (.str _)) (ev_lc (f := onCh fun c => txt (foldS fo c)) E1 (ei_str (z := ⟨l.toArray⟩) (ev_var E1 rfl)) ?_ (wipe1 4) fun d F' σ' hd _ E' => ?_) ?_ (by show (folded fo l).length ≤ _; omega)
  · unfold signs; rw [List.length_map, sizeLine_eq]; show l.length < _; omega
  · obtain ⟨c, hc, rfl⟩ := List.mem_map.mp hd
    show EvD K _ σ' F' (txt (foldS fo c))
    refine ev_if (b := (lk fo c).isSome) (et_test (ev_is (ev_op (ev_var E' rfl) (ev_var E' rfl) (rv_in_dic (es := foE fo) (k := .inr ⟨#[c]⟩) rfl)) (by rw [isSome_fo]))) (fun h => ?_) fun h => ?_
    · obtain ⟨w, hw⟩ := Option.isSome_iff_exists.mp h
      rw [foldS_some hw]
      exact ev_op (ev_var E' rfl) (ev_var E' rfl) (rv_ix_dic (es := foE fo) (k := .inr ⟨#[c]⟩) rfl (by rw [valD_fo, hw]; rfl))
    · rw [foldS_none (Option.isNone_iff_eq_none.mp (by simpa using h))]
      exact ev_var E' rfl
  · unfold signs; rw [List.map_map, List.map_map]; rfl
theorem rd_init {C : Addr} (c : Cls K C) (na : NoAttr K C "rule") (h : spIR K C 2 R_init vs H Q E) : t_Table___init K (spR K 2 R_look_marks) (spR K 1 R_look_folds) { nx := fun _ H' => Q .non H', rt := Q } (start N_Table___init vs) H := by
  obtain ⟨F, x, dx, ws, ds, gs, rfl, S, hx, fx, l, hn, ⟨fo, ma, ok, rfl, rfl⟩, k⟩ := h
  obtain ⟨v, w, rfl, hv, hw⟩ : ∃ v w, ws = [v, w] ∧ Den K F v (foD fo) ∧ Den K F w (maD ma) := by
    cases l with
    | cons a t => cases t with
      | cons b t => cases t; exact ⟨_, _, rfl, a, b⟩
  have E1 : EnvD K F [.v (.ref x), .d (foD fo), .d (maD ma), .u, .u] (start N_Table___init [.ref x, v, w]) := .cons rfl (.cons ⟨v, rfl, hv⟩ (.cons ⟨w, rfl, hw⟩ (.cons trivial (.cons trivial .nil))))
  refine q_drop S (ev_callR (ds := [foD fo]) (ea_cons (ev_var E1 rfl) ea_nil) ⟨fo, ma, ok, rfl, rfl⟩ rfl) fun F1 H1 x1 => ?_
  refine q_drop x1.s (ev_callR (ds := [maD ma, foD fo]) (ea_cons (ev_var (E1.up x1.f) rfl) (ea_cons (ev_var (E1.up x1.f) rfl) ea_nil)) ⟨fo, ma, ok, rfl, rfl⟩ rfl) fun F2 H2 x2 => ?_
  have E2 := E1.up (x1.f.trans x2.f)
  refine q_look (items := [.tup [foD fo, .int 40], .tup [maD ma, .int 8]]) (fun d r => match d with | .tup [a, b] => (r.set 3 (.d a)).set 4 (.d b) | _ => r) (fun r => ∃ a b, r = [.v (.ref x), .d (foD fo), .d (maD ma), a, b]) x2.s E2 (ei_tup (ev_tup (ea_cons (ev_tup (ea_cons (ev_var E2 rfl) (ea_cons (ev_c (.int 40)) ea_nil)) sz2) (ea_cons (ev_tup (ea_cons (ev_var E2 rfl) (ea_cons (ev_c (.int 8)) ea_nil)) sz2) ea_nil)) sz2)) ?_ ⟨_, _, rfl⟩ ?_ ?_
  · intro d hd
    simp only [List.mem_cons, List.not_mem_nil, or_false] at hd
    rcases hd with rfl | rfl
    · exact tg_two
    · exact tg_two
  · rintro d F3 H3 r' σ' N hd s3 S3 ⟨a, b, rfl⟩ E3 n
    simp only [List.mem_cons, List.not_mem_nil, or_false] at hd
    rcases hd with rfl | rfl
    · refine s_if (K := K) (b := false) S3 (et_test (ev_is (ev_op (ev_cb (ea_cons (ev_var (i := 3) E3 rfl) ea_nil) (rc_len_dic (es := foE fo))) (ev_var (i := 4) E3 rfl) rv_gt_int) ?_)) (fun z => nomatch z) fun _ F4 H4 x4 => n F4 H4 _ _ x4 (E3.up x4.f) ⟨_, _, rfl⟩
      have := ok.fl
      have e : (foE fo).length = fo.length := by unfold foE; rw [List.length_map]
      rw [e, decide_eq_false (by omega)]
    · refine s_if (K := K) (b := false) S3 (et_test (ev_is (ev_op (ev_cb (ea_cons (ev_var (i := 3) E3 rfl) ea_nil) (rc_len_dic (es := maE ma))) (ev_var (i := 4) E3 rfl) rv_gt_int) ?_)) (fun z => nomatch z) fun _ F4 H4 x4 => n F4 H4 _ _ x4 (E3.up x4.f) ⟨_, _, rfl⟩
      have := ok.ml
      have e : (maE ma).length = ma.length := by unfold maE; rw [List.length_map]
      rw [e, decide_eq_false (by omega)]
  · rintro F3 H3 r' σ' x3 E3 ⟨a, b, rfl⟩
    have x13 := (x1.tr x2).tr x3
    refine (ev_tup (as := [foD fo, maD ma]) (ea_cons (ev_dict (es := foE fo) (ea_cons (ev_var (i := 1) E3 rfl) ea_nil)) (ea_cons (ev_dict (es := maE ma) (ea_cons (ev_var (i := 2) E3 rfl) ea_nil)) ea_nil)) sz2) H3 x3.s _ fun y F4 H4 x4 dy => ?_
    obtain ⟨o, h1, h2⟩ := E3.get (i := 0) rfl
    have x14 := x13.tr x4
    have hx4 : H4 x = some (.ins C dx []) := x14.same _ _ hx
    have fx4 : F4 x = none := x14.n x fx (by rw [hx]; simp)
    refine ⟨.ref x, by rw [h1]; exact congrArg some h2, x, C, dx, [], rfl, hx4, c, na, by decide, ?_⟩
    have w : Own F4 H4 x (.ins C dx []) := ⟨fx4, hx4⟩
    exact k _ F4 _ (x14.tr (w.set x14.s)) fx4 upd_same (.cons dy .nil)
end
end Nm

set_option Elab.async false
set_option linter.all false
set_option maxRecDepth 100000
set_option maxHeartbeats 400000
namespace Nm
open PySem PySem.Spec L2
local macro_rules | `(tactic| walk_at "ev") => `(tactic| first
  | (with_reducible apply ev_var; assumption; with_unfolding_all rfl)
  | (with_reducible apply ev_c; first | with_reducible exact Den.int _ | with_reducible exact Den.str _ | with_reducible exact Den.bl _ | with_reducible exact Den.non | with_reducible exact Den.ty _)
  | with_reducible exact ea_nil
  | (with_reducible apply ea_cons; walk_at "ev"; walk_at "ev")
  | (with_reducible apply ev_op; walk_at "ev"; walk_at "ev"; walk_at "rv")
  | (with_reducible apply ev_cb; walk_at "ev"; walk_at "rv")
  | (with_reducible apply ev_lst; walk_at "ev"; walk_at "sz")
  | (with_reducible apply ev_tup; walk_at "ev"; walk_at "sz")
  | (with_reducible apply ev_un; walk_at "ev"; walk_at "rv")
  | (with_reducible apply ev_chainU; walk_at "ev"; walk_at "ev"; walk_at "rv"; walk_at "ev"; walk_at "rv")
  | with_reducible exact ev_dnew
  | with_reducible exact ev_disp1 (fun _ => Den.str _)
  | (with_reducible apply et_test; walk_at "ev")
  | (with_reducible apply et_B; walk_at "ev")
  | (with_reducible apply et_not; walk_at "ev")
  | (with_reducible apply ev_not; walk_at "ev")
  | (with_reducible apply ev_sl_str; walk_at "ev"; walk_at "ev"; walk_at "ev"; walk_at "sz")
  | (with_reducible apply eo_some; walk_at "ev")
  | with_reducible exact eo_none)
local macro_rules | `(tactic| walk_at "rv") => `(tactic| first
  | with_reducible exact rv_add_int | (with_reducible apply rv_add_str; walk_at "sz") | (with_reducible apply rv_add_lst; walk_at "sz")
  | with_reducible exact rv_lt_int | with_reducible exact rv_le_int | with_reducible exact rv_gt_int | with_reducible exact rv_ge_int
  | with_reducible exact rvA_eq_int | with_reducible exact rvA_eq_str | with_reducible exact rvA_ne_int | with_reducible exact rvA_ne_str
  | (with_reducible apply rv_mul_int; walk_at "mul")
  | with_reducible exact rv_in_sign | (with_reducible apply rc_len_str; walk_at "sz") | with_reducible exact rc_len_lst | with_reducible exact rc_len_tup
  | with_reducible exact rc_abs | with_reducible exact rc_max2 | with_reducible exact rc_min2
  | with_reducible exact rc_all | with_reducible exact rc_any | with_reducible exact ru_neg
  | (with_reducible apply rc_isiA; with_unfolding_all rfl; decide +kernel)
  | (with_reducible apply rv_ix_lst; with_unfolding_all rfl) | (with_reducible apply rv_ix_tup; with_unfolding_all rfl)
  | (with_reducible apply rv_I; first | walk_at "sd" | (unfold CPow; decide) | (unfold CDiv; first | decide | omega)))
local macro_rules | `(tactic| walk_at "sz") => `(tactic| first | assumption | (rw [sizeLine_eq]; omega) | (rw [sizeLine_eq]; decide) | (simp [sizeLine_eq]; done))
local macro_rules | `(tactic| walk_at "sd") => `(tactic| first | assumption | omega | decide)
local macro_rules | `(tactic| walk_at "mul") => `(tactic| first | exact Or.inl ⟨by omega, by omega⟩ | exact Or.inr ⟨by omega, by omega⟩)
/-! ### the law's rules and words -/
def postRule (_ : List D) (d : D) : Prop := ∃ fo ma, Drawn fo ma ∧ d = ruleD fo ma
abbrev spRule (K : PySem.W.Frag) : Sp := spB K 0 43 (fun _ => True) postRule
section
variable {K : PySem.W.Frag} {vs : List V} {H : Hp} {Q : VK} {E : XK}
theorem rd_law_rule (h : spRule K vs H Q E) : t_law_rule K (spTake K) { nx := fun _ H' => Q .non H', rt := Q } (start N_law_rule vs) H := by
  obtain ⟨F, b, n, ws, ds, rfl, S, w, l, hn, _, k⟩ := h
  obtain rfl : ws = [] := by
    cases l with
    | nil => rfl
    | cons _ _ => cases hn
  have E0 : EnvD K F [.v (.ref b), .u, .u, .u, .u] (start N_law_rule [.ref b]) := .cons rfl (.cons trivial (.cons trivial (.cons trivial (.cons trivial .nil))))
  intro p hp q hq
  refine ⟨_, _, rfl, ?_⟩
  have x1 : Ext [] F H F (upd H p (.dK [])) := Ext.newM S hp
  have x2 : Ext [] F (upd H p (.dK [])) F (upd (upd H p (.dK [])) q (.dK [])) := Ext.newM x1.s hq
  have x12 := x1.tr x2
  have pq : p ≠ q := fun z => by rw [← z, upd_same] at hq; cases hq
  have hqH : H q = none := by
    cases e : H q with
    | none => rfl
    | some o => have := x1.same q o e; rw [hq] at this; cases this
  have bp : b ≠ p := fun z => w.ne (by rw [z]; exact hp)
  have bq : b ≠ q := fun z => w.ne (by rw [z]; exact hqH)
  have op : Own F (upd (upd H p (.dK [])) q (.dK [])) p (.dK (foV [])) := ⟨S.free hp, by rw [upd_ne pq]; exact upd_same⟩
  have oq : Own F (upd (upd H p (.dK [])) q (.dK [])) q (.dK (maV [])) := ⟨S.free hqH, upd_same⟩
  have E1 : EnvD K F [.v (.ref b), .u, .v (.ref p), .v (.ref q), .u] (((start N_law_rule [.ref b]).set 2 (some (.ref p))).set 3 (some (.ref q))) := EnvD.set (s := .v (.ref q)) 3 (EnvD.set (s := .v (.ref p)) 2 E0 rfl) rfl
  have lenF : ∀ {fo : Fo}, (fo.map (·.1)).Sublist key7 → (foV fo).length < sizeLine := fun h => by
    have := h.length_le
    rw [List.length_map] at this
    unfold foV; rw [List.length_map, sizeLine_eq]
    have : key7.length = 7 := rfl
    omega
  have lenM : ∀ {ma : Ma}, (ma.map (·.1)).Sublist mrk4 → (maV ma).length < sizeLine := fun h => by
    have := h.length_le
    rw [List.length_map] at this
    unfold maV; rw [List.length_map, sizeLine_eq]
    have : mrk4.length = 4 := rfl
    omega
  refine q_for [b, p, q] (fun i F' H' r => ∃ a e fo, r = [.v (.ref b), a, .v (.ref p), .v (.ref q), e] ∧ BagAt F' H' b (n + 8 + (7 - i) * 5) ∧ Own F' H' p (.dK (foV fo)) ∧ Own F' H' q (.dK (maV [])) ∧ (fo.map (·.1)).Sublist (key7.take i) ∧ ∀ z ∈ fo, 1 ≤ z.2.length ∧ z.2.length ≤ 3 ∧ ∀ c ∈ z.2, c ∈ sig7)
    x12.s E1 (ei_str (z := "A1B2_Z9") (ev_c (.str _))) (fun F' H' x => ⟨_, _, [], rfl, (w.ext0 (x12.tr x)).less (by omega), op.ext0 x, oq.ext0 x, by simp, by simp⟩) ?_ ?_
  · rintro i d F1 H1 F2 H2 r' σ' N hd y1 ⟨a, e, fo, rfl, w1, op1, oq1, hs, hf⟩ y2 E2 nx
    have hd' : (key7.map fun c => D.str ⟨#[c]⟩)[i]? = some d := hd
    rw [List.getElem?_map] at hd'
    obtain ⟨c, hc, rfl⟩ := Option.map_eq_some_iff.mp hd'
    have hi : i < 7 := (List.getElem?_eq_some_iff.mp hc).1
    have ss := sub_succ hs hc
    have nw := sub_new (by decide) hs hc
    refine s_ifB (n := n + 8 + (7 - (i + 1)) * 5 + 4) (c := 1) y2.s ((w1.ext0 y2).less (by omega)) (eb_op (eb_take E2 rfl (ev_c (.int 2)) (by decide) (by decide)) (eb_of (ev_c (.int 0))) ?_) (fun F3 H3 y3 w3 => ?_) (fun F3 H3 y3 w3 => nx F3 H3 _ _ (y3.wide (by simp)) (E2.up y3.f) ⟨_, _, fo, rfl, w3.less (by omega), (op1.ext0 y2).ext y3 (by simpa using bp.symm), (oq1.ext0 y2).ext y3 (by simpa using bq.symm), ss.2, hf⟩)
    · rintro x y ⟨m, rfl, _⟩ rfl
      exact ⟨_, rvA_eq_int, _, rfl⟩
    · have E3 := E2.up y3.f
      have op3 := (op1.ext0 y2).ext y3 (by simpa using bp.symm)
      have oq3 := (oq1.ext0 y2).ext y3 (by simpa using bq.symm)
      refine s_dputB (i := 2) (j := 1) (x := ⟨#[c]⟩) (n := n + 8 + (7 - (i + 1)) * 5) y3.s E3 w3 (eb_word (z := "aabc':^") (m := 7) (lo := 1) (N := 3) (ci := 1) E3 rfl (by decide) (ebi_rng1 (S := fun ds => ∃ m : Nat, ds = [.int (m : Nat)] ∧ 1 ≤ m ∧ m ≤ 3) (eb_cons (eb_pick_lst (m := 5) E3 rfl (ev_lst (ea_cons (ev_c (.int 1)) (ea_cons (ev_c (.int 1)) (ea_cons (ev_c (.int 2)) (ea_cons (ev_c (.int 2)) (ea_cons (ev_c (.int 3)) ea_nil))))) sz5) (ev_c (.int 5)) (by decide) rfl (by decide)) eb_nil ?_) ?_) (by decide) (ev_c (.str _)) (fun F' σ' d _ _ => ev_c (.str _)) (fun F' σ' d _ _ => ev_c (.int 7)) (by decide) rfl (by decide)) rfl rfl op3 (lenF (hs.trans (List.take_sublist _ _))) bp.symm ?_
      · rintro x xs hx rfl
        simp only [List.mem_cons, List.not_mem_nil, or_false] at hx
        rcases hx with rfl | rfl | rfl | rfl | rfl
        · exact ⟨1, rfl, by decide, by decide⟩
        · exact ⟨1, rfl, by decide, by decide⟩
        · exact ⟨2, rfl, by decide, by decide⟩
        · exact ⟨2, rfl, by decide, by decide⟩
        · exact ⟨3, rfl, by decide, by decide⟩
      · rintro ds ⟨m, rfl, h1, h2⟩
        exact ⟨m, rfl, by omega, by rw [List.length_map, List.length_range]; omega, by rw [List.length_map, List.length_range]; omega⟩
      · rintro v d F4 H4 ⟨wd, rfl, h1, h2, h3⟩ dv y4 w4 op4
        cases dv
        have oq4 := oq3.ext y4 (by simpa using bq.symm)
        have E4 := E3.up y4.f
        refine nx F4 _ _ _ (((y3.trans y4).wide (by simp)).trans ((op4.set y4.s).wide (by simp))) E4 ⟨_, _, fo ++ [(c, wd)], rfl, w4.set (o := .tup []) bp, ⟨op4.f, ?_⟩, oq4.put pq.symm, ?_, ?_⟩
        · rw [upd_same]
          have nk : ∀ z ∈ foV fo, z.1 ≠ .inr ⟨#[c]⟩ := newKey (fun w : List Nat => V.str ⟨w.toArray⟩) nw
          rw [putK_new nk]
          unfold foV
          rw [List.map_append]; rfl
        · rw [List.map_append]; exact ss.1
        · intro z hz
          rcases List.mem_append.mp hz with hz | hz
          · exact hf z hz
          · simp at hz; subst hz; exact ⟨h1, h2, h3⟩
  · rintro F1 H1 r' σ' y1 E1 ⟨a, e, fo, rfl, w1, op1, oq1, hs, hf⟩
    have hs : (fo.map (·.1)).Sublist key7 := hs
    have w1 : BagAt F1 H1 b (n + 8) := w1
    refine q_for [b, p, q] (fun i F' H' r => ∃ a e ma, r = [.v (.ref b), a, .v (.ref p), .v (.ref q), e] ∧ BagAt F' H' b (n + (4 - i) * 2) ∧ Own F' H' p (.dK (foV fo)) ∧ Own F' H' q (.dK (maV ma)) ∧ (ma.map (·.1)).Sublist (mrk4.take i) ∧ ∀ z ∈ ma, z.2 = 1 ∨ z.2 = 2 ∨ z.2 = 3)
      y1.s E1 (ei_str (z := "':^~") (ev_c (.str _))) (fun F' H' x => ⟨_, _, [], rfl, w1.ext0 x, op1.ext0 x, oq1.ext0 x, by simp, by simp⟩) ?_ ?_
    · rintro i d F1 H1 F2 H2 r' σ' N hd y1 ⟨a, e, ma, rfl, w1, op1, oq1, hs, hf⟩ y2 E2 nx
      have hd' : (mrk4.map fun c => D.str ⟨#[c]⟩)[i]? = some d := hd
      rw [List.getElem?_map] at hd'
      obtain ⟨c, hc, rfl⟩ := Option.map_eq_some_iff.mp hd'
      have hi : i < 4 := (List.getElem?_eq_some_iff.mp hc).1
      have ss := sub_succ hs hc
      have nw := sub_new (by decide) hs hc
      refine s_ifB (n := n + (4 - (i + 1)) * 2 + 1) (c := 1) y2.s ((w1.ext0 y2).less (by omega)) (eb_op (eb_take E2 rfl (ev_c (.int 3)) (by decide) (by decide)) (eb_of (ev_c (.int 0))) ?_) (fun F3 H3 y3 w3 => ?_) (fun F3 H3 y3 w3 => nx F3 H3 _ _ (y3.wide (by simp)) (E2.up y3.f) ⟨_, _, ma, rfl, w3.less (by omega), (op1.ext0 y2).ext y3 (by simpa using bp.symm), (oq1.ext0 y2).ext y3 (by simpa using bq.symm), ss.2, hf⟩)
      · rintro x y ⟨m, rfl, _⟩ rfl
        exact ⟨_, rv_gt_int, _, rfl⟩
      · have E3 := E2.up y3.f
        have op3 := (op1.ext0 y2).ext y3 (by simpa using bp.symm)
        have oq3 := (oq1.ext0 y2).ext y3 (by simpa using bq.symm)
        refine s_dputB (i := 3) (j := 1) (x := ⟨#[c]⟩) (n := n + (4 - (i + 1)) * 2) (c := 0 + 1) (R := fun d => ∃ k : Nat, d = .int (k : Nat) ∧ (k = 1 ∨ k = 2 ∨ k = 3)) y3.s E3 w3 (eb_op (eb_of (ev_c (.int 1))) (eb_take (m := 3) E3 rfl (ev_c (.int 3)) (by decide) (by decide)) ?_) rfl rfl oq3 (lenM (hs.trans (List.take_sublist _ _))) bq.symm ?_
        · rintro x y rfl ⟨m, rfl, hm⟩
          exact ⟨_, rv_add_int, m + 1, congrArg D.int (by omega), by omega⟩
        · rintro v d F4 H4 ⟨m, rfl, hm⟩ dv y4 w4 oq4
          cases dv
          have op4 := op3.ext y4 (by simpa using bp.symm)
          have E4 := E3.up y4.f
          refine nx F4 _ _ _ (((y3.trans y4).wide (by simp)).trans ((oq4.set y4.s).wide (by simp))) E4 ⟨_, _, ma ++ [(c, m)], rfl, w4.set (o := .tup []) bq, op4.put pq, ⟨oq4.f, ?_⟩, ?_, ?_⟩
          · rw [upd_same]
            have nk : ∀ z ∈ maV ma, z.1 ≠ .inr ⟨#[c]⟩ := newKey (fun w : Nat => V.int (w : Nat)) nw
            rw [putK_new nk]
            unfold maV
            rw [List.map_append]; rfl
          · rw [List.map_append]; exact ss.1
          · intro z hz
            rcases List.mem_append.mp hz with hz | hz
            · exact hf z hz
            · simp at hz; subst hz; exact hm
    · rintro F2 H2 r' σ' y2 E2 ⟨a, e, ma, rfl, w2, op2, oq2, hs2, hf2⟩
      have hs2 : (ma.map (·.1)).Sublist mrk4 := hs2
      have w2 : BagAt F2 H2 b n := w2
      obtain ⟨o1, h1, h2⟩ := E2.get (i := 2) rfl
      have h2 : o1 = some (.ref p) := h2
      subst h2
      obtain ⟨o2, h3, h4⟩ := E2.get (i := 3) rfl
      have h4 : o2 = some (.ref q) := h4
      subst h4
      refine ⟨.ref p, h1, .inr ⟨p, _, rfl, op2.h, trivial, fun od => ?_⟩⟩
      refine ⟨.ref q, h3, .inr ⟨q, .dK (maV ma), rfl, (by rw [upd_ne pq.symm]; exact oq2.h), trivial, fun od' => ?_⟩⟩
      refine ⟨sz2, fun t ht => ?_⟩
      have y3 := op2.set (u := .frz od (.dK (foV fo))) y2.s
      have oq3 : Own F2 (upd H2 p (.frz od (.dK (foV fo)))) q (.dK (maV ma)) := oq2.put pq.symm
      have y4 := oq3.set (u := .frz od' (.dK (maV ma))) y3.s
      have x2 : Ext [b] F H F2 (upd (upd H2 p (.frz od (.dK (foV fo)))) q (.frz od' (.dK (maV ma)))) := Ext.drop x12 (((y1.trans y2).trans (y3.wide (by simp))).trans (y4.wide (by simp))) (by
        intro a ha
        simp only [List.mem_cons, List.not_mem_nil, or_false] at ha
        rcases ha with rfl | rfl | rfl
        · exact .inl (by simp)
        · exact .inr hp
        · exact .inr hqH)
      have z1 := Ext.freeze (o := .frz od (.dK (foV fo))) x2 hp (by rw [upd_ne pq]; exact upd_same) op2.f
      have z2 := Ext.freeze (o := .frz od' (.dK (maV ma))) z1 hqH upd_same (by rw [upd_ne pq.symm]; exact oq2.f)
      have z3 := Ext.new (o := .tup [.ref p, .ref q]) z2.s ht
      have w3 : BagAt F2 (upd (upd H2 p (.frz od (.dK (foV fo)))) q (.frz od' (.dK (maV ma)))) b n := (w2.set (o := .tup []) bp).set (o := .tup []) bq
      refine k _ _ _ _ (z2.tl z3) ((w3.fz ?_).ext0 z3) ⟨fo, ma, ⟨hs, hf, hs2, hf2⟩, rfl⟩ (.tup (SqT.of upd_same) (.cons (.dic (o := od) (z3.f _ _ ?_) (den_foV fo)) (.cons (.dic (z3.f _ _ upd_same) (den_maV ma)) .nil)))
      · rw [upd_ne bq, upd_ne bp]; exact w2.nf
      · rw [upd_ne pq]; exact upd_same
end
end Nm

set_option Elab.async false
set_option linter.all false
set_option maxRecDepth 100000
set_option maxHeartbeats 400000
namespace Nm
open PySem PySem.Spec L2
local macro_rules | `(tactic| walk_at "ev") => `(tactic| first
  | (with_reducible apply ev_var; assumption; with_unfolding_all rfl)
  | (with_reducible apply ev_c; first | with_reducible exact Den.int _ | with_reducible exact Den.str _ | with_reducible exact Den.bl _ | with_reducible exact Den.non | with_reducible exact Den.ty _)
  | with_reducible exact ea_nil
  | (with_reducible apply ea_cons; walk_at "ev"; walk_at "ev")
  | (with_reducible apply ev_op; walk_at "ev"; walk_at "ev"; walk_at "rv")
  | (with_reducible apply ev_cb; walk_at "ev"; walk_at "rv")
  | (with_reducible apply ev_lst; walk_at "ev"; walk_at "sz")
  | (with_reducible apply ev_tup; walk_at "ev"; walk_at "sz")
  | (with_reducible apply ev_un; walk_at "ev"; walk_at "rv")
  | (with_reducible apply ev_chainU; walk_at "ev"; walk_at "ev"; walk_at "rv"; walk_at "ev"; walk_at "rv")
  | with_reducible exact ev_dnew
  | with_reducible exact ev_disp1 (fun _ => Den.str _)
  | (with_reducible apply et_test; walk_at "ev")
  | (with_reducible apply et_B; walk_at "ev")
  | (with_reducible apply et_not; walk_at "ev")
  | (with_reducible apply ev_not; walk_at "ev")
  | (with_reducible apply ev_sl_str; walk_at "ev"; walk_at "ev"; walk_at "ev"; walk_at "sz")
  | (with_reducible apply eo_some; walk_at "ev")
  | with_reducible exact eo_none)
local macro_rules | `(tactic| walk_at "rv") => `(tactic| first
  | with_reducible exact rv_add_int | (with_reducible apply rv_add_str; walk_at "sz") | (with_reducible apply rv_add_lst; walk_at "sz")
  | with_reducible exact rv_lt_int | with_reducible exact rv_le_int | with_reducible exact rv_gt_int | with_reducible exact rv_ge_int
  | with_reducible exact rvA_eq_int | with_reducible exact rvA_eq_str | with_reducible exact rvA_ne_int | with_reducible exact rvA_ne_str
  | (with_reducible apply rv_mul_int; walk_at "mul")
  | with_reducible exact rv_in_sign | (with_reducible apply rc_len_str; walk_at "sz") | with_reducible exact rc_len_lst | with_reducible exact rc_len_tup
  | with_reducible exact rc_abs | with_reducible exact rc_max2 | with_reducible exact rc_min2
  | with_reducible exact rc_all | with_reducible exact rc_any | with_reducible exact ru_neg
  | (with_reducible apply rc_isiA; with_unfolding_all rfl; decide +kernel)
  | (with_reducible apply rv_ix_lst; with_unfolding_all rfl) | (with_reducible apply rv_ix_tup; with_unfolding_all rfl)
  | (with_reducible apply rv_I; first | walk_at "sd" | (unfold CPow; decide) | (unfold CDiv; first | decide | omega)))
local macro_rules | `(tactic| walk_at "sz") => `(tactic| first | assumption | (rw [sizeLine_eq]; omega) | (rw [sizeLine_eq]; decide) | (simp [sizeLine_eq]; done))
local macro_rules | `(tactic| walk_at "sd") => `(tactic| first | assumption | omega | decide)
local macro_rules | `(tactic| walk_at "mul") => `(tactic| first | exact Or.inl ⟨by omega, by omega⟩ | exact Or.inr ⟨by omega, by omega⟩)
/-! ### the law's key, by exchanging neighbours -/
section
theorem calm_snoc {ma : Ma} {a b : Nat} (hw : wrong ma a b = false) : ∀ x : List Nat, calmL ma (x ++ [a]) = true → calmL ma (x ++ [a, b]) = true
  | [], _ => by simp [calmL, hw]
  | [c], h => by
    simp only [List.cons_append, List.nil_append, calmL, Bool.and_eq_true] at h ⊢
    exact ⟨h.1, by simp [hw]⟩
  | c :: d :: x, h => by
    simp only [List.cons_append, calmL, Bool.and_eq_true] at h ⊢
    exact ⟨h.1, calm_snoc hw (d :: x) h.2⟩
theorem split_at {L : List Nat} {i : Nat} (h : i + 1 < L.length) : ∃ x a b y, L = x ++ a :: b :: y ∧ x.length = i ∧ L[i]? = some a ∧ L[i + 1]? = some b := by
  refine ⟨L.take i, L[i], L[i + 1], L.drop (i + 2), ?_, by rw [List.length_take]; omega, List.getElem?_eq_getElem (by omega), List.getElem?_eq_getElem h⟩
  have h1 : L.drop i = L[i] :: L.drop (i + 1) := List.drop_eq_getElem_cons (by omega)
  have h2 : L.drop (i + 1) = L[i + 1] :: L.drop (i + 2) := List.drop_eq_getElem_cons h
  conv => lhs; rw [← List.take_append_drop i L, h1, h2]
def chV (l : List Nat) : List V := l.map fun c => .str ⟨#[c]⟩
theorem chV_len (l : List Nat) : (chV l).length = l.length := by unfold chV; rw [List.length_map]
theorem chV_get {l : List Nat} {i c : Nat} (h : l[i]? = some c) : atI (chV l) (i : Nat) = some (.str ⟨#[c]⟩) := atI_nat (by unfold chV; rw [List.getElem?_map, h]; rfl)
theorem den_chV {K : PySem.W.Frag} {F : Hp} : ∀ l : List Nat, DenL K F (chV l) (chs l)
  | [] => .nil
  | c :: l => .cons (.str _) (den_chV l)
theorem swap_set {x y : List Nat} {a b : Nat} : ((chV (x ++ a :: b :: y)).set x.length (.str ⟨#[b]⟩)).set (x.length + 1) (.str ⟨#[a]⟩) = chV (x ++ b :: a :: y) := by
  unfold chV
  rw [List.map_append, List.map_append]
  have e : x.length = (x.map fun c => V.str ⟨#[c]⟩).length := by rw [List.length_map]
  rw [List.map_cons, List.map_cons, List.map_cons, List.map_cons]
  rw [List.set_append_right _ _ (by omega), List.set_append_right _ _ (by omega)]
  rw [← e, Nat.sub_self, show x.length + 1 - x.length = 1 by omega]
  rfl
variable {K : PySem.W.Frag} {vs : List V} {H : Hp} {Q : VK} {E : XK}
theorem rd_law_key (h : spR K 2 R_key_of vs H Q E) : t_law_key K { nx := fun _ H' => Q .non H', rt := Q } (start N_law_key vs) H := by
  obtain ⟨F, v, w, x, y, d, rfl, S, hv, hw, ⟨fo, ma, l, ok, hs, hz, e, rfl⟩, k⟩ := spR2 h
  cases e
  have E1 : EnvD K F [.d (ruleD fo ma), .d (txt l), .u, .u, .u, .u, .u, .u, .u, .u] (start N_law_key [v, w]) := .cons ⟨v, rfl, hv⟩ (.cons ⟨w, rfl, hw⟩ (.cons trivial (.cons trivial (.cons trivial (.cons trivial (.cons trivial (.cons trivial (.cons trivial (.cons trivial .nil)))))))))
  refine q_asgG (d := ruleD fo ma) S E1 (ev_var E1 rfl) tg_two fun F1 H1 σ1 x1 E1 => ?_
  have fl := folded_len ok hs
  have hj : EvD K (tM1 (rJoin K) (tC (.str "")) (tLc (iSeq K (tVar 1)) (gName 9) tYes (tDGet2 (tVar 2) (tVar 9) (tVar 9)) [9])) σ1 F1 (txt (folded fo l)) := by
    refine ev_joinW (ws := l.map (foldS fo)) (ev_c (.str _)) (ev_lc (f := onCh fun c => txt (foldS fo c)) E1 (ei_str (z := ⟨l.toArray⟩) (ev_var E1 rfl)) ?_ (wipe1 9) fun d F' σ' hd _ E' => ?_) ?_ (by show (folded fo l).length ≤ _; omega)
    · unfold signs; rw [List.length_map, sizeLine_eq]; show l.length < _; omega
    · obtain ⟨c, hc, rfl⟩ := List.mem_map.mp hd
      refine ev_is (ev_get2 (es := foE fo) (k := .inr ⟨#[c]⟩) (ev_var E' rfl) (ev_var E' rfl) rfl (ev_var E' rfl)) ?_
      show _ = txt (foldS fo c)
      rw [valD_fo]
      cases hl : lk fo c with
      | none => rw [foldS_none hl]; rfl
      | some w => rw [foldS_some hl]; rfl
    · unfold signs; rw [List.map_map, List.map_map]; rfl
  refine hj H1 x1.s _ fun z F2 H2 x2 dz => ?_
  cases dz
  refine .inr (.inl ⟨_, rfl, by rw [txt_len, sizeLine_eq]; omega, fun p hp => ⟨_, _, rfl, ?_⟩⟩)
  have x3 : Ext [] F2 H2 F2 (upd H2 p (.lst (chV (folded fo l)))) := Ext.newM x2.s hp
  have hpF : F2 p = none := x2.s.free hp
  have hpH : H p = none := by
    cases q : H p with
    | none => rfl
    | some o => have := (x1.tr x2).same p o q; rw [hp] at this; cases this
  let T : List Sl → Prop := fun r => ∃ a b c e, r = [.d (ruleD fo ma), .d (txt l), .d (foD fo), .d (maD ma), .v (.ref p), a, b, c, e, .u] ∨ ∃ f, r = [.d (ruleD fo ma), .d (txt l), .d (foD fo), .d (maD ma), .v (.ref p), a, b, c, e, f]
  have E2 : EnvD K F2 [.d (ruleD fo ma), .d (txt l), .d (foD fo), .d (maD ma), .v (.ref p), .d (.bl false), .u, .u, .u, .u] ((σ1.set 4 (some (.ref p))).set 5 (some (.bl false))) := EnvD.set (s := .d (.bl false)) 5 (EnvD.set (s := .v (.ref p)) 4 (E1.up x2.f) rfl) ⟨_, rfl, .bl _⟩
  refine ⟨fun m σ' H' => ∃ F' L rd a b c e, Ext [p] F2 (upd H2 p (.lst (chV (folded fo l)))) F' H' ∧ Own F' H' p (.lst (chV L)) ∧ EnvD K F' [.d (ruleD fo ma), .d (txt l), .d (foD fo), .d (maD ma), .v (.ref p), .d (.bl rd), a, b, c, e] σ' ∧ runs ma [] L = key fo ma l ∧ L.length = (folded fo l).length ∧ (rd = true → calmL ma L = true) ∧ m = 2 * inv ma L + (if rd then 0 else 1),
    ⟨_, F2, folded fo l, false, _, _, _, _, Ext.refl x3.s, ⟨hpF, upd_same⟩, E2, rfl, rfl, (fun z => nomatch z), rfl⟩, ?_⟩
  rintro m σ' H' ⟨F', L, rd, a, b, c, e, y, o, E', hr, hl, hc, rfl⟩
  refine et_not (et_B (ev_var (i := 5) E' rfl)) H' y.s _ fun F3 H3 y3 => ?_
  cases rd with
  | false =>
    have o3 := o.ext0 y3
    refine ⟨fun σ4 H4 => ∃ F4 L4 rd a b c e, Ext [p] F3 H3 F4 H4 ∧ Own F4 H4 p (.lst (chV L4)) ∧ EnvD K F4 [.d (ruleD fo ma), .d (txt l), .d (foD fo), .d (maD ma), .v (.ref p), .d (.bl rd), a, b, c, e] σ4 ∧ runs ma [] L4 = key fo ma l ∧ L4.length = (folded fo l).length ∧ (rd = true → calmL ma L4 = true ∧ L4 = L) ∧ (rd = false → inv ma L4 < inv ma L), ?_, ?_⟩
    · rintro σ4 H4 ⟨F4, L4, rd, a, b, c, e, y4, o4, E4, hr4, hl4, hc4, hv4⟩
      refine ⟨2 * inv ma L4 + (if rd then 0 else 1), ?_, F4, L4, rd, a, b, c, e, (y.tl y3).trans y4, o4, E4, hr4, hl4, fun z => (hc4 z).1, rfl⟩
      cases rd with
      | true => rw [(hc4 rfl).2]; simp
      | false => have := hv4 rfl; simp; omega
    · refine q_asg (d := .bl true) y3.s (E'.up y3.f) (ev_c (.bl _)) fun F4 H4 σ4 y4 E4 => ?_
      have o4 := o3.ext0 y4
      refine s_forH [p] (items := (List.range (L.length - 1)).map fun i => .int (i : Nat)) (fun i F' H' r => ∃ L' rd a b c e, r = [.d (ruleD fo ma), .d (txt l), .d (foD fo), .d (maD ma), .v (.ref p), .d (.bl rd), a, b, c, e] ∧ Own F' H' p (.lst (chV L')) ∧ runs ma [] L' = key fo ma l ∧ L'.length = (folded fo l).length ∧ (rd = true → calmL ma (L'.take (i + 1)) = true ∧ L' = L) ∧ (rd = false → inv ma L' < inv ma L)) (fun d r => r.set 6 (.d d)) y4.s E4 ?_ (fun d _ => tg_name) ?_ ?_ ?_
      · by_cases h0 : L.length = 0
        · have : L = [] := List.length_eq_zero_iff.mp h0
          subst this
          refine fun R q => ?_
          have at1 : At (tOp (rI0 fun i j => V.int (i - j)) (tCB (rLenA K) (tCons (tVar 4) tNil)) (tC (.int 1))) σ4 H4 (.int (-1)) := at_sub (i := 0) (at_len o4.h (at_slot E4 rfl)) at_c
          refine at1 _ ?_
          have one : EvA K (fun _ H2 R => R [.int (-1)] H2) σ4 F4 [.int (-1)] := fun H2 s2 R2 q2 => q2 _ F4 H2 (Ext.refl s2) (.cons (.int _) .nil)
          exact ei_rng1 one (by decide) (by decide) H4 y4.s R fun J F5 H5 y5 W => q J F5 H5 y5 W
        · have e1 : ((chV L).length : Int) - 1 = ((L.length - 1 : Nat) : Int) := by rw [chV_len]; omega
          have at1 : At (tOp (rI0 fun i j => V.int (i - j)) (tCB (rLenA K) (tCons (tVar 4) tNil)) (tC (.int 1))) σ4 H4 (.int ((L.length - 1 : Nat) : Int)) := by
            rw [← e1]; exact at_sub (at_len o4.h (at_slot E4 rfl)) at_c
          exact eih_rng1 y4.s at1 (by omega)
      · intro F5 H5 y5
        refine ⟨L, true, _, _, _, _, rfl, o4.ext0 y5, hr, hl, fun _ => ⟨?_, rfl⟩, (fun z => nomatch z)⟩
        cases L with
        | nil => rfl
        | cons _ _ => rfl
      · rintro i d F5 H5 F6 H6 r' σ6 N hd y5 ⟨L', rd, a, b, c, e, rfl, o5, hr5, hl5, hc5, hv5⟩ y6 E6 nx
        rw [List.getElem?_map] at hd
        obtain ⟨i', hi', rfl⟩ := Option.map_eq_some_iff.mp hd
        have hi : i < L.length - 1 := by have := (List.getElem?_eq_some_iff.mp hi').1; rwa [List.length_range] at this
        rw [List.getElem?_range hi] at hi'
        obtain rfl := Option.some.inj hi'
        have o6 := o5.ext0 y6
        obtain ⟨xl, p1, p2, yl, rfl, hxl, g1, g2⟩ := split_at (L := L') (i := i) (by omega)
        have e1 : (i : Int) + 1 = ((i + 1 : Nat) : Int) := by omega
        have a1 : At (tOp (rIxA K) (tVar 4) (tVar 6)) σ6 H6 (.str ⟨#[p1]⟩) := at_ix o6.h (at_slot E6 rfl) (at_int E6 rfl) (chV_get g1)
        have a2 : At (tOp (rIxA K) (tVar 4) (tOp (rAddA K) (tVar 6) (tC (.int 1)))) σ6 H6 (.str ⟨#[p2]⟩) := at_ix o6.h (at_slot E6 rfl) (at_add (at_int E6 rfl) at_c) (by rw [e1]; exact chV_get g2)
        refine a1 _ (a2 _ ⟨_, _, rfl, ?_⟩)
        have E7 : EnvD K F6 [.d (ruleD fo ma), .d (txt l), .d (foD fo), .d (maD ma), .v (.ref p), .d (.bl rd), .d (.int (i : Nat)), .d (.str ⟨#[p1]⟩), .d (.str ⟨#[p2]⟩), e] ((σ6.set 7 (some (.str ⟨#[p1]⟩))).set 8 (some (.str ⟨#[p2]⟩))) := EnvD.set (s := .d (.str ⟨#[p2]⟩)) 8 (EnvD.set (s := .d (.str ⟨#[p1]⟩)) 7 E6 ⟨_, rfl, .str _⟩) ⟨_, rfl, .str _⟩
        have tst : EvT K (tAnd (tTest (tOp (rInA K) (tVar 7) (tVar 3))) (tAnd (tTest (tOp (rInA K) (tVar 8) (tVar 3))) (tTest (tOp (rGtA K) (tOp (rIxA K) (tVar 3) (tVar 7)) (tOp (rIxA K) (tVar 3) (tVar 8)))))) ((σ6.set 7 (some (.str ⟨#[p1]⟩))).set 8 (some (.str ⟨#[p2]⟩))) F6 (wrong ma p1 p2) := by
          refine et_is (et_and (et_test (ev_op (ev_var (i := 7) E7 rfl) (ev_var (i := 3) E7 rfl) (rv_in_dic (es := maE ma) (k := .inr ⟨#[p1]⟩) rfl))) fun h1 => et_and (b := wrong ma p1 p2) (et_test (ev_op (ev_var (i := 8) E7 rfl) (ev_var (i := 3) E7 rfl) (rv_in_dic (es := maE ma) (k := .inr ⟨#[p2]⟩) rfl))) fun h2 => ?_) ?_
          · rw [isSome_ma] at h1 h2
            obtain ⟨m1, q1⟩ := Option.isSome_iff_exists.mp h1
            obtain ⟨m2, q2⟩ := Option.isSome_iff_exists.mp h2
            refine et_test (ev_is (ev_op (ev_op (d := .int (m1 : Nat)) (ev_var (i := 3) E7 rfl) (ev_var (i := 7) E7 rfl) (rv_ix_dic (es := maE ma) (k := .inr ⟨#[p1]⟩) rfl (by rw [valD_ma, q1]; rfl))) (ev_op (d := .int (m2 : Nat)) (ev_var (i := 3) E7 rfl) (ev_var (i := 8) E7 rfl) (rv_ix_dic (es := maE ma) (k := .inr ⟨#[p2]⟩) rfl (by rw [valD_ma, q2]; rfl))) rv_gt_int) ?_)
            unfold wrong
            rw [q1, q2]
            congr 1
            simp
          · rw [isSome_ma, isSome_ma]
            unfold wrong
            cases lk ma p1 with
            | none => rfl
            | some m1 => cases lk ma p2 with
              | none => rfl
              | some m2 => rfl
        refine s_if (K := K) y6.s tst ?_ ?_
        · intro hwr F7 H7 y7
          have E8 := E7.up y7.f
          have o7 := o6.ext0 y7
          obtain ⟨w1, w2, w3⟩ := wrong_ne hwr
          have b8 : ∀ {H : Hp}, At (tVar 8) ((σ6.set 7 (some (.str ⟨#[p1]⟩))).set 8 (some (.str ⟨#[p2]⟩))) H (.str ⟨#[p2]⟩) := at_str (i := 8) E8 rfl
          have b7 : ∀ {H : Hp}, At (tVar 7) ((σ6.set 7 (some (.str ⟨#[p1]⟩))).set 8 (some (.str ⟨#[p2]⟩))) H (.str ⟨#[p1]⟩) := at_str (i := 7) E8 rfl
          have b4 : ∀ {H : Hp}, At (tVar 4) ((σ6.set 7 (some (.str ⟨#[p1]⟩))).set 8 (some (.str ⟨#[p2]⟩))) H (.ref p) := at_slot (i := 4) E8 rfl
          have b6 : ∀ {H : Hp}, At (tVar 6) ((σ6.set 7 (some (.str ⟨#[p1]⟩))).set 8 (some (.str ⟨#[p2]⟩))) H (.int (i : Nat)) := at_int (i := 6) E8 rfl
          have b61 : ∀ {H : Hp}, At (tOp (rAddA K) (tVar 6) (tC (.int 1))) ((σ6.set 7 (some (.str ⟨#[p1]⟩))).set 8 (some (.str ⟨#[p2]⟩))) H (.int ((i : Nat) + 1)) := at_add b6 at_c
          refine q_pairAsg b8 b7 fun t ht => ?_
          have y8 : Ext [] F7 H7 F7 (upd H7 t (.tup [.str ⟨#[p2]⟩, .str ⟨#[p1]⟩])) := Ext.newM y7.s ht
          have o8 := o7.ext0 y8
          refine g_swap (i := i) (j := i + 1) upd_same b4 b6 o8.h (by rw [chV_len]; omega) (fun _ => b4) (fun _ => b61) (by rw [chV_len]; omega) ?_
          have y10 := o8.set (u := .lst (((chV (xl ++ p1 :: p2 :: yl)).set i (.str ⟨#[p2]⟩)).set (i + 1) (.str ⟨#[p1]⟩))) y8.s
          subst hxl
          rw [swap_set] at y10 ⊢
          refine s_asg (d := .bl false) y10.s E8 (ev_c (.bl _)) fun F9 H9 σ9 y11 E9 => nx F9 H9 _ _ (((y7.tr y8).tr y10).tl y11) E9 ⟨xl ++ p2 :: p1 :: yl, false, _, _, _, _, rfl, (⟨o8.f, upd_same⟩ : Own _ _ _ _).ext0 y11, ?_, ?_, (fun z => nomatch z), fun _ => ?_⟩
          · rw [← hr5]; exact (runs_swap w1 w2 w3 yl xl []).symm
          · rw [← hl5]; simp
          · have h1 := inv_swap hwr (wrong_anti hwr) yl xl
            cases rd with
            | true =>
              have := (hc5 rfl).2
              rw [← this]; omega
            | false => have := hv5 rfl; omega
        · intro hwr F7 H7 y7
          refine nx F7 H7 _ _ (y7.wide (by simp)) (E7.up y7.f) ⟨xl ++ p1 :: p2 :: yl, rd, _, _, _, _, rfl, o6.ext0 y7, hr5, hl5, fun z => ⟨?_, (hc5 z).2⟩, hv5⟩
          have h1 := (hc5 z).1
          subst hxl
          have t1 : (xl ++ p1 :: p2 :: yl).take (xl.length + 1) = xl ++ [p1] := by
            rw [List.take_append, List.take_of_length_le (by omega)]; simp
          have t2 : (xl ++ p1 :: p2 :: yl).take (xl.length + 1 + 1) = xl ++ [p1, p2] := by
            rw [List.take_append]; simp [show xl.length + 1 + 1 - xl.length = 2 by omega, List.take_of_length_le (show xl.length ≤ xl.length + 1 + 1 by omega)]
          rw [t1] at h1
          rw [t2]
          exact calm_snoc hwr xl h1
      · rintro F5 H5 r' σ5 y5 E5 ⟨L', rd, a, b, c, e, rfl, o5, hr5, hl5, hc5, hv5⟩
        refine ⟨F5, L', rd, a, b, c, e, y4.tr y5, o5, E5, hr5, hl5, fun z => ?_, hv5⟩
        obtain ⟨h1, h2⟩ := hc5 z
        refine ⟨?_, h2⟩
        rw [List.length_map, List.length_range, List.take_of_length_le (by rw [h2]; omega)] at h1
        exact h1
  | true =>
    have cal := hc rfl
    have eL : L = key fo ma l := by
      have := runs_calm ok.okMa L [] (by simp) (by simpa using cal)
      rw [← hr, this]; rfl
    subst eL
    have o3 := o.ext0 y3
    have xx : Ext [] F H F3 H3 := Ext.drop ((x1.tr x2).tr x3) (y.tl y3) (by intro a ha; simp at ha; subst ha; exact .inr hpH)
    have z1 := Ext.freeze xx hpH o3.h o3.f
    have g1 : Same F3 (upd F3 p (.lst (chV (key fo ma l)))) := same_new o3.f
    have E3 := (E'.up y3.f).up g1
    obtain ⟨o1, h1, h2⟩ := E3.get (i := 4) rfl
    have h2 : o1 = some (.ref p) := h2
    subst h2
    have ev4 : EvD K (tVar 4) σ' (upd F3 p (.lst (chV (key fo ma l)))) (.lst (chs (key fo ma l))) := fun H s Q q => ⟨_, h1, q _ _ H (Ext.refl s) (.lst upd_same (den_chV _))⟩
    exact s_ret z1.s (ev_joinC (ev_c (.str _)) ev4 rfl (by rw [hl]; omega)) fun v F4 H4 y4 dv => k v F4 H4 (z1.tr y4) dv
end
end Nm

set_option Elab.async false
set_option linter.all false
set_option maxRecDepth 100000
set_option maxHeartbeats 400000
namespace Nm
open PySem PySem.Spec L2
local macro_rules | `(tactic| walk_at "ev") => `(tactic| first
  | (with_reducible apply ev_var; assumption; with_unfolding_all rfl)
  | (with_reducible apply ev_c; first | with_reducible exact Den.int _ | with_reducible exact Den.str _ | with_reducible exact Den.bl _ | with_reducible exact Den.non | with_reducible exact Den.ty _)
  | with_reducible exact ea_nil
  | (with_reducible apply ea_cons; walk_at "ev"; walk_at "ev")
  | (with_reducible apply ev_op; walk_at "ev"; walk_at "ev"; walk_at "rv")
  | (with_reducible apply ev_cb; walk_at "ev"; walk_at "rv")
  | (with_reducible apply ev_lst; walk_at "ev"; walk_at "sz")
  | (with_reducible apply ev_tup; walk_at "ev"; walk_at "sz")
  | (with_reducible apply ev_un; walk_at "ev"; walk_at "rv")
  | (with_reducible apply ev_chainU; walk_at "ev"; walk_at "ev"; walk_at "rv"; walk_at "ev"; walk_at "rv")
  | with_reducible exact ev_dnew
  | with_reducible exact ev_disp1 (fun _ => Den.str _)
  | (with_reducible apply et_test; walk_at "ev")
  | (with_reducible apply et_B; walk_at "ev")
  | (with_reducible apply et_not; walk_at "ev")
  | (with_reducible apply ev_not; walk_at "ev")
  | (with_reducible apply ev_sl_str; walk_at "ev"; walk_at "ev"; walk_at "ev"; walk_at "sz")
  | (with_reducible apply eo_some; walk_at "ev")
  | with_reducible exact eo_none)
local macro_rules | `(tactic| walk_at "rv") => `(tactic| first
  | with_reducible exact rv_add_int | (with_reducible apply rv_add_str; walk_at "sz") | (with_reducible apply rv_add_lst; walk_at "sz")
  | with_reducible exact rv_lt_int | with_reducible exact rv_le_int | with_reducible exact rv_gt_int | with_reducible exact rv_ge_int
  | with_reducible exact rvA_eq_int | with_reducible exact rvA_eq_str | with_reducible exact rvA_ne_int | with_reducible exact rvA_ne_str
  | (with_reducible apply rv_mul_int; walk_at "mul")
  | with_reducible exact rv_in_sign | (with_reducible apply rc_len_str; walk_at "sz") | with_reducible exact rc_len_lst | with_reducible exact rc_len_tup
  | with_reducible exact rc_abs | with_reducible exact rc_max2 | with_reducible exact rc_min2
  | with_reducible exact rc_all | with_reducible exact rc_any | with_reducible exact ru_neg
  | (with_reducible apply rc_isiA; with_unfolding_all rfl; decide +kernel)
  | (with_reducible apply rv_ix_lst; with_unfolding_all rfl) | (with_reducible apply rv_ix_tup; with_unfolding_all rfl)
  | (with_reducible apply rv_I; first | walk_at "sd" | (unfold CPow; decide) | (unfold CDiv; first | decide | omega)))
local macro_rules | `(tactic| walk_at "sz") => `(tactic| first | assumption | (rw [sizeLine_eq]; omega) | (rw [sizeLine_eq]; decide) | (simp [sizeLine_eq]; done))
local macro_rules | `(tactic| walk_at "sd") => `(tactic| first | assumption | omega | decide)
local macro_rules | `(tactic| walk_at "mul") => `(tactic| first | exact Or.inl ⟨by omega, by omega⟩ | exact Or.inr ⟨by omega, by omega⟩)
/-! ### pairs of a table, those that fail for another -/
def R_exchange_pairs (ds : List D) (d : D) : Prop := ∃ fo ma, okTab isSignC fo ma ∧ ds = [ruleD fo ma] ∧ d = .lst ((prs fo ma).map pairD)
def R_are_one (ds : List D) (d : D) : Prop := ∃ fo ma p, okTab isSignC fo ma ∧ ((∀ c ∈ p.1, isSignC c = true) ∧ (∀ c ∈ p.2, isSignC c = true) ∧ p.1.length ≤ 3000 ∧ p.2.length ≤ 3000) ∧ ds = [ruleD fo ma, txt p.1, txt p.2] ∧ d = .bl (isOne fo ma p)
def R_failing (C : Addr) (ds es : List D) : Prop := ∃ fo ma fo' ma', okTab isSignC fo ma ∧ okTab isSignC fo' ma' ∧ ds = [tabD C fo ma, tabD C fo' ma'] ∧ es = (fails fo ma fo' ma').map pairD
section
variable {K : PySem.W.Frag} {vs : List V} {H : Hp} {Q : VK} {E : XK}
theorem rd_are_one (h : spR K 3 R_are_one vs H Q E) : t_are_one K (spR K 2 R_key_of) { nx := fun _ H' => Q .non H', rt := Q } (start N_are_one vs) H := by
  obtain ⟨F, v, w, u, x, y, z, d, rfl, S, hv, hw, hu, ⟨fo, ma, p, ok, hp, e, rfl⟩, k⟩ := spR3 h
  cases e
  have E1 : EnvD K F [.d (ruleD fo ma), .d (txt p.1), .d (txt p.2)] (start N_are_one [v, w, u]) := .cons ⟨v, rfl, hv⟩ (.cons ⟨w, rfl, hw⟩ (.cons ⟨u, rfl, hu⟩ .nil))
  refine s_ret S (ev_is (ev_op (ev_callR (ds := [ruleD fo ma, txt p.1]) (d := txt (key fo ma p.1)) (ea_cons (ev_var E1 rfl) (ea_cons (ev_var E1 rfl) ea_nil)) ⟨fo, ma, p.1, ok, hp.1, hp.2.2.1, rfl, rfl⟩ rfl) (ev_callR (ds := [ruleD fo ma, txt p.2]) (d := txt (key fo ma p.2)) (ea_cons (ev_var E1 rfl) (ea_cons (ev_var E1 rfl) ea_nil)) ⟨fo, ma, p.2, ok, hp.2.1, hp.2.2.2, rfl, rfl⟩ rfl) rvA_eq_str) ?_) k
  unfold isOne
  rw [dec_txt]
theorem rd_exchange_pairs (h : spR K 1 R_exchange_pairs vs H Q E) : t_exchange_pairs K { nx := fun _ H' => Q .non H', rt := Q } (start N_exchange_pairs vs) H := by
  obtain ⟨F, v, x, d, rfl, S, hv, ⟨fo, ma, ok, e, rfl⟩, k⟩ := spR1 h
  cases e
  have fl := ok.fl
  have ml := ok.ml
  have E1 : EnvD K F [.d (ruleD fo ma), .u, .u, .u, .u, .u, .u, .u] (start N_exchange_pairs [v]) := .cons ⟨v, rfl, hv⟩ (.cons trivial (.cons trivial (.cons trivial (.cons trivial (.cons trivial (.cons trivial (.cons trivial .nil)))))))
  refine q_asgG (d := ruleD fo ma) S E1 (ev_var E1 rfl) tg_two fun F1 H1 σ1 x1 E1 => ?_
  refine q_asg (d := .lst ((prF fo).map pairD)) x1.s E1 (ev_is (el_lcY (f := onCh fun c => pairD ([c], foldS fo c)) (fun d r => r.set 5 (.d d)) E1 (ei_lst (ev_sortedF (ev_var E1 rfl) (by omega))) (by rw [chs_len, fks_len, sizeLine_eq]; omega) (fun d _ => tw_name (by decide)) fun d F' σ' hd _ E' => ?_).toD ?_) fun F2 H2 σ2 x2 E2 => ?_
  · obtain ⟨c, hc, rfl⟩ := List.mem_map.mp hd
    obtain ⟨w, hw⟩ := fks_mem hc
    have hl := lk_self ok.fn hw
    have e : foldS fo c = w := foldS_some hl
    show EvD K _ σ' F' (.tup [txt [c], txt (foldS fo c)])
    rw [e]
    exact ev_tup (ea_cons (ev_var E' rfl) (ea_cons (ev_op (ev_var E' rfl) (ev_var E' rfl) (rv_ix_dic (es := foE fo) (k := .inr ⟨#[c]⟩) rfl (by rw [valD_fo, hl]; rfl))) ea_nil)) sz2
  · unfold chs prF; rw [List.map_map, List.map_map]; rfl
  refine q_asg (d := .lst ((mm ma).map fun p => .tup [.str ⟨#[p.1]⟩, .str ⟨#[p.2]⟩])) x2.s E2 (ev_is (ev_lc2 (N := 8) (items := chs (mks ma)) (ys := fun _ => chs (mks ma)) (f := fun x y => .tup [x, y]) (p := fun x y => onChB (fun a => onChB (fun b => ltC a b && !decide (lk ma a = lk ma b)) y) x) E2 (ei_lst (ev_sortedM (ev_var E2 rfl) (by omega))) (by rw [chs_len, mks_len, sizeLine_eq]; omega) (fun _ _ => by rw [chs_len, mks_len]; exact ml) (wipe2 (by decide)) (wipe1 7) (fun d F' σ' _ _ E' => ei_lst (ev_sortedM (ev_var E' rfl) (by omega))) ?_ ?_) ?_) fun F3 H3 σ3 x3 E3 => ?_
  · intro d e F' σ' hd he _ E'
    obtain ⟨a, ha, rfl⟩ := List.mem_map.mp hd
    obtain ⟨b, hb, rfl⟩ := List.mem_map.mp he
    obtain ⟨wa, ga⟩ := mks_mem ha
    obtain ⟨wb, gb⟩ := mks_mem hb
    have la := lk_self ok.mn ga
    have lb := lk_self ok.mn gb
    refine et_is (et_and (et_test (ev_op (ev_var E' rfl) (ev_var E' rfl) rv_lt_str)) fun _ => et_test (ev_op (ev_op (d := .int (wa : Nat)) (ev_var E' rfl) (ev_var E' rfl) (rv_ix_dic (es := maE ma) (k := .inr ⟨#[a]⟩) rfl (by rw [valD_ma, la]; rfl))) (ev_op (d := .int (wb : Nat)) (ev_var E' rfl) (ev_var E' rfl) (rv_ix_dic (es := maE ma) (k := .inr ⟨#[b]⟩) rfl (by rw [valD_ma, lb]; rfl))) rvA_ne_int)) ?_
    show (decide ([a] < [b]) && !decide ((wa : Int) = wb)) = (ltC a b && !decide (lk ma a = lk ma b))
    have la' : lk ma a = some wa := la
    have lb' : lk ma b = some wb := lb
    rw [la', lb']
    unfold ltC
    by_cases e : wa = wb
    · subst e; simp
    · have : ¬ ((wa : Int) = wb) := by omega
      simp [e, this]
  · intro d e F' σ' hd he _ E' _
    exact ev_tup (ea_cons (ev_var E' rfl) (ea_cons (ev_var E' rfl) ea_nil)) sz2
  · unfold mm chs
    rw [List.flatMap_map, List.map_flatMap]
    congr 2
    funext a
    rw [List.filter_map, List.map_map, List.map_map]
    rfl
  have lm := mm_len ma
  have lm2 : ma.length * ma.length ≤ 64 := Nat.mul_le_mul ml ml
  refine s_ret x3.s (ev_is (ev_op (ev_var (i := 1) E3 rfl) (el_lcY (f := onPair fun a b => pairD (a ++ b, b ++ a)) (fun d r => match d with | .tup [a, b] => (r.set 6 (.d a)).set 7 (.d b) | _ => r) E3 (ei_lst (ev_var (i := 2) E3 rfl)) ?_ ?_ ?_).toD (rv_add_lst ?_)) ?_) fun v F4 H4 x4 => k v F4 H4 (((x1.tr x2).tr x3).tr x4)
  · rw [List.length_map, sizeLine_eq]; omega
  · intro d hd
    obtain ⟨p, hp, rfl⟩ := List.mem_map.mp hd
    exact tw_two (by decide) (by decide)
  · intro d F' σ' hd _ E'
    obtain ⟨p, hp, rfl⟩ := List.mem_map.mp hd
    have e1 := str_two p.1 p.2
    have e2 := str_two p.2 p.1
    show EvD K _ σ' F' (.tup [.str ⟨#[p.1, p.2]⟩, .str ⟨#[p.2, p.1]⟩])
    rw [← e1, ← e2]
    exact ev_tup (ea_cons (ev_op (ev_var E' rfl) (ev_var E' rfl) (rv_add_str sz2)) (ea_cons (ev_op (ev_var E' rfl) (ev_var E' rfl) (rv_add_str sz2)) ea_nil)) sz2
  · unfold prF
    rw [List.length_map, List.length_map, List.length_map, List.length_map, fks_len, sizeLine_eq]; omega
  · unfold prs prM
    rw [List.map_append, List.map_map, List.map_map]
    rfl
theorem rd_failing {C : Addr} (c : Cls K C) (na : NoAttr K C "rule") (h : spFL K 2 (R_failing C) vs H Q E) : t_failing K (spR K 1 R_exchange_pairs) (spR K 3 R_are_one) { nx := fun _ H' => Q .non H', rt := Q } (start N_failing vs) H := by
  obtain ⟨F, ds, es, S, l, ⟨fo, ma, fo', ma', ok, ok', rfl, rfl⟩, hn, k⟩ := h
  obtain ⟨v, w, rfl, hv, hw⟩ : ∃ v w, vs = [v, w] ∧ Den K F v (tabD C fo ma) ∧ Den K F w (tabD C fo' ma') := by
    cases l with
    | cons a t => cases t with
      | cons b t => cases t; exact ⟨_, _, rfl, a, b⟩
  have E1 : EnvD K F [.d (tabD C fo ma), .d (tabD C fo' ma'), .u] (start N_failing [v, w]) := .cons ⟨v, rfl, hv⟩ (.cons ⟨w, rfl, hw⟩ (.cons trivial .nil))
  have fl := ok.fl
  have ml := ok.ml
  have lm := mm_len ma
  have lm2 : ma.length * ma.length ≤ 64 := Nat.mul_le_mul ml ml
  refine s_retL S (el_is (el_lcG (f := fun d => d) (pp := onPairB fun a b => !isOne fo' ma' (a, b)) (fun d r => r.set 2 (.d d)) E1 (ei_lst (ev_callR (ds := [ruleD fo ma]) (ea_cons (ev_fld c na (ev_var E1 rfl) rfl) ea_nil) ⟨fo, ma, ok, rfl, rfl⟩ rfl)) ?_ (fun d _ => tw_name (by decide)) ?_ fun d F' σ' _ _ E' _ => ev_var E' rfl) ?_) k
  · unfold prs prF prM
    rw [List.length_map, List.length_append, List.length_map, List.length_map, fks_len, sizeLine_eq]; omega
  · intro d F' σ' hd _ E'
    obtain ⟨p, hp, rfl⟩ := List.mem_map.mp hd
    obtain ⟨h1, h2, _, h3, _, h4⟩ := prs_ok ok hp
    exact et_is (et_not (et_B (ev_callR (ds := [ruleD fo' ma', txt p.1, txt p.2]) (ea_cons (ev_fld c na (ev_var E' rfl) rfl) (ea_star_tup (ds := [txt p.1, txt p.2]) (ev_var E' rfl) ea_nil)) ⟨fo', ma', p, ok', ⟨h1, h2, by omega, by omega⟩, rfl, rfl⟩ rfl))) rfl
  · unfold fails
    rw [List.map_id', List.filter_map]
    rfl
end
end Nm

set_option Elab.async false
set_option linter.all false
set_option maxRecDepth 100000
set_option maxHeartbeats 400000
namespace Nm
open PySem PySem.Spec L2
local macro_rules | `(tactic| walk_at "ev") => `(tactic| first
  | (with_reducible apply ev_var; assumption; with_unfolding_all rfl)
  | (with_reducible apply ev_c; first | with_reducible exact Den.int _ | with_reducible exact Den.str _ | with_reducible exact Den.bl _ | with_reducible exact Den.non | with_reducible exact Den.ty _)
  | with_reducible exact ea_nil
  | (with_reducible apply ea_cons; walk_at "ev"; walk_at "ev")
  | (with_reducible apply ev_op; walk_at "ev"; walk_at "ev"; walk_at "rv")
  | (with_reducible apply ev_cb; walk_at "ev"; walk_at "rv")
  | (with_reducible apply ev_lst; walk_at "ev"; walk_at "sz")
  | (with_reducible apply ev_tup; walk_at "ev"; walk_at "sz")
  | (with_reducible apply ev_un; walk_at "ev"; walk_at "rv")
  | (with_reducible apply ev_chainU; walk_at "ev"; walk_at "ev"; walk_at "rv"; walk_at "ev"; walk_at "rv")
  | with_reducible exact ev_dnew
  | with_reducible exact ev_disp1 (fun _ => Den.str _)
  | (with_reducible apply et_test; walk_at "ev")
  | (with_reducible apply et_B; walk_at "ev")
  | (with_reducible apply et_not; walk_at "ev")
  | (with_reducible apply ev_not; walk_at "ev")
  | (with_reducible apply ev_sl_str; walk_at "ev"; walk_at "ev"; walk_at "ev"; walk_at "sz")
  | (with_reducible apply eo_some; walk_at "ev")
  | with_reducible exact eo_none)
local macro_rules | `(tactic| walk_at "rv") => `(tactic| first
  | with_reducible exact rv_add_int | (with_reducible apply rv_add_str; walk_at "sz") | (with_reducible apply rv_add_lst; walk_at "sz")
  | with_reducible exact rv_lt_int | with_reducible exact rv_le_int | with_reducible exact rv_gt_int | with_reducible exact rv_ge_int
  | with_reducible exact rvA_eq_int | with_reducible exact rvA_eq_str | with_reducible exact rvA_ne_int | with_reducible exact rvA_ne_str
  | (with_reducible apply rv_mul_int; walk_at "mul")
  | with_reducible exact rv_in_sign | (with_reducible apply rc_len_str; walk_at "sz") | with_reducible exact rc_len_lst | with_reducible exact rc_len_tup
  | with_reducible exact rc_abs | with_reducible exact rc_max2 | with_reducible exact rc_min2
  | with_reducible exact rc_all | with_reducible exact rc_any | with_reducible exact ru_neg
  | (with_reducible apply rc_isiA; with_unfolding_all rfl; decide +kernel)
  | (with_reducible apply rv_ix_lst; with_unfolding_all rfl) | (with_reducible apply rv_ix_tup; with_unfolding_all rfl)
  | (with_reducible apply rv_I; first | walk_at "sd" | (unfold CPow; decide) | (unfold CDiv; first | decide | omega)))
local macro_rules | `(tactic| walk_at "sz") => `(tactic| first | assumption | (rw [sizeLine_eq]; omega) | (rw [sizeLine_eq]; decide) | (simp [sizeLine_eq]; done))
local macro_rules | `(tactic| walk_at "sd") => `(tactic| first | assumption | omega | decide)
local macro_rules | `(tactic| walk_at "mul") => `(tactic| first | exact Or.inl ⟨by omega, by omega⟩ | exact Or.inr ⟨by omega, by omega⟩)
/-! ### the law's failing pairs -/
def R_law_due (ds : List D) (d : D) : Prop := ∃ fo ma fo' ma', okTab isSignC fo ma ∧ okTab isSignC fo' ma' ∧ ds = [ruleD fo ma, ruleD fo' ma'] ∧ d = .lst ((fails fo ma fo' ma').map pairD)
def swp (a b : Nat) : List Nat × List Nat := ([a, b], [b, a])
def inn (ma : Ma) (fo' : Fo) (ma' : Ma) (a b : Nat) : Bool := (ltC a b && !decide (lk ma a = lk ma b)) && !isOne fo' ma' (swp a b)
theorem fails_eq (fo : Fo) (ma : Ma) (fo' : Fo) (ma' : Ma) : fails fo ma fo' ma' = (prF fo).filter (fun p => !isOne fo' ma' p) ++ (mks ma).flatMap fun a => ((mks ma).filter (inn ma fo' ma' a)).map (swp a) := by
  unfold fails prs
  rw [List.filter_append]
  congr 1
  unfold prM mm
  rw [List.map_flatMap, List.filter_flatMap]
  congr 1
  funext a
  rw [List.map_map, List.filter_map, List.filter_filter]
  unfold inn
  congr 1
  apply List.filter_congr
  intro b _
  exact Bool.and_comm _ _
section
variable {K : PySem.W.Frag} {vs : List V} {H : Hp} {Q : VK} {E : XK}
theorem rd_law_due (h : spR K 2 R_law_due vs H Q E) : t_law_due K (spR K 2 R_key_of) { nx := fun _ H' => Q .non H', rt := Q } (start N_law_due vs) H := by
  obtain ⟨F, v, w, x, y, d, rfl, S, hv, hw, ⟨fo, ma, fo', ma', ok, ok', e, rfl⟩, k⟩ := spR2 h
  cases e
  have fl := ok.fl
  have ml := ok.ml
  have E1 : EnvD K F [.d (ruleD fo ma), .d (ruleD fo' ma'), .u, .u, .u, .u, .u, .u] (start N_law_due [v, w]) := .cons ⟨v, rfl, hv⟩ (.cons ⟨w, rfl, hw⟩ (.cons trivial (.cons trivial (.cons trivial (.cons trivial (.cons trivial (.cons trivial .nil)))))))
  refine q_asgG (d := ruleD fo ma) S E1 (ev_var E1 rfl) tg_two fun F1 H1 σ1 x1 E1 => ?_
  have hkey : ∀ {te : TE} {σ : L2.St} {F : Hp} {r : List Sl} {l : List Nat}, EnvD K F r σ → r[1]? = some (.d (ruleD fo' ma')) → EvD K te σ F (txt l) → (∀ c ∈ l, isSignC c = true) → l.length ≤ 3000 → EvD K (tCall (spR K 2 R_key_of) [] E0 (tCons (tVar 1) (tCons te tNil))) σ F (txt (key fo' ma' l)) := fun E' h1 h2 h3 h4 => ev_callR (ds := [ruleD fo' ma', txt _]) (ea_cons (ev_var E' h1) (ea_cons h2 ea_nil)) ⟨fo', ma', _, ok', h3, h4, rfl, rfl⟩ rfl
  have L1 : EvL K (tLc (iSeq K (tCB (rSortedA K) (tCons (tVar 4) tNil))) (gName 7) (tTest (tOp (rNeA K) (tCall (spR K 2 R_key_of) [] E0 (tCons (tVar 1) (tCons (tVar 7) tNil))) (tCall (spR K 2 R_key_of) [] E0 (tCons (tVar 1) (tCons (tOp (rIxA K) (tVar 4) (tVar 7)) tNil))))) (tTup (tCons (tVar 7) (tCons (tOp (rIxA K) (tVar 4) (tVar 7)) tNil))) [7]) σ1 F1 (((prF fo).filter (fun p => !isOne fo' ma' p)).map pairD) := by
    refine el_is (el_lcG (f := onCh fun c => pairD ([c], foldS fo c)) (pp := onChB fun c => !isOne fo' ma' ([c], foldS fo c)) (fun d r => r.set 7 (.d d)) E1 (ei_lst (ev_sortedF (ev_var E1 rfl) (by omega))) (by rw [chs_len, fks_len, sizeLine_eq]; omega) (fun d _ => tw_name (by decide)) ?_ ?_) ?_
    · intro d F' σ' hd _ E'
      obtain ⟨c, hc, rfl⟩ := List.mem_map.mp hd
      obtain ⟨w, hw⟩ := fks_mem hc
      have hl := lk_self ok.fn hw
      have e : foldS fo c = w := foldS_some hl
      have ws := ok.fw _ hw
      refine et_test (ev_is (ev_op (hkey (l := [c]) E' rfl (ev_var E' rfl) (fun d hd => by simp at hd; subst hd; exact ok.fs _ hw) (by simp)) (hkey (l := w) E' rfl (ev_op (ev_var E' rfl) (ev_var E' rfl) (rv_ix_dic (es := foE fo) (k := .inr ⟨#[c]⟩) rfl (by rw [valD_fo, hl]; rfl))) (fun d hd => (ws.2.2 d hd).1) (by have h2 : w.length ≤ 3 := ws.2.1; omega)) rvA_ne_str) ?_)
      show _ = D.bl (!isOne fo' ma' ([c], foldS fo c))
      unfold isOne
      rw [e, dec_txt]
    · intro d F' σ' hd _ E' _
      obtain ⟨c, hc, rfl⟩ := List.mem_map.mp hd
      obtain ⟨w, hw⟩ := fks_mem hc
      have hl := lk_self ok.fn hw
      have e : foldS fo c = w := foldS_some hl
      show EvD K _ σ' F' (.tup [txt [c], txt (foldS fo c)])
      rw [e]
      exact ev_tup (ea_cons (ev_var E' rfl) (ea_cons (ev_op (ev_var E' rfl) (ev_var E' rfl) (rv_ix_dic (es := foE fo) (k := .inr ⟨#[c]⟩) rfl (by rw [valD_fo, hl]; rfl))) ea_nil)) sz2
    · unfold chs prF
      rw [List.filter_map, List.filter_map, List.map_map, List.map_map]
      rfl
  refine q_asgL x1.s E1 L1 fun p xs F2 H2 σ2 hp x2 o2 l2 E2 => ?_
  have hpH : H p = none := x1.back hp
  have len0 : xs.length ≤ 40 := by
    have := l2.length
    rw [List.length_map] at this
    have h2 := List.length_filter_le (fun p => !isOne fo' ma' p) (prF fo)
    unfold prF at h2 this
    rw [List.length_map, fks_len] at h2
    omega
  refine q_for [p] (fun i F' H' r => ∃ xs a b e, r = [.d (ruleD fo ma), .d (ruleD fo' ma'), .v (.ref p), a, .d (foD fo), .d (maD ma), b, e] ∧ Own F' H' p (.lst xs) ∧ DenL K F' xs (((prF fo).filter (fun p => !isOne fo' ma' p) ++ (((mks ma).take i).flatMap fun a => ((mks ma).filter (inn ma fo' ma' a)).map (swp a))).map pairD) ∧ xs.length ≤ 40 + 8 * i)
    x2.s E2 (ei_lst (ev_sortedM (ev_var E2 rfl) (by omega))) (fun F' H' x => ⟨xs, _, _, _, rfl, o2.ext0 x, by simpa using l2.up x.f, by omega⟩) ?_ ?_
  · rintro i d F3 H3 F4 H4 r' σ4 N hd y3 ⟨xs3, a3, b3, e3, rfl, o3, l3, hz3⟩ y4 E4 nx
    unfold chs at hd
    rw [List.getElem?_map] at hd
    obtain ⟨a, ha, rfl⟩ := Option.map_eq_some_iff.mp hd
    have ham : a ∈ mks ma := List.mem_of_getElem? ha
    have hi : i < 8 := by have := (List.getElem?_eq_some_iff.mp ha).1; rw [mks_len] at this; omega
    obtain ⟨wa, ga⟩ := mks_mem ham
    have la := lk_self ok.mn ga
    have la' : lk ma a = some wa := la
    refine s_for [p] (fun j F' H' r => ∃ xs b e, r = [.d (ruleD fo ma), .d (ruleD fo' ma'), .v (.ref p), .d (.str ⟨#[a]⟩), .d (foD fo), .d (maD ma), b, e] ∧ Own F' H' p (.lst xs) ∧ DenL K F' xs (((prF fo).filter (fun p => !isOne fo' ma' p) ++ (((mks ma).take i).flatMap fun a => ((mks ma).filter (inn ma fo' ma' a)).map (swp a)) ++ (((mks ma).take j).filter (inn ma fo' ma' a)).map (swp a)).map pairD) ∧ xs.length ≤ 40 + 8 * i + j)
      y4.s E4 (ei_lst (ev_sortedM (ev_var E4 rfl) (by omega))) (fun F' H' x => ⟨xs3, _, _, rfl, (o3.ext0 y4).ext0 x, by simpa using l3.up (y4.f.trans x.f), by omega⟩) ?_ ?_
    · rintro j d F5 H5 F6 H6 r' σ6 N2 hd y5 ⟨xs5, b5, e5, rfl, o5, l5, hz5⟩ y6 E6 nx2
      unfold chs at hd
      rw [List.getElem?_map] at hd
      obtain ⟨b, hb, rfl⟩ := Option.map_eq_some_iff.mp hd
      have hbm : b ∈ mks ma := List.mem_of_getElem? hb
      have hj : j < 8 := by have := (List.getElem?_eq_some_iff.mp hb).1; rw [mks_len] at this; omega
      obtain ⟨wb, gb⟩ := mks_mem hbm
      have lb := lk_self ok.mn gb
      have lb' : lk ma b = some wb := lb
      have sa := (ok.ms _ ga).1
      have sb := (ok.ms _ gb).1
      have o6 := o5.ext0 y6
      have ab : ∀ {F : Hp} {σ : L2.St} {r : List Sl}, EnvD K F r σ → r[3]? = some (.d (.str ⟨#[a]⟩)) → r[6]? = some (.d (.str ⟨#[b]⟩)) → EvD K (tOp (rAddA K) (tVar 3) (tVar 6)) σ F (txt [a, b]) := fun E' h1 h2 => ev_is (ev_op (ev_var E' h1) (ev_var E' h2) (rv_add_str sz2)) (congrArg D.str (str_two a b))
      have ba : ∀ {F : Hp} {σ : L2.St} {r : List Sl}, EnvD K F r σ → r[3]? = some (.d (.str ⟨#[a]⟩)) → r[6]? = some (.d (.str ⟨#[b]⟩)) → EvD K (tOp (rAddA K) (tVar 6) (tVar 3)) σ F (txt [b, a]) := fun E' h1 h2 => ev_is (ev_op (ev_var E' h2) (ev_var E' h1) (rv_add_str sz2)) (congrArg D.str (str_two b a))
      refine s_if (K := K) (b := inn ma fo' ma' a b) y6.s ?_ ?_ ?_
      · refine et_is (et_and (et_test (ev_op (ev_var (i := 3) E6 rfl) (ev_var (i := 6) E6 rfl) rv_lt_str)) fun _ => et_and (et_test (ev_op (ev_op (d := .int (wa : Nat)) (ev_var (i := 5) E6 rfl) (ev_var (i := 3) E6 rfl) (rv_ix_dic (es := maE ma) (k := .inr ⟨#[a]⟩) rfl (by rw [valD_ma, la]; rfl))) (ev_op (d := .int (wb : Nat)) (ev_var (i := 5) E6 rfl) (ev_var (i := 6) E6 rfl) (rv_ix_dic (es := maE ma) (k := .inr ⟨#[b]⟩) rfl (by rw [valD_ma, lb]; rfl))) rvA_ne_int)) fun _ => et_test (ev_op (hkey (l := [a, b]) E6 rfl (ab E6 rfl rfl) (fun d hd => by simp at hd; rcases hd with rfl | rfl <;> assumption) (by simp)) (hkey (l := [b, a]) E6 rfl (ba E6 rfl rfl) (fun d hd => by simp at hd; rcases hd with rfl | rfl <;> assumption) (by simp)) rvA_ne_str)) ?_
        show (decide ([a] < [b]) && (!decide ((wa : Int) = wb) && _)) = _
        unfold inn ltC isOne swp
        rw [la', lb', dec_txt]
        by_cases e : wa = wb
        · subst e; simp
        · have : ¬ ((wa : Int) = wb) := by omega
          simp [e, this]
      · intro hin F7 H7 y7
        refine s_app (d := pairD (swp a b)) y7.s (E6.up y7.f) rfl (o6.ext0 y7) (ev_tup (ea_cons (ab (E6.up y7.f) rfl rfl) (ea_cons (ba (E6.up y7.f) rfl rfl) ea_nil)) sz2) (by omega) fun v F8 H8 y8 o8 dv => ?_
        have y9 := o8.set (u := .lst (xs5 ++ [v])) y8.s
        refine nx2 F8 _ _ _ ((y7.tr y8).tr y9) ((E6.up y7.f).up y8.f) ⟨xs5 ++ [v], _, _, rfl, ⟨o8.f, upd_same⟩, ?_, by simp; omega⟩
        rw [take_succ' hb, List.filter_append, List.filter_cons, if_pos hin]
        simp only [List.map_append, List.map_cons, List.map_nil, List.filter_nil]
        have l8 := l5.up ((y6.f.trans y7.f).trans y8.f)
        simp only [List.map_append] at l8
        have := l8.append (.cons dv .nil)
        simpa [List.append_assoc] using this
      · intro hin F7 H7 y7
        refine nx2 F7 H7 _ _ (y7.wide (by simp)) (E6.up y7.f) ⟨xs5, _, _, rfl, o6.ext0 y7, ?_, by omega⟩
        rw [take_succ' hb, List.filter_append, List.filter_cons, if_neg (by rw [hin]; decide)]
        simpa using l5.up (y6.f.trans y7.f)
    · rintro F5 H5 r' σ5 y5 E5 ⟨xs5, b5, e5, rfl, o5, l5, hz5⟩
      rw [chs_len, List.take_length, mks_len] at *
      refine nx F5 H5 _ _ y5 E5 ⟨xs5, _, _, _, rfl, o5, ?_, by omega⟩
      rw [take_succ' ha, List.flatMap_append, List.flatMap_cons, List.flatMap_nil, List.append_nil, ← List.append_assoc]
      exact l5
  · rintro F3 H3 r' σ3 y3 E3 ⟨xs3, a3, b3, e3, rfl, o3, l3, hz3⟩
    rw [chs_len, List.take_length, ← fails_eq] at l3
    have xx : Ext [] F H F3 H3 := Ext.drop (x1.tr x2) y3 (by intro a ha; simp at ha; subst ha; exact .inr hpH)
    have z1 := Ext.freeze xx hpH o3.h o3.f
    have g1 : Same F3 (upd F3 p (.lst xs3)) := same_new o3.f
    have E4 := (E3.up g1).seeV (i := 2) rfl (.lst upd_same (l3.up g1))
    exact s_ret z1.s (ev_var (i := 2) E4 rfl) fun v F4 H4 y4 dv => k v F4 H4 (z1.tr y4) dv
end
end Nm

set_option Elab.async false
set_option linter.all false
set_option maxRecDepth 100000
set_option maxHeartbeats 400000
namespace Nm
open PySem PySem.Spec L2
local macro_rules | `(tactic| walk_at "ev") => `(tactic| first
  | (with_reducible apply ev_var; assumption; with_unfolding_all rfl)
  | (with_reducible apply ev_c; first | with_reducible exact Den.int _ | with_reducible exact Den.str _ | with_reducible exact Den.bl _ | with_reducible exact Den.non | with_reducible exact Den.ty _)
  | with_reducible exact ea_nil
  | (with_reducible apply ea_cons; walk_at "ev"; walk_at "ev")
  | (with_reducible apply ev_op; walk_at "ev"; walk_at "ev"; walk_at "rv")
  | (with_reducible apply ev_cb; walk_at "ev"; walk_at "rv")
  | (with_reducible apply ev_lst; walk_at "ev"; walk_at "sz")
  | (with_reducible apply ev_tup; walk_at "ev"; walk_at "sz")
  | (with_reducible apply ev_un; walk_at "ev"; walk_at "rv")
  | (with_reducible apply ev_chainU; walk_at "ev"; walk_at "ev"; walk_at "rv"; walk_at "ev"; walk_at "rv")
  | with_reducible exact ev_dnew
  | with_reducible exact ev_disp1 (fun _ => Den.str _)
  | (with_reducible apply et_test; walk_at "ev")
  | (with_reducible apply et_B; walk_at "ev")
  | (with_reducible apply et_not; walk_at "ev")
  | (with_reducible apply ev_not; walk_at "ev")
  | (with_reducible apply ev_sl_str; walk_at "ev"; walk_at "ev"; walk_at "ev"; walk_at "sz")
  | (with_reducible apply eo_some; walk_at "ev")
  | with_reducible exact eo_none)
local macro_rules | `(tactic| walk_at "rv") => `(tactic| first
  | with_reducible exact rv_add_int | (with_reducible apply rv_add_str; walk_at "sz") | (with_reducible apply rv_add_lst; walk_at "sz")
  | with_reducible exact rv_lt_int | with_reducible exact rv_le_int | with_reducible exact rv_gt_int | with_reducible exact rv_ge_int
  | with_reducible exact rvA_eq_int | with_reducible exact rvA_eq_str | with_reducible exact rvA_ne_int | with_reducible exact rvA_ne_str
  | (with_reducible apply rv_mul_int; walk_at "mul")
  | with_reducible exact rv_in_sign | (with_reducible apply rc_len_str; walk_at "sz") | with_reducible exact rc_len_lst | with_reducible exact rc_len_tup
  | with_reducible exact rc_abs | with_reducible exact rc_max2 | with_reducible exact rc_min2
  | with_reducible exact rc_all | with_reducible exact rc_any | with_reducible exact ru_neg
  | (with_reducible apply rc_isiA; with_unfolding_all rfl; decide +kernel)
  | (with_reducible apply rv_ix_lst; with_unfolding_all rfl) | (with_reducible apply rv_ix_tup; with_unfolding_all rfl)
  | (with_reducible apply rv_I; first | walk_at "sd" | (unfold CPow; decide) | (unfold CDiv; first | decide | omega)))
local macro_rules | `(tactic| walk_at "sz") => `(tactic| first | assumption | (rw [sizeLine_eq]; omega) | (rw [sizeLine_eq]; decide) | (simp [sizeLine_eq]; done))
local macro_rules | `(tactic| walk_at "sd") => `(tactic| first | assumption | omega | decide)
local macro_rules | `(tactic| walk_at "mul") => `(tactic| first | exact Or.inl ⟨by omega, by omega⟩ | exact Or.inr ⟨by omega, by omega⟩)
/-! ### the law -/
theorem key7_sign : ∀ c ∈ key7, isSignC c = true := by decide +kernel
theorem sig7_sign : ∀ c ∈ sig7, isSignC c = true := by decide +kernel
theorem mrk4_sign : ∀ c ∈ mrk4, isSignC c = true := by decide +kernel
theorem sig7_key : ∀ c ∈ sig7, c ∉ key7 := by decide +kernel
theorem mrk4_key : ∀ c ∈ mrk4, c ∉ key7 := by decide +kernel
theorem drawn_ok {fo fo' : Fo} {ma ma' : Ma} (h : Drawn fo ma) (h' : Drawn fo' ma') : okTab isSignC fo ma' := by
  have lkn : ∀ c, c ∉ key7 → lk fo c = none := fun c hc => lk_none.mpr fun z => hc (h.fk.subset z)
  have fl := h.fk.length_le
  have ml := h'.mq.length_le
  rw [List.length_map] at fl ml
  have e1 : key7.length = 7 := rfl
  have e2 : mrk4.length = 4 := rfl
  refine ⟨h.fk.nodup (by decide), h'.mq.nodup (by decide), fun p hp => key7_sign _ (h.fk.subset (List.mem_map.mpr ⟨p, hp, rfl⟩)), fun p hp => ?_, fun p hp => ?_, by omega, by omega⟩
  · obtain ⟨h1, h2, h3⟩ := h.fw p hp
    exact ⟨h1, h2, fun c hc => ⟨sig7_sign c (h3 c hc), lkn c (sig7_key c (h3 c hc))⟩⟩
  · have hm : p.1 ∈ mrk4 := h'.mq.subset (List.mem_map.mpr ⟨p, hp, rfl⟩)
    exact ⟨mrk4_sign _ hm, h'.mc p hp, lkn _ (mrk4_key _ hm)⟩
theorem drawn_nil : Drawn [] [] := ⟨by simp, by simp, by simp, by simp⟩
abbrev Ru := Fo × Ma
def ruD (r : Ru) : D := ruleD r.1 r.2
def taD (C : Addr) (r : Ru) : D := tabD C r.1 r.2
def mkT (C : Addr) : D → D
  | .tup [a, b] => .obj C [("rule", .tup [a, b])]
  | _ => .non
theorem fails_ok {fo fo' : Fo} {ma ma' : Ma} (ok : okTab isSignC fo ma) : txtD (.lst ((fails fo ma fo' ma').map pairD)) = true ∧ dp (.lst ((fails fo ma fo' ma').map pairD)) ≤ 2 ∧ wt (.lst ((fails fo ma fo' ma').map pairD)) ≤ 16777216 := by
  have sm : ∀ c, isSignC c = true → c < 1114112 := fun c hc => by
    have : ∀ c ∈ allS.cps.toList, c < 1114112 := by decide +kernel
    exact this c (of_decide_eq_true hc)
  refine pairs_ok (fun p hp => ?_) ?_
  · obtain ⟨h1, h2, h3, h4, h5, h6⟩ := prs_ok ok ((List.mem_filter.mp hp).1)
    exact ⟨⟨by omega, by omega⟩, fun c hc => sm c (h1 c hc), fun c hc => sm c (h2 c hc)⟩
  · have h := List.length_filter_le (fun p => !isOne fo' ma' p) (prs fo ma)
    have fl := ok.fl
    have ml := ok.ml
    have lm := mm_len ma
    have lm2 : ma.length * ma.length ≤ 64 := Nat.mul_le_mul ml ml
    have e : (prs fo ma).length = fo.length + (mm ma).length := by unfold prs prF prM; rw [List.length_append, List.length_map, List.length_map, fks_len]
    unfold fails
    omega
section
variable {K : PySem.W.Frag} {vs : List V} {H : Hp} {Q : VK} {E : XK}
theorem rd_law {C : Addr} (h : spLaw K vs H Q E) : t_law K C (spFL K 2 (R_failing C)) (spR K 2 R_law_due) (spIR K C 2 R_init) (spRule K) (spBag K) { nx := fun _ H' => Q .non H', rt := Q } (start N_law vs) H := by
  obtain ⟨a, ns, rfl, hs, hlen, k⟩ := h
  have S0 : Same H H := Same.refl H
  have E0 : EnvD K H [.v (.ref a), .u, .u, .u, .u, .u, .u, .u, .u, .u, .u, .u] (start N_law [.ref a]) :=
    .cons rfl (.cons trivial (.cons trivial (.cons trivial (.cons trivial (.cons trivial (.cons trivial (.cons trivial (.cons trivial (.cons trivial (.cons trivial (.cons trivial .nil)))))))))))
  refine q_cells (R := fun r => ∃ s1 s2 s3 s4 s5 s6 s7 s8 s9 s10 s11, r = [.v (.ref a), s1, s2, s3, s4, s5, s6, s7, s8, s9, s10, s11]) S0 E0 hs hlen ⟨by decide, by decide⟩ ⟨by decide, by decide⟩ ?_ ?_ (by decide) ⟨_, _, _, _, _, _, _, _, _, _, _, rfl⟩ ?_ ?_
  · rintro r ⟨s1, s2, s3, s4, s5, s6, s7, s8, s9, s10, s11, rfl⟩; rfl
  · rintro r ⟨s1, s2, s3, s4, s5, s6, s7, s8, s9, s10, s11, rfl⟩; show 1 < 12; decide
  · rintro m F1 H1 b r' σ1 N g1 S1 ⟨s1, s2, s3, s4, s5, s6, s7, s8, s9, s10, s11, rfl⟩ w1 E1 kN
    have E1 : EnvD K F1 [.v (.ref a), .d (.int (m : Nat)), .v (.ref b), s3, s4, s5, s6, s7, s8, s9, s10, s11] σ1 := E1
    refine s_turns (b := b) (n := 0) (R := fun r => ∃ s3 s4 s5 s6 s7 s8 s9 s10 s11, r = [.v (.ref a), .d (.int (m : Nat)), .v (.ref b), s3, s4, s5, s6, s7, s8, s9, s10, s11]) 86 S1 E1 (w1.less ?_) (ei_rng1 (n := 2) (ea_cons (ev_c (.int 2)) ea_nil) (by decide) (by decide)) ⟨_, _, _, _, _, _, _, _, _, rfl⟩ ?_ ?_
    · rw [List.length_map, List.length_range]; decide
    · rintro d F2 H2 r' σ2 n N2 hd g2 S2 ⟨s3, s4, s5, s6, s7, s8, s9, s10, s11, rfl⟩ w2 E2 kN2
      clear E1 w1
      have E2 : EnvD K F2 [.v (.ref a), .d (.int (m : Nat)), .v (.ref b), .d d, s4, s5, s6, s7, s8, s9, s10, s11] σ2 := E2
      refine q_asgLB (b := b) (n := n) (c := 0 + 43 + (0 + 43 + (0 + 0))) (SS := fun ds => ∃ fo ma fo' ma', Drawn fo ma ∧ Drawn fo' ma' ∧ ds = [ruleD fo ma, ruleD fo' ma', ruleD [] []]) S2 E2 (w2.less (by omega))
        (eb_cons (RA := fun d => ∃ fo ma, Drawn fo ma ∧ d = ruleD fo ma) (S := fun ds => ∃ fo ma, Drawn fo ma ∧ ds = [ruleD fo ma, ruleD [] []]) (eb_call (S := fun ds => ds = []) E2 rfl eb_nil ?_ ?_) (eb_cons (RA := fun d => ∃ fo ma, Drawn fo ma ∧ d = ruleD fo ma) (S := fun ds => ds = [ruleD [] []]) (eb_call (S := fun ds => ds = []) E2 rfl eb_nil ?_ ?_) (ea_ofB (ea_cons (ev_tup (ea_cons ev_dnew (ea_cons ev_dnew ea_nil)) sz2) ea_nil)) ?_) ?_) ?_ ?_
      · rintro ds rfl; exact ⟨rfl, trivial⟩
      · rintro ds d rfl h; exact h
      · rintro ds rfl; exact ⟨rfl, trivial⟩
      · rintro ds d rfl h; exact h
      · rintro x xs ⟨fo, ma, h, rfl⟩ rfl; exact ⟨fo, ma, h, rfl⟩
      · rintro x xs ⟨fo, ma, h, rfl⟩ ⟨fo', ma', h', rfl⟩; exact ⟨fo, ma, fo', ma', h, h', rfl⟩
      · rintro ds ⟨fo, ma, fo', ma', h, h', rfl⟩; exact sz3
      rintro p xs ds F3 H3 σ3 ⟨fo0, ma0, fo1, ma1, dr0, dr1, rfl⟩ hp bp x3 w3 o3 l3 E3
      have E3 : EnvD K F3 [.v (.ref a), .d (.int (m : Nat)), .v (.ref b), .d d, .v (.ref p), s5, s6, s7, s8, s9, s10, s11] σ3 := E3
      obtain ⟨v0, v1, v2, rfl, d0, d1, d2⟩ : ∃ v0 v1 v2, xs = [v0, v1, v2] ∧ Den K F3 v0 (ruleD fo0 ma0) ∧ Den K F3 v1 (ruleD fo1 ma1) ∧ Den K F3 v2 (ruleD [] []) := by
        cases l3 with
        | cons a0 t => cases t with
          | cons a1 t => cases t with
            | cons a2 t => cases t; exact ⟨_, _, _, rfl, a0, a1, a2⟩
      have S3 := x3.s
      -- rules.append((rules[0][0], rules[1][1]))
      obtain ⟨u0, au0, du0⟩ := at_ixT (K := K) (i := 0) (at_ix (K := K) (i := 0) o3.h (at_slot (i := 4) E3 rfl) at_c rfl) S3 d0 rfl
      obtain ⟨u1, au1, du1⟩ := at_ixT (K := K) (i := 1) (at_ix (K := K) (i := 1) o3.h (at_slot (i := 4) E3 rfl) at_c rfl) S3 d1 rfl
      refine q_appH (d := ruleD fo0 ma1) E3 rfl o3 (edh_tup2 au0 au1 S3 du0 du1) (by simp) fun v3 F4 H4 x4 o4 d3 => ?_
      have x5 := o4.set (u := .lst ([v0, v1, v2] ++ [v3])) x4.s
      have o5 : Own F4 (upd H4 p (.lst ([v0, v1, v2] ++ [v3]))) p (.lst [v0, v1, v2, v3]) := ⟨o4.f, upd_same⟩
      have w5 : BagAt F4 (upd H4 p (.lst ([v0, v1, v2] ++ [v3]))) b n := (w3.ext0 x4).set (o := .tup []) bp
      have E5 := E3.up x4.f
      have l5 : DenL K F4 [v0, v1, v2, v3] [ruleD fo0 ma0, ruleD fo1 ma1, ruleD [] [], ruleD fo0 ma1] := .cons (d0.up x4.f) (.cons (d1.up x4.f) (.cons (d2.up x4.f) (.cons d3 .nil)))
      -- no mark of the one is a fold of the other
      refine q_ifLend (i := 4) (bb := true) x5.s E5 rfl o5 l5 (fun F' _ E' => ?_) (fun _ F6 H6 x6 o6 => ?_) (fun z => nomatch z)
      · refine et_test (ev_op (ev_is (ev_lcIf (p := fun _ => false) (f := fun d => d) E' (ei_keys (es := maE ma0) (ev_op (d := maD ma0) (ev_op (d := ruleD fo0 ma0) (ev_var E' rfl) (ev_c (.int 0)) (rv_ix_lst rfl)) (ev_c (.int 1)) (rv_ix_tup rfl))) ?_ (wipe1 11) ?_ ?_) (d := .lst []) ?_) (ev_lst ea_nil sz0) (rv_eq_self (d := .lst []) ?_ ?_))
        · have := dr0.mq.length_le
          rw [List.length_map] at this
          have e2 : mrk4.length = 4 := rfl
          unfold maE
          rw [List.length_map, List.length_map, sizeLine_eq]; omega
        · intro d F'' σ'' hd _ E''
          unfold maE at hd
          rw [List.map_map] at hd
          obtain ⟨q, hq, rfl⟩ := List.mem_map.mp hd
          have hm : q.1 ∈ mrk4 := dr0.mq.subset (List.mem_map.mpr ⟨q, hq, rfl⟩)
          have hn : lk fo1 q.1 = none := lk_none.mpr fun z => mrk4_key _ hm (dr1.fk.subset z)
          refine et_is (et_test (ev_op (ev_var E'' rfl) (ev_op (d := foD fo1) (ev_op (d := ruleD fo1 ma1) (ev_var E'' rfl) (ev_c (.int 1)) (rv_ix_lst rfl)) (ev_c (.int 0)) (rv_ix_tup rfl)) (rv_in_dic (es := foE fo1) (k := .inr ⟨#[q.1]⟩) rfl))) ?_
          rw [isSome_fo, hn]; rfl
        · intro d F'' σ'' hd _ E'' z; cases z
        · rw [List.filter_eq_nil_iff.mpr (by simp)]; rfl
        · unfold txtD txtDL; rfl
        · unfold dp dpL; decide
      have S6 := x6.s
      have l6 := l5.up x6.f
      have E6 := E5.up x6.f
      obtain ⟨e0, e1, e2, e3⟩ : Den K F6 v0 (ruleD fo0 ma0) ∧ Den K F6 v1 (ruleD fo1 ma1) ∧ Den K F6 v2 (ruleD [] []) ∧ Den K F6 v3 (ruleD fo0 ma1) := by
        cases l6 with
        | cons a0 t => cases t with
          | cons a1 t => cases t with
            | cons a2 t => cases t with
              | cons a3 t => exact ⟨a0, a1, a2, a3⟩
      obtain ⟨u2, au2, du2⟩ := at_ixT (K := K) (i := 0) (at_ix (K := K) (i := 1) o6.h (at_slot (i := 4) E6 rfl) at_c rfl) S6 e1 rfl
      obtain ⟨u3, au3, du3⟩ := at_ixT (K := K) (i := 1) (at_ix (K := K) (i := 0) o6.h (at_slot (i := 4) E6 rfl) at_c rfl) S6 e0 rfl
      refine s_appH (d := ruleD fo1 ma0) E6 rfl o6 (edh_tup2 au2 au3 S6 du2 du3) (by simp) fun v4 F7 H7 x7 o7 d4 => ?_
      have x8 := o7.set (u := .lst ([v0, v1, v2, v3] ++ [v4])) x7.s
      have w8 : BagAt F7 (upd H7 p (.lst ([v0, v1, v2, v3] ++ [v4]))) b n := ((w5.ext0 x6).ext0 x7).set (o := .tup []) bp
      have o8 : Own F7 (upd H7 p (.lst ([v0, v1, v2, v3] ++ [v4]))) p (.lst [v0, v1, v2, v3, v4]) := ⟨o7.f, upd_same⟩
      obtain ⟨rs, hrs⟩ : ∃ rs : List Ru, rs = [(fo0, ma0), (fo1, ma1), ([], []), (fo0, ma1), (fo1, ma0)] := ⟨_, rfl⟩
      have rok : ∀ r ∈ rs, okTab isSignC r.1 r.2 := by
        intro r hr
        rw [hrs] at hr
        simp only [List.mem_cons, List.not_mem_nil, or_false] at hr
        rcases hr with rfl | rfl | rfl | rfl | rfl
        · exact drawn_ok dr0 dr0
        · exact drawn_ok dr1 dr1
        · exact drawn_ok drawn_nil drawn_nil
        · exact drawn_ok dr0 dr1
        · exact drawn_ok dr1 dr0
      have rlen : rs.length = 5 := by rw [hrs]; rfl
      have l8 : DenL K F7 [v0, v1, v2, v3, v4] (rs.map ruD) := by
        rw [hrs]
        exact .cons (e0.up x7.f) (.cons (e1.up x7.f) (.cons (e2.up x7.f) (.cons (e3.up x7.f) (.cons d4 .nil))))
      -- frozen from here on
      have xa : Ext [b] F2 H2 F7 (upd H7 p (.lst ([v0, v1, v2, v3] ++ [v4]))) := by
        have y1 : Ext [p] F3 H3 F7 (upd H7 p (.lst ([v0, v1, v2, v3] ++ [v4]))) := (((x4.tr x5).tl x6).tl x7).trans x8
        exact x3.dropM y1 (by intro q hq; simp at hq; subst hq; exact .inr hp)
      have xb := Ext.freeze xa hp o8.h o8.f
      have g8 : Same F7 (upd F7 p (.lst [v0, v1, v2, v3, v4])) := same_new o8.f
      have E8 := ((E6.up x7.f).up g8).seeV (i := 4) rfl (.lst upd_same (l8.up g8))
      have w9 := w8.fz (G := upd F7 p (.lst [v0, v1, v2, v3, v4])) (by rw [upd_ne bp]; exact w8.nf)
      clear E3 E5 E6
      show tSeq _ _ _ _ _
      refine q_asg (d := .lst (rs.map (taD C))) xb.s E8 (ev_is (ev_lc (f := mkT C) E8 (ei_lst (ev_var E8 rfl)) (by rw [List.length_map, rlen, sizeLine_eq]; decide) (wipe1 8) fun d F' σ' hd _ E' => ?_) ?_) fun F9 H9 σ9 x9 E9 => ?_
      · obtain ⟨r, hr, rfl⟩ := List.mem_map.mp hd
        exact ev_makeR (ds := [foD r.1, maD r.2]) (ea_cons (ev_op (ev_var E' rfl) (ev_c (.int 0)) (rv_ix_tup (ds := [foD r.1, maD r.2]) rfl)) (ea_cons (ev_op (ev_var E' rfl) (ev_c (.int 1)) (rv_ix_tup (ds := [foD r.1, maD r.2]) rfl)) ea_nil)) ⟨r.1, r.2, rok r hr, rfl, rfl⟩ rfl
      · rw [List.map_map]; rfl
      have E9 : EnvD K F9 [.v (.ref a), .d (.int (m : Nat)), .v (.ref b), .d d, .d (.lst (rs.map ruD)), .d (.lst (rs.map (taD C))), s6, s7, s8, s9, s10, s11] σ9 := E9
      have w10 := w9.ext0 x9
      have xc := xb.tl x9
      have rngE : ∀ {F' : Hp} {σ' : L2.St} {r : List Sl}, EnvD K F' r σ' → r[5]? = some (.d (.lst (rs.map (taD C)))) → EvI K (iRng1 (tCons (tCB (rLenA K) (tCons (tVar 5) tNil)) tNil)) σ' F' ((List.range rs.length).map fun i => .int (i : Nat)) := fun E' h5 => by
        have := ei_rng1 (K := K) (n := ((rs.map (taD C)).length : Nat)) (ea_cons (ev_cb (ea_cons (ev_var E' h5) ea_nil) rc_len_lst) ea_nil) (by rw [List.length_map, rlen]; decide) (by rw [List.length_map, rlen]; decide)
        rw [Int.toNat_natCast, List.length_map] at this
        exact this
      have inR : ∀ {d : D}, d ∈ ((List.range rs.length).map fun i => D.int (i : Nat)) → ∃ (i : Nat) (r : Ru), d = .int (i : Nat) ∧ rs[i]? = some r ∧ r ∈ rs := fun hd => by
        obtain ⟨i, hi, rfl⟩ := List.mem_map.mp hd
        have hi := List.mem_range.mp hi
        exact ⟨i, rs[i], rfl, List.getElem?_eq_getElem hi, List.getElem_mem hi⟩
      refine s_look (K := K) (fun d r => r.set 6 (.d d)) (fun r => ∃ s6 s7 s8 s9 s10 s11, r = [.v (.ref a), .d (.int (m : Nat)), .v (.ref b), .d d, .d (.lst (rs.map ruD)), .d (.lst (rs.map (taD C))), s6, s7, s8, s9, s10, s11]) xc.s E9 (rngE E9 rfl) (fun d _ => tg_name) ⟨_, _, _, _, _, _, rfl⟩ ?_ ?_
      · rintro di Fi Hi r' σi Ni hdi gi Si ⟨s6, s7, s8, s9, s10, s11, rfl⟩ Ei kNi
        obtain ⟨i, ri, rfl, hi, hri⟩ := inR hdi
        have Ei : EnvD K Fi [.v (.ref a), .d (.int (m : Nat)), .v (.ref b), .d d, .d (.lst (rs.map ruD)), .d (.lst (rs.map (taD C))), .d (.int (i : Nat)), s7, s8, s9, s10, s11] σi := Ei
        refine s_look (K := K) (fun d r => r.set 7 (.d d)) (fun r => ∃ s7 s8 s9 s10 s11, r = [.v (.ref a), .d (.int (m : Nat)), .v (.ref b), .d d, .d (.lst (rs.map ruD)), .d (.lst (rs.map (taD C))), .d (.int (i : Nat)), s7, s8, s9, s10, s11]) Si Ei (rngE Ei rfl) (fun d _ => tg_name) ⟨_, _, _, _, _, rfl⟩ ?_ ?_
        · rintro dj Fj Hj r' σj Nj hdj gj Sj ⟨s7, s8, s9, s10, s11, rfl⟩ Ej kNj
          obtain ⟨j, rj, rfl, hj, hrj⟩ := inR hdj
          have Ej : EnvD K Fj [.v (.ref a), .d (.int (m : Nat)), .v (.ref b), .d d, .d (.lst (rs.map ruD)), .d (.lst (rs.map (taD C))), .d (.int (i : Nat)), .d (.int (j : Nat)), s8, s9, s10, s11] σj := Ej
          have ix : ∀ {F' : Hp} {σ' : L2.St} {r : List Sl} {f : Ru → D} {q t c : Nat} {rr : Ru}, EnvD K F' r σ' → r[q]? = some (.d (.lst (rs.map f))) → r[t]? = some (.d (.int (c : Nat))) → rs[c]? = some rr → EvD K (tOp (rIxA K) (tVar q) (tVar t)) σ' F' (f rr) := fun E' h1 h2 h3 => ev_op (ev_var E' h1) (ev_var E' h2) (rv_ix_lst (atI_nat (by rw [List.getElem?_map, h3]; rfl)))
          obtain ⟨fs, hfs⟩ : ∃ fs, fs = (fails ri.1 ri.2 rj.1 rj.2).map pairD := ⟨_, rfl⟩
          obtain ⟨t1, t2, t3⟩ := fails_ok (fo' := rj.1) (ma' := rj.2) (rok ri hri)
          rw [← hfs] at t1 t2 t3
          have okr : okR (.lst fs) = true := okR_txt t1 (by omega) t3
          refine q_asg (d := .lst fs) Sj Ej (ev_callR (ds := [ruD ri, ruD rj]) (ea_cons (ix Ej rfl rfl hi) (ea_cons (ix Ej rfl rfl hj) ea_nil)) ⟨ri.1, ri.2, rj.1, rj.2, rok ri hri, rok rj hrj, rfl, by rw [hfs]⟩ rfl) fun Fk Hk σk xk Ek => ?_
          have Ek : EnvD K Fk [.v (.ref a), .d (.int (m : Nat)), .v (.ref b), .d d, .d (.lst (rs.map ruD)), .d (.lst (rs.map (taD C))), .d (.int (i : Nat)), .d (.int (j : Nat)), s8, .d (.lst fs), s10, s11] σk := Ek
          have fl : ∀ {F' : Hp} {σ' : L2.St} {r : List Sl}, EnvD K F' r σ' → r[5]? = some (.d (.lst (rs.map (taD C)))) → r[6]? = some (.d (.int (i : Nat))) → r[7]? = some (.d (.int (j : Nat))) → EvL K (tCall (spFL K 2 (R_failing C)) [] L2.E0 (tCons (tOp (rIxA K) (tVar 5) (tVar 6)) (tCons (tOp (rIxA K) (tVar 5) (tVar 7)) tNil))) σ' F' fs := fun E' h5 h6 h7 => el_call (ds := [taD C ri, taD C rj]) (ea_cons (ix E' h5 h6 hi) (ea_cons (ix E' h5 h7 hj) ea_nil)) ⟨ri.1, ri.2, rj.1, rj.2, rok ri hri, rok rj hrj, rfl, hfs⟩ rfl
          refine q_asgL xk.s Ek (fl Ek rfl rfl rfl) fun t ts Fl Hl σl ht xl ol ll El => ?_
          have El : EnvD K Fl [.v (.ref a), .d (.int (m : Nat)), .v (.ref b), .d d, .d (.lst (rs.map ruD)), .d (.lst (rs.map (taD C))), .d (.int (i : Nat)), .d (.int (j : Nat)), s8, .d (.lst fs), .v (.ref t), s11] σl := El
          refine q_ifLend (i := 10) (bb := false) xl.s El rfl ol ll (fun F' _ E' => ?_) (fun z => nomatch z) (fun _ Fm Hm xm om => ?_)
          · refine et_is (et_or (et_not (et_B (ev_cb (ea_cons (ev_var E' rfl) (ea_cons (ev_c (.ty _)) ea_nil)) (rc_isiA (t := "list") (b := true) rfl (by decide +kernel))))) fun _ => et_test (ev_op (ev_cb (ea_cons (ev_var E' rfl) ea_nil) (rc_repr okr)) (ev_cb (ea_cons (ev_var E' rfl) ea_nil) (rc_repr okr)) rvA_ne_str)) ?_
            simp
          · have tl : ts.length < 100000 := by
              have := ll.length
              have h2 := List.length_filter_le (fun p => !isOne rj.1 rj.2 p) (prs ri.1 ri.2)
              have ok := rok ri hri
              have fl := ok.fl
              have ml := ok.ml
              have lm := mm_len ri.2
              have lm2 : ri.2.length * ri.2.length ≤ 64 := Nat.mul_le_mul ml ml
              have e : (prs ri.1 ri.2).length = ri.1.length + (mm ri.2).length := by unfold prs prF prM; rw [List.length_append, List.length_map, List.length_map, fks_len]
              rw [hfs, List.length_map] at this
              unfold fails at this
              omega
            refine q_app (d := .str "changed") xm.s (El.up xm.f) rfl om (ev_c (.str _)) tl fun v Fn Hn xn on dv => ?_
            have xo := on.set (u := .lst (ts ++ [v])) xn.s
            have Eo := (El.up xm.f).up xn.f
            have back : ∀ {F' H' : Hp}, Ext [] Fn (upd Hn t (.lst (ts ++ [v]))) F' H' → Ext [] Fj Hj F' H' := fun y => xk.tr (Ext.drop (M := [t]) (Ext.refl xk.s) (((((xl.tr xm).tr xn).tr xo).tl y)) (by intro q hq; simp at hq; subst hq; exact .inr ht))
            refine s_if (K := K) (b := false) xo.s (et_test (ev_op (fl Eo rfl rfl rfl).toD (ev_var Eo rfl) (rv_ne_self t1 (by omega)))) (fun z => nomatch z) (fun _ Fp Hp xp => ?_)
            exact kNj Fp Hp _ _ (back xp) (Eo.up xp.f) ⟨_, _, _, _, _, rfl⟩
        · rintro Fj Hj r' σj xj Ej ⟨s7, s8, s9, s10, s11, rfl⟩
          exact kNi Fj Hj _ _ xj Ej ⟨_, _, _, _, _, _, rfl⟩
      · rintro Fi Hi r' σi xi Ei ⟨s6, s7, s8, s9, s10, s11, rfl⟩
        exact kN2 Fi Hi _ _ (xc.tl xi) (w10.ext0 xi) Ei ⟨_, _, _, _, _, _, _, _, _, rfl⟩
    · rintro F' H' r' σ' x' w' E' ⟨s3, s4, s5, s6, s7, s8, s9, s10, s11, rfl⟩
      exact kN F' H' _ _ x' E' ⟨_, _, _, _, _, _, _, _, _, _, _, rfl⟩
  · rintro F' H' r' σ' _ S' E' _
    exact s_ret (K := K) S' (ev_c (.bl true)) fun v F2 H2 x2 dv => by cases dv; exact k H2
end
end Nm

set_option Elab.async false
set_option linter.all false
set_option maxRecDepth 100000
set_option maxHeartbeats 4000000
namespace Nm
open PySem PySem.Spec L2 PyProof.Rows
section
variable {P : Program} {w : World} {K : PySem.W.Frag} {mg : Str → Option Value} {base : Heap}
theorem ok_is_sign (T : Txt K mg) : FnOk P w K mg base CX0 1 T.a_is_sign T.fd_is_sign P_is_sign (spP K 1 f_is_sign) :=
  T.F_is_sign.ok sc_is_sign (fun vs H Q E h => spP_len h) fun cdv A outer s H vs Q E hr h => ⟨_, d_is_sign T hr , rd_is_sign h⟩
theorem ok_is_class (T : Txt K mg) : FnOk P w K mg base CX0 1 T.a_is_class T.fd_is_class P_is_class (spR K 1 R_is_class) :=
  T.F_is_class.ok sc_is_class (fun vs H Q E h => spR_len h) fun cdv A outer s H vs Q E hr h => ⟨_, d_is_class T hr , rd_is_class T.s_CLASSES h⟩
theorem ok_in_order (T : Txt K mg) : FnOk P w K mg base CX0 1 T.a_in_order T.fd_in_order P_in_order (spR K 2 R_in_order) :=
  T.F_in_order.ok sc_in_order (fun vs H Q E h => spR_len h) fun cdv A outer s H vs Q E hr h => ⟨_, d_in_order T hr , rd_in_order T.s_CLASSES h⟩
theorem ok_exchange_pairs (T : Txt K mg) : FnOk P w K mg base CX0 1 T.a_exchange_pairs T.fd_exchange_pairs P_exchange_pairs (spR K 1 R_exchange_pairs) :=
  T.F_exchange_pairs.ok sc_exchange_pairs (fun vs H Q E h => spR_len h) fun cdv A outer s H vs Q E hr h => ⟨_, d_exchange_pairs T hr , rd_exchange_pairs h⟩
theorem ok_law_bag (T : Txt K mg) : FnOk P w K mg base CX0 1 T.a_law_bag T.fd_law_bag P_law_bag (spBag K) :=
  T.F_law_bag.ok sc_law_bag (fun vs H Q E h => spBag_len h) fun cdv A outer s H vs Q E hr h => ⟨_, d_law_bag T hr , rd_law_bag h⟩
theorem ok_law_take (T : Txt K mg) : FnOk P w K mg base CX0 1 T.a_law_take T.fd_law_take P_law_take (spTake K) :=
  T.F_law_take.ok sc_law_take (fun vs H Q E h => spB_len h) fun cdv A outer s H vs Q E hr h => ⟨_, d_law_take T hr , rd_law_take h⟩
theorem ok_law_key (T : Txt K mg) : FnOk P w K mg base CX0 1 T.a_law_key T.fd_law_key P_law_key (spR K 2 R_key_of) :=
  T.F_law_key.ok sc_law_key (fun vs H Q E h => spR_len h) fun cdv A outer s H vs Q E hr h => ⟨_, d_law_key T hr , rd_law_key h⟩
theorem ok_has_signs (T : Txt K mg) : FnOk P w K mg base CX0 2 T.a_has_signs T.fd_has_signs P_has_signs (spP K 2 f_has_signs) :=
  T.F_has_signs.ok sc_has_signs (fun vs H Q E h => spP_len h) fun cdv A outer s H vs Q E hr h => ⟨_, d_has_signs T hr (ok_is_sign T), rd_has_signs h⟩
theorem ok_look_marks (T : Txt K mg) : FnOk P w K mg base CX0 2 T.a_look_marks T.fd_look_marks P_look_marks (spR K 2 R_look_marks) :=
  T.F_look_marks.ok sc_look_marks (fun vs H Q E h => spR_len h) fun cdv A outer s H vs Q E hr h => ⟨_, d_look_marks T hr (ok_is_class T) (ok_is_sign T), rd_look_marks h⟩
theorem ok_ordered_runs (T : Txt K mg) : FnOk P w K mg base CX0 2 T.a_ordered_runs T.fd_ordered_runs P_ordered_runs (spR K 2 R_ordered_runs) :=
  T.F_ordered_runs.ok sc_ordered_runs (fun vs H Q E h => spR_len h) fun cdv A outer s H vs Q E hr h => ⟨_, d_ordered_runs T hr (ok_in_order T), rd_ordered_runs h⟩
theorem ok_law_rule (T : Txt K mg) : FnOk P w K mg base CX0 2 T.a_law_rule T.fd_law_rule P_law_rule (spRule K) :=
  T.F_law_rule.ok sc_law_rule (fun vs H Q E h => spB_len h) fun cdv A outer s H vs Q E hr h => ⟨_, d_law_rule T hr (ok_law_take T), rd_law_rule h⟩
theorem ok_law_due (T : Txt K mg) : FnOk P w K mg base CX0 2 T.a_law_due T.fd_law_due P_law_due (spR K 2 R_law_due) :=
  T.F_law_due.ok sc_law_due (fun vs H Q E h => spR_len h) fun cdv A outer s H vs Q E hr h => ⟨_, d_law_due T hr (ok_law_key T), rd_law_due h⟩
theorem ok_look_folds (T : Txt K mg) : FnOk P w K mg base CX0 3 T.a_look_folds T.fd_look_folds P_look_folds (spR K 1 R_look_folds) :=
  T.F_look_folds.ok sc_look_folds (fun vs H Q E h => spR_len h) fun cdv A outer s H vs Q E hr h => ⟨_, d_look_folds T hr (ok_has_signs T) (ok_is_sign T), rd_look_folds h⟩
theorem ok_key_of (T : Txt K mg) : FnOk P w K mg base CX0 3 T.a_key_of T.fd_key_of P_key_of (spR K 2 R_key_of) :=
  T.F_key_of.ok sc_key_of (fun vs H Q E h => spR_len h) fun cdv A outer s H vs Q E hr h => ⟨_, d_key_of T hr (ok_ordered_runs T), rd_key_of h⟩
theorem ok_are_one (T : Txt K mg) : FnOk P w K mg base CX0 4 T.a_are_one T.fd_are_one P_are_one (spR K 3 R_are_one) :=
  T.F_are_one.ok sc_are_one (fun vs H Q E h => spR_len h) fun cdv A outer s H vs Q E hr h => ⟨_, d_are_one T hr (ok_key_of T), rd_are_one h⟩
theorem ok_Table___init (T : Txt K mg) : FnOk P w K mg base CX0 4 T.a_Table___init T.fd_Table___init P_Table___init (spIR K T.a_Table 2 R_init) :=
  T.F_Table___init.ok sc_Table___init (fun vs H Q E h => spIR_len h) fun cdv A outer s H vs Q E hr h => ⟨_, d_Table___init T hr (ok_look_marks T) (ok_look_folds T), rd_init T.cl_Table T.na_Table_rule h⟩
theorem ok_failing (T : Txt K mg) : FnOk P w K mg base CX0 5 T.a_failing T.fd_failing P_failing (spFL K 2 (R_failing T.a_Table)) :=
  T.F_failing.ok sc_failing (fun vs H Q E h => spFL_len h) fun cdv A outer s H vs Q E hr h => ⟨_, d_failing T hr (ok_exchange_pairs T) (ok_are_one T), rd_failing T.cl_Table T.na_Table_rule h⟩
theorem ok_law (T : Txt K mg) : FnOkG P w K mg base CX0 6 T.a_law T.fd_law P_law (spLaw K) :=
  fnG0 T.F_law sc_law (fun vs H Q E h => spLaw_len h) fun cdv A outer s H vs Q E g hr h => ⟨_, d_law T hr g (ok_failing T) (ok_law_due T) (ok_Table___init T) (ok_law_rule T) (ok_law_bag T), rd_law h⟩
end
theorem fin {l : PySem.W.OpenLaw} {w : World} {K : PySem.W.Frag} {h : Heap} {mg : Str → Option Value} {fa : Addr} (X : K.In h) (G : h.Ns mainGlobals mg) (hfa : mg "law" = some (.ref fa))
    {C0 : Addr} (aC0 : PySem.W.nsIn K mainGlobals "Table" = some (some (.ref C0))) (pg0 : PySem.W.plainGet K C0 Str.empty = true) (hd0 : PySem.W.hasDictIn K C0 = true) (po0 : PySem.W.plainOver K C0 = true) (sa0 : PySem.W.findIn K (.ref C0) "__setattr__" = some (some (.builtin "object.__setattr__"))) (mk0 : PySem.W.makesIn K C0 = true) (kc0 : PySem.W.keepIn K (.ref C0) = true)
    (na0_rule : PySem.W.findIn K (.ref C0) "rule" = some none)
    {f0 : Addr} {oc0 kV0 dc0 pm0 cd0 ct0 : Value} {od0 an0 : Option Addr} {sl0 : Array (Option Value)} (a0 : PySem.W.nsIn K mainGlobals "is_sign" = some (some (.ref f0))) (l0 : K.lookup f0 = some ⟨oc0, od0, .func (PySem.W.fnOf "is_sign" "is_sign" (defArgs s_is_sign) (defBody s_is_sign) (defScope s_is_sign) .none kV0 dc0 pm0 an0 cd0 ct0), sl0⟩) (c0 : PySem.W.codeIn K cd0 "is_sign" = true) (k0 : PySem.W.keepIn K (.ref f0) = true)
    {f1 : Addr} {oc1 kV1 dc1 pm1 cd1 ct1 : Value} {od1 an1 : Option Addr} {sl1 : Array (Option Value)} (a1 : PySem.W.nsIn K mainGlobals "has_signs" = some (some (.ref f1))) (l1 : K.lookup f1 = some ⟨oc1, od1, .func (PySem.W.fnOf "has_signs" "has_signs" (defArgs s_has_signs) (defBody s_has_signs) (defScope s_has_signs) .none kV1 dc1 pm1 an1 cd1 ct1), sl1⟩) (c1 : PySem.W.codeIn K cd1 "has_signs" = true) (k1 : PySem.W.keepIn K (.ref f1) = true)
    {f2 : Addr} {oc2 kV2 dc2 pm2 cd2 ct2 : Value} {od2 an2 : Option Addr} {sl2 : Array (Option Value)} (a2 : PySem.W.nsIn K mainGlobals "is_class" = some (some (.ref f2))) (l2 : K.lookup f2 = some ⟨oc2, od2, .func (PySem.W.fnOf "is_class" "is_class" (defArgs s_is_class) (defBody s_is_class) (defScope s_is_class) .none kV2 dc2 pm2 an2 cd2 ct2), sl2⟩) (c2 : PySem.W.codeIn K cd2 "is_class" = true) (k2 : PySem.W.keepIn K (.ref f2) = true)
    {f3 : Addr} {oc3 kV3 dc3 pm3 cd3 ct3 : Value} {od3 an3 : Option Addr} {sl3 : Array (Option Value)} (a3 : PySem.W.nsIn K mainGlobals "look_folds" = some (some (.ref f3))) (l3 : K.lookup f3 = some ⟨oc3, od3, .func (PySem.W.fnOf "look_folds" "look_folds" (defArgs s_look_folds) (defBody s_look_folds) (defScope s_look_folds) .none kV3 dc3 pm3 an3 cd3 ct3), sl3⟩) (c3 : PySem.W.codeIn K cd3 "look_folds" = true) (k3 : PySem.W.keepIn K (.ref f3) = true)
    {f4 : Addr} {oc4 kV4 dc4 pm4 cd4 ct4 : Value} {od4 an4 : Option Addr} {sl4 : Array (Option Value)} (a4 : PySem.W.nsIn K mainGlobals "look_marks" = some (some (.ref f4))) (l4 : K.lookup f4 = some ⟨oc4, od4, .func (PySem.W.fnOf "look_marks" "look_marks" (defArgs s_look_marks) (defBody s_look_marks) (defScope s_look_marks) .none kV4 dc4 pm4 an4 cd4 ct4), sl4⟩) (c4 : PySem.W.codeIn K cd4 "look_marks" = true) (k4 : PySem.W.keepIn K (.ref f4) = true)
    {f5 : Addr} {oc5 kV5 dc5 pm5 cd5 ct5 : Value} {od5 an5 : Option Addr} {sl5 : Array (Option Value)} (a5 : PySem.W.nsIn K mainGlobals "in_order" = some (some (.ref f5))) (l5 : K.lookup f5 = some ⟨oc5, od5, .func (PySem.W.fnOf "in_order" "in_order" (defArgs s_in_order) (defBody s_in_order) (defScope s_in_order) .none kV5 dc5 pm5 an5 cd5 ct5), sl5⟩) (c5 : PySem.W.codeIn K cd5 "in_order" = true) (k5 : PySem.W.keepIn K (.ref f5) = true)
    {f6 : Addr} {oc6 kV6 dc6 pm6 cd6 ct6 : Value} {od6 an6 : Option Addr} {sl6 : Array (Option Value)} (a6 : PySem.W.nsIn K mainGlobals "ordered_runs" = some (some (.ref f6))) (l6 : K.lookup f6 = some ⟨oc6, od6, .func (PySem.W.fnOf "ordered_runs" "ordered_runs" (defArgs s_ordered_runs) (defBody s_ordered_runs) (defScope s_ordered_runs) .none kV6 dc6 pm6 an6 cd6 ct6), sl6⟩) (c6 : PySem.W.codeIn K cd6 "ordered_runs" = true) (k6 : PySem.W.keepIn K (.ref f6) = true)
    {f7 : Addr} {oc7 kV7 dc7 pm7 cd7 ct7 : Value} {od7 an7 : Option Addr} {sl7 : Array (Option Value)} (a7 : PySem.W.nsIn K mainGlobals "key_of" = some (some (.ref f7))) (l7 : K.lookup f7 = some ⟨oc7, od7, .func (PySem.W.fnOf "key_of" "key_of" (defArgs s_key_of) (defBody s_key_of) (defScope s_key_of) .none kV7 dc7 pm7 an7 cd7 ct7), sl7⟩) (c7 : PySem.W.codeIn K cd7 "key_of" = true) (k7 : PySem.W.keepIn K (.ref f7) = true)
    {f8 : Addr} {oc8 kV8 dc8 pm8 cd8 ct8 : Value} {od8 an8 : Option Addr} {sl8 : Array (Option Value)} (a8 : PySem.W.nsIn K mainGlobals "exchange_pairs" = some (some (.ref f8))) (l8 : K.lookup f8 = some ⟨oc8, od8, .func (PySem.W.fnOf "exchange_pairs" "exchange_pairs" (defArgs s_exchange_pairs) (defBody s_exchange_pairs) (defScope s_exchange_pairs) .none kV8 dc8 pm8 an8 cd8 ct8), sl8⟩) (c8 : PySem.W.codeIn K cd8 "exchange_pairs" = true) (k8 : PySem.W.keepIn K (.ref f8) = true)
    {f9 : Addr} {oc9 kV9 dc9 pm9 cd9 ct9 : Value} {od9 an9 : Option Addr} {sl9 : Array (Option Value)} (a9 : PySem.W.nsIn K mainGlobals "are_one" = some (some (.ref f9))) (l9 : K.lookup f9 = some ⟨oc9, od9, .func (PySem.W.fnOf "are_one" "are_one" (defArgs s_are_one) (defBody s_are_one) (defScope s_are_one) .none kV9 dc9 pm9 an9 cd9 ct9), sl9⟩) (c9 : PySem.W.codeIn K cd9 "are_one" = true) (k9 : PySem.W.keepIn K (.ref f9) = true)
    {f10 : Addr} {oc10 kV10 dc10 pm10 cd10 ct10 : Value} {od10 an10 : Option Addr} {sl10 : Array (Option Value)} (a10 : PySem.W.findIn K (.ref C0) "__init__" = some (some (.ref f10))) (l10 : K.lookup f10 = some ⟨oc10, od10, .func (PySem.W.fnOf "__init__" "Table.__init__" (defArgs s_Table___init) (defBody s_Table___init) (defScope s_Table___init) .none kV10 dc10 pm10 an10 cd10 ct10), sl10⟩) (c10 : PySem.W.codeIn K cd10 "Table.__init__" = true) (k10 : PySem.W.keepIn K (.ref f10) = true)
    (i10 : PySem.W.isFn K (.ref f10) = true)
    {f11 : Addr} {oc11 kV11 dc11 pm11 cd11 ct11 : Value} {od11 an11 : Option Addr} {sl11 : Array (Option Value)} (a11 : PySem.W.nsIn K mainGlobals "failing" = some (some (.ref f11))) (l11 : K.lookup f11 = some ⟨oc11, od11, .func (PySem.W.fnOf "failing" "failing" (defArgs s_failing) (defBody s_failing) (defScope s_failing) .none kV11 dc11 pm11 an11 cd11 ct11), sl11⟩) (c11 : PySem.W.codeIn K cd11 "failing" = true) (k11 : PySem.W.keepIn K (.ref f11) = true)
    {f12 : Addr} {oc12 kV12 dc12 pm12 cd12 ct12 : Value} {od12 an12 : Option Addr} {sl12 : Array (Option Value)} (a12 : PySem.W.nsIn K mainGlobals "_law_bag" = some (some (.ref f12))) (l12 : K.lookup f12 = some ⟨oc12, od12, .func (PySem.W.fnOf "_law_bag" "_law_bag" (defArgs s_law_bag) (defBody s_law_bag) (defScope s_law_bag) .none kV12 dc12 pm12 an12 cd12 ct12), sl12⟩) (c12 : PySem.W.codeIn K cd12 "_law_bag" = true) (k12 : PySem.W.keepIn K (.ref f12) = true)
    {f13 : Addr} {oc13 kV13 dc13 pm13 cd13 ct13 : Value} {od13 an13 : Option Addr} {sl13 : Array (Option Value)} (a13 : PySem.W.nsIn K mainGlobals "_law_take" = some (some (.ref f13))) (l13 : K.lookup f13 = some ⟨oc13, od13, .func (PySem.W.fnOf "_law_take" "_law_take" (defArgs s_law_take) (defBody s_law_take) (defScope s_law_take) .none kV13 dc13 pm13 an13 cd13 ct13), sl13⟩) (c13 : PySem.W.codeIn K cd13 "_law_take" = true) (k13 : PySem.W.keepIn K (.ref f13) = true)
    {f14 : Addr} {oc14 kV14 dc14 pm14 cd14 ct14 : Value} {od14 an14 : Option Addr} {sl14 : Array (Option Value)} (a14 : PySem.W.nsIn K mainGlobals "_law_rule" = some (some (.ref f14))) (l14 : K.lookup f14 = some ⟨oc14, od14, .func (PySem.W.fnOf "_law_rule" "_law_rule" (defArgs s_law_rule) (defBody s_law_rule) (defScope s_law_rule) .none kV14 dc14 pm14 an14 cd14 ct14), sl14⟩) (c14 : PySem.W.codeIn K cd14 "_law_rule" = true) (k14 : PySem.W.keepIn K (.ref f14) = true)
    {f15 : Addr} {oc15 kV15 dc15 pm15 cd15 ct15 : Value} {od15 an15 : Option Addr} {sl15 : Array (Option Value)} (a15 : PySem.W.nsIn K mainGlobals "_law_key" = some (some (.ref f15))) (l15 : K.lookup f15 = some ⟨oc15, od15, .func (PySem.W.fnOf "_law_key" "_law_key" (defArgs s_law_key) (defBody s_law_key) (defScope s_law_key) .none kV15 dc15 pm15 an15 cd15 ct15), sl15⟩) (c15 : PySem.W.codeIn K cd15 "_law_key" = true) (k15 : PySem.W.keepIn K (.ref f15) = true)
    {f16 : Addr} {oc16 kV16 dc16 pm16 cd16 ct16 : Value} {od16 an16 : Option Addr} {sl16 : Array (Option Value)} (a16 : PySem.W.nsIn K mainGlobals "_law_due" = some (some (.ref f16))) (l16 : K.lookup f16 = some ⟨oc16, od16, .func (PySem.W.fnOf "_law_due" "_law_due" (defArgs s_law_due) (defBody s_law_due) (defScope s_law_due) .none kV16 dc16 pm16 an16 cd16 ct16), sl16⟩) (c16 : PySem.W.codeIn K cd16 "_law_due" = true) (k16 : PySem.W.keepIn K (.ref f16) = true)
    {f17 : Addr} {oc17 kV17 dc17 pm17 cd17 ct17 : Value} {od17 an17 : Option Addr} {sl17 : Array (Option Value)} (a17 : PySem.W.nsIn K mainGlobals "law" = some (some (.ref f17))) (l17 : K.lookup f17 = some ⟨oc17, od17, .func (PySem.W.fnOf "law" "law" (defArgs s_law) (defBody s_law) (defScope s_law) .none kV17 dc17 pm17 an17 cd17 ct17), sl17⟩) (c17 : PySem.W.codeIn K cd17 "law" = true) (k17 : PySem.W.keepIn K (.ref f17) = true)
    {t0 : Addr} {td0 : Option Addr} {tn0 : Nat} {ts0 : Array (Option Value)} {ti0 : List Value} (ta0 : PySem.W.nsIn K mainGlobals "CLASSES" = some (some (.ref t0))) (tl0 : K.lookup t0 = some ⟨.type "tuple", td0, .seq ti0.toArray tn0, ts0⟩) (tv0 : Vals [.int 1, .int 2, .int 3] ti0) (tz0 : ti0.length ≤ 1000)
    {u0 : Value} (v0 : PySem.W.nsIn K mainGlobals "LETTERS" = some (some u0)) (r0 : RelV (.str "abcdefghijklmnopqrstuvwxyz") u0)
    {u1 : Value} (v1 : PySem.W.nsIn K mainGlobals "CAPITALS" = some (some u1)) (r1 : RelV (.str "ABCDEFGHIJKLMNOPQRSTUVWXYZ") u1)
    {u2 : Value} (v2 : PySem.W.nsIn K mainGlobals "OTHERS" = some (some u2)) (r2 : RelV (.str "0123456789'-.:^_~") u2)
    {u3 : Value} (v3 : PySem.W.nsIn K mainGlobals "MOST_WORD" = some (some u3)) (r3 : RelV (.int 40) u3)
    {u4 : Value} (v4 : PySem.W.nsIn K mainGlobals "MOST_FOLD" = some (some u4)) (r4 : RelV (.int 3) u4)
    {u5 : Value} (v5 : PySem.W.nsIn K mainGlobals "MOST_FOLDS" = some (some u5)) (r5 : RelV (.int 40) u5)
    {u6 : Value} (v6 : PySem.W.nsIn K mainGlobals "MOST_MARKS" = some (some u6)) (r6 : RelV (.int 8) u6)
    (z0 : PySem.W.nsIn K mainGlobals "abs" = some none)
    (z1 : PySem.W.nsIn K mainGlobals "all" = some none)
    (z2 : PySem.W.nsIn K mainGlobals "any" = some none)
    (z3 : PySem.W.nsIn K mainGlobals "bool" = some none)
    (z4 : PySem.W.nsIn K mainGlobals "dict" = some none)
    (z5 : PySem.W.nsIn K mainGlobals "int" = some none)
    (z6 : PySem.W.nsIn K mainGlobals "isinstance" = some none)
    (z7 : PySem.W.nsIn K mainGlobals "len" = some none)
    (z8 : PySem.W.nsIn K mainGlobals "list" = some none)
    (z9 : PySem.W.nsIn K mainGlobals "max" = some none)
    (z10 : PySem.W.nsIn K mainGlobals "min" = some none)
    (z11 : PySem.W.nsIn K mainGlobals "range" = some none)
    (z12 : PySem.W.nsIn K mainGlobals "repr" = some none)
    (z13 : PySem.W.nsIn K mainGlobals "sorted" = some none)
    (z14 : PySem.W.nsIn K mainGlobals "str" = some none) :
    ∃ fd : FuncData, (∀ (s : Shared) (v : Value), BindsTo s fd ⟨[v], []⟩ [("_law_script", v)]) ∧ ∀ base : Heap, K.In base → base.Ns mainGlobals mg → FnOkG l.prog w K mg base CX0 6 fa fd ["_law_script"] (spLaw K) := by
  have e := hfa.symm.trans (PySem.W.mg_of X G a17)
  cases e
  let T : Txt K mg := {
    a_Table := C0
    g_Table := PySem.W.mg_of X G aC0
    cl_Table := ⟨pg0, hd0, po0, sa0⟩
    na_Table_rule := na0_rule
    a_is_sign := f0
    fd_is_sign := _
    g_is_sign := PySem.W.mg_of X G a0
    k_is_sign := k0
    F_is_sign := fun_mk (st := s_is_sign) l0 c0 k0
    b_is_sign := (fun_mk (st := s_is_sign) l0 c0 k0).binds (ps := P_is_sign) fun _ _ _ _ _ _ us hl => match us, hl with | [_], _ => rfl
    a_has_signs := f1
    fd_has_signs := _
    g_has_signs := PySem.W.mg_of X G a1
    k_has_signs := k1
    F_has_signs := fun_mk (st := s_has_signs) l1 c1 k1
    b_has_signs := (fun_mk (st := s_has_signs) l1 c1 k1).binds (ps := P_has_signs) fun _ _ _ _ _ _ us hl => match us, hl with | [_, _], _ => rfl
    a_is_class := f2
    fd_is_class := _
    g_is_class := PySem.W.mg_of X G a2
    k_is_class := k2
    F_is_class := fun_mk (st := s_is_class) l2 c2 k2
    b_is_class := (fun_mk (st := s_is_class) l2 c2 k2).binds (ps := P_is_class) fun _ _ _ _ _ _ us hl => match us, hl with | [_], _ => rfl
    a_look_folds := f3
    fd_look_folds := _
    g_look_folds := PySem.W.mg_of X G a3
    k_look_folds := k3
    F_look_folds := fun_mk (st := s_look_folds) l3 c3 k3
    b_look_folds := (fun_mk (st := s_look_folds) l3 c3 k3).binds (ps := P_look_folds) fun _ _ _ _ _ _ us hl => match us, hl with | [_], _ => rfl
    a_look_marks := f4
    fd_look_marks := _
    g_look_marks := PySem.W.mg_of X G a4
    k_look_marks := k4
    F_look_marks := fun_mk (st := s_look_marks) l4 c4 k4
    b_look_marks := (fun_mk (st := s_look_marks) l4 c4 k4).binds (ps := P_look_marks) fun _ _ _ _ _ _ us hl => match us, hl with | [_, _], _ => rfl
    a_in_order := f5
    fd_in_order := _
    g_in_order := PySem.W.mg_of X G a5
    k_in_order := k5
    F_in_order := fun_mk (st := s_in_order) l5 c5 k5
    b_in_order := (fun_mk (st := s_in_order) l5 c5 k5).binds (ps := P_in_order) fun _ _ _ _ _ _ us hl => match us, hl with | [_, _], _ => rfl
    a_ordered_runs := f6
    fd_ordered_runs := _
    g_ordered_runs := PySem.W.mg_of X G a6
    k_ordered_runs := k6
    F_ordered_runs := fun_mk (st := s_ordered_runs) l6 c6 k6
    b_ordered_runs := (fun_mk (st := s_ordered_runs) l6 c6 k6).binds (ps := P_ordered_runs) fun _ _ _ _ _ _ us hl => match us, hl with | [_, _], _ => rfl
    a_key_of := f7
    fd_key_of := _
    g_key_of := PySem.W.mg_of X G a7
    k_key_of := k7
    F_key_of := fun_mk (st := s_key_of) l7 c7 k7
    b_key_of := (fun_mk (st := s_key_of) l7 c7 k7).binds (ps := P_key_of) fun _ _ _ _ _ _ us hl => match us, hl with | [_, _], _ => rfl
    a_exchange_pairs := f8
    fd_exchange_pairs := _
    g_exchange_pairs := PySem.W.mg_of X G a8
    k_exchange_pairs := k8
    F_exchange_pairs := fun_mk (st := s_exchange_pairs) l8 c8 k8
    b_exchange_pairs := (fun_mk (st := s_exchange_pairs) l8 c8 k8).binds (ps := P_exchange_pairs) fun _ _ _ _ _ _ us hl => match us, hl with | [_], _ => rfl
    a_are_one := f9
    fd_are_one := _
    g_are_one := PySem.W.mg_of X G a9
    k_are_one := k9
    F_are_one := fun_mk (st := s_are_one) l9 c9 k9
    b_are_one := (fun_mk (st := s_are_one) l9 c9 k9).binds (ps := P_are_one) fun _ _ _ _ _ _ us hl => match us, hl with | [_, _, _], _ => rfl
    a_Table___init := f10
    fd_Table___init := _
    k_Table___init := k10
    F_Table___init := fun_mk (st := s_Table___init) l10 c10 k10
    b_Table___init := (fun_mk (st := s_Table___init) l10 c10 k10).binds (ps := P_Table___init) fun _ _ _ _ _ _ us hl => match us, hl with | [_, _, _], _ => rfl
    mk_Table := ⟨mk0, a10, i10, kc0⟩
    a_failing := f11
    fd_failing := _
    g_failing := PySem.W.mg_of X G a11
    k_failing := k11
    F_failing := fun_mk (st := s_failing) l11 c11 k11
    b_failing := (fun_mk (st := s_failing) l11 c11 k11).binds (ps := P_failing) fun _ _ _ _ _ _ us hl => match us, hl with | [_, _], _ => rfl
    a_law_bag := f12
    fd_law_bag := _
    g_law_bag := PySem.W.mg_of X G a12
    k_law_bag := k12
    F_law_bag := fun_mk (st := s_law_bag) l12 c12 k12
    b_law_bag := (fun_mk (st := s_law_bag) l12 c12 k12).binds (ps := P_law_bag) fun _ _ _ _ _ _ us hl => match us, hl with | [_, _], _ => rfl
    a_law_take := f13
    fd_law_take := _
    g_law_take := PySem.W.mg_of X G a13
    k_law_take := k13
    F_law_take := fun_mk (st := s_law_take) l13 c13 k13
    b_law_take := (fun_mk (st := s_law_take) l13 c13 k13).binds (ps := P_law_take) fun _ _ _ _ _ _ us hl => match us, hl with | [_, _], _ => rfl
    a_law_rule := f14
    fd_law_rule := _
    g_law_rule := PySem.W.mg_of X G a14
    k_law_rule := k14
    F_law_rule := fun_mk (st := s_law_rule) l14 c14 k14
    b_law_rule := (fun_mk (st := s_law_rule) l14 c14 k14).binds (ps := P_law_rule) fun _ _ _ _ _ _ us hl => match us, hl with | [_], _ => rfl
    a_law_key := f15
    fd_law_key := _
    g_law_key := PySem.W.mg_of X G a15
    k_law_key := k15
    F_law_key := fun_mk (st := s_law_key) l15 c15 k15
    b_law_key := (fun_mk (st := s_law_key) l15 c15 k15).binds (ps := P_law_key) fun _ _ _ _ _ _ us hl => match us, hl with | [_, _], _ => rfl
    a_law_due := f16
    fd_law_due := _
    g_law_due := PySem.W.mg_of X G a16
    k_law_due := k16
    F_law_due := fun_mk (st := s_law_due) l16 c16 k16
    b_law_due := (fun_mk (st := s_law_due) l16 c16 k16).binds (ps := P_law_due) fun _ _ _ _ _ _ us hl => match us, hl with | [_, _], _ => rfl
    a_law := fa
    fd_law := _
    g_law := PySem.W.mg_of X G a17
    k_law := k17
    F_law := fun_mk (st := s_law) l17 c17 k17
    b_law := (fun_mk (st := s_law) l17 c17 k17).binds (ps := P_law) fun _ _ _ _ _ _ us hl => match us, hl with | [_], _ => rfl
    a_CLASSES := t0
    g_CLASSES := PySem.W.mg_of X G ta0
    s_CLASSES := fun _ => .inr ⟨_, _, _, tl0, rfl, rfl, (by rw [List.size_toArray, sizeLine_eq]; omega), tv0⟩
    u_LETTERS := u0
    g_LETTERS := PySem.W.mg_of X G v0
    r_LETTERS := r0
    u_CAPITALS := u1
    g_CAPITALS := PySem.W.mg_of X G v1
    r_CAPITALS := r1
    u_OTHERS := u2
    g_OTHERS := PySem.W.mg_of X G v2
    r_OTHERS := r2
    u_MOST_WORD := u3
    g_MOST_WORD := PySem.W.mg_of X G v3
    r_MOST_WORD := r3
    u_MOST_FOLD := u4
    g_MOST_FOLD := PySem.W.mg_of X G v4
    r_MOST_FOLD := r4
    u_MOST_FOLDS := u5
    g_MOST_FOLDS := PySem.W.mg_of X G v5
    r_MOST_FOLDS := r5
    u_MOST_MARKS := u6
    g_MOST_MARKS := PySem.W.mg_of X G v6
    r_MOST_MARKS := r6
    n_abs := PySem.W.mg_none_of X G z0
    n_all := PySem.W.mg_none_of X G z1
    n_any := PySem.W.mg_none_of X G z2
    n_bool := PySem.W.mg_none_of X G z3
    n_dict := PySem.W.mg_none_of X G z4
    n_int := PySem.W.mg_none_of X G z5
    n_isinstance := PySem.W.mg_none_of X G z6
    n_len := PySem.W.mg_none_of X G z7
    n_list := PySem.W.mg_none_of X G z8
    n_max := PySem.W.mg_none_of X G z9
    n_min := PySem.W.mg_none_of X G z10
    n_range := PySem.W.mg_none_of X G z11
    n_repr := PySem.W.mg_none_of X G z12
    n_sorted := PySem.W.mg_none_of X G z13
    n_str := PySem.W.mg_none_of X G z14 }
  exact ⟨T.fd_law, fun s v => .of_eq rfl, fun base _ _ => ok_law T⟩
end Nm
open PySem PySem.W PyProof.Rows
set_option maxRecDepth 100000 in
set_option maxHeartbeats 0 in
theorem PySem.Challenge.cw_namesone_k17_failing_exchanges_holds : PySem.Challenge.rw_namesone_k17_failing_exchanges.Holds := by
  w_on; o_law; k_head; (case hw => w_witness2)
  k_fill
  refine Nm.walkG (l := PySem.Challenge.rw_namesone_k17_failing_exchanges) (n := 63) (k := 6) (x := "_law_script") (sp := Nm.spLaw) rfl (by decide) rfl ⟨rfl, by decide, by decide⟩ (fun w h Y => PySem.W.kIn_of Y) ?F (fun K H a ns hl _ hS => ⟨a, ns, rfl, hS, hl, fun _ => rfl⟩)
  case F =>
    intro w mg fa h KX G hmg
    refine' Nm.fin KX G hmg ?aC0 ?pg0 ?hd0 ?po0 ?sa0 ?mk0 ?kc0 ?na0_rule ?a0 ?l0 ?c0 ?k0 ?a1 ?l1 ?c1 ?k1 ?a2 ?l2 ?c2 ?k2 ?a3 ?l3 ?c3 ?k3 ?a4 ?l4 ?c4 ?k4 ?a5 ?l5 ?c5 ?k5 ?a6 ?l6 ?c6 ?k6 ?a7 ?l7 ?c7 ?k7 ?a8 ?l8 ?c8 ?k8 ?a9 ?l9 ?c9 ?k9 ?a10 ?l10 ?c10 ?k10 ?i10 ?a11 ?l11 ?c11 ?k11 ?a12 ?l12 ?c12 ?k12 ?a13 ?l13 ?c13 ?k13 ?a14 ?l14 ?c14 ?k14 ?a15 ?l15 ?c15 ?k15 ?a16 ?l16 ?c16 ?k16 ?a17 ?l17 ?c17 ?k17 ?ta0 ?tl0 ?tv0 ?tz0 ?v0 ?r0 ?v1 ?r1 ?v2 ?r2 ?v3 ?r3 ?v4 ?r4 ?v5 ?r5 ?v6 ?r6 ?z0 ?z1 ?z2 ?z3 ?z4 ?z5 ?z6 ?z7 ?z8 ?z9 ?z10 ?z11 ?z12 ?z13 ?z14
    (case aC0 => k_is)
    (case pg0 => k_is)
    (case hd0 => k_is)
    (case po0 => k_is)
    (case sa0 => k_is)
    (case mk0 => k_is)
    (case kc0 => k_is)
    (case na0_rule => k_is)
    (case a0 => k_is)
    (case l0 => k_is)
    (case c0 => k_is)
    (case k0 => k_is)
    (case a1 => k_is)
    (case l1 => k_is)
    (case c1 => k_is)
    (case k1 => k_is)
    (case a2 => k_is)
    (case l2 => k_is)
    (case c2 => k_is)
    (case k2 => k_is)
    (case a3 => k_is)
    (case l3 => k_is)
    (case c3 => k_is)
    (case k3 => k_is)
    (case a4 => k_is)
    (case l4 => k_is)
    (case c4 => k_is)
    (case k4 => k_is)
    (case a5 => k_is)
    (case l5 => k_is)
    (case c5 => k_is)
    (case k5 => k_is)
    (case a6 => k_is)
    (case l6 => k_is)
    (case c6 => k_is)
    (case k6 => k_is)
    (case a7 => k_is)
    (case l7 => k_is)
    (case c7 => k_is)
    (case k7 => k_is)
    (case a8 => k_is)
    (case l8 => k_is)
    (case c8 => k_is)
    (case k8 => k_is)
    (case a9 => k_is)
    (case l9 => k_is)
    (case c9 => k_is)
    (case k9 => k_is)
    (case a10 => k_is)
    (case l10 => k_is)
    (case c10 => k_is)
    (case k10 => k_is)
    (case i10 => k_is)
    (case a11 => k_is)
    (case l11 => k_is)
    (case c11 => k_is)
    (case k11 => k_is)
    (case a12 => k_is)
    (case l12 => k_is)
    (case c12 => k_is)
    (case k12 => k_is)
    (case a13 => k_is)
    (case l13 => k_is)
    (case c13 => k_is)
    (case k13 => k_is)
    (case a14 => k_is)
    (case l14 => k_is)
    (case c14 => k_is)
    (case k14 => k_is)
    (case a15 => k_is)
    (case l15 => k_is)
    (case c15 => k_is)
    (case k15 => k_is)
    (case a16 => k_is)
    (case l16 => k_is)
    (case c16 => k_is)
    (case k16 => k_is)
    (case a17 => k_is)
    (case l17 => k_is)
    (case c17 => k_is)
    (case k17 => k_is)
    (case ta0 => k_is)
    (case tl0 => k_is)
    (case tv0 => repeat (first | exact L2.Paired.nil | exact .nil | refine .cons ⟨_, rfl⟩ ?_))
    (case tz0 => decide)
    (case v0 => k_is)
    (case r0 => exact ⟨_, rfl⟩)
    (case v1 => k_is)
    (case r1 => exact ⟨_, rfl⟩)
    (case v2 => k_is)
    (case r2 => exact ⟨_, rfl⟩)
    (case v3 => k_is)
    (case r3 => exact ⟨_, rfl⟩)
    (case v4 => k_is)
    (case r4 => exact ⟨_, rfl⟩)
    (case v5 => k_is)
    (case r5 => exact ⟨_, rfl⟩)
    (case v6 => k_is)
    (case r6 => exact ⟨_, rfl⟩)
    (case z0 => k_is)
    (case z1 => k_is)
    (case z2 => k_is)
    (case z3 => k_is)
    (case z4 => k_is)
    (case z5 => k_is)
    (case z6 => k_is)
    (case z7 => k_is)
    (case z8 => k_is)
    (case z9 => k_is)
    (case z10 => k_is)
    (case z11 => k_is)
    (case z12 => k_is)
    (case z13 => k_is)
    (case z14 => k_is)
#print axioms PySem.Challenge.cw_namesone_k17_failing_exchanges_holds

