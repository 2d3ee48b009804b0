import PyProof.Rows.All
import Wide.All
import OpenK.AllK
import Wide.FinOn
import HandS.ForMost
import HandS.IsInst
import HandS.TupAny
import HandS.Walk
import HandS.Ends
import HandS.RaiseMore
import PyProof.StrLawsRepr
import HandS.Star
import HandS.More
import PyProof.ListStr
import HandS.Evl
import PyProof.ReprLoop
import PyProof.P3Eq
import HandS.SetTxt0
import HandS.SetFor
import HandS.SortInts
import PyProof.Rows.SortKeyStr
import PyProof.Rows.SortShellAny
import PyProof.Draws
import PyProof.ZipIter
import PyProof.EnumMake
import PyProof.EnumFor
import HandS.Style
import HandS.Property
import PyProof.Rows.StrRev
import HandS.ExcValue
import PyProof.Rows.RegReprOcc
import HandS.ExcInit
import HandS.ExcField
import HandS.ExcIs
import KE.KExcIs
import HandS.WordsExc
import KE.KDictList
import PyProof.SetRoads
import HandS.TupLe
import HandS.ClsMeth
import HandS.SlotsOwn
import KE.KCallOwn
import OpenK.KOps
import OpenK.KOwn
import PyProof.InstNe
import PyProof.InstEq
import HandS.DictEq
import HandS.FStr
import HandS.Finally
import KE.KEqNest
import PyProof.FString3
import PyProof.NeKinds
import PyProof.ExcBaseAll.OverflowError
import KE.SortKeyHeap
import HandS.SortKw
import HandS.GenList
import HandS.SetKeys
import HandS.Lambda
import HandS.EndTab
import PySem.Challenge.RW_namesone_k14_groups_and_bars
set_option Elab.async false
set_option linter.all false
set_option maxRecDepth 100000
set_option maxHeartbeats 2000000
/-! Data over a heap that only grows: what a value is worth (Den), what an expression is worth (EvD). -/
namespace Nm
open PySem PySem.Spec L2

inductive D where
  | non
  | bl (b : Bool)
  | int (i : Int)
  | str (x : Str)
  | lst (ds : List D)
  | tup (ds : List D)
  | dic (es : List (Key × D))
  | obj (C : Addr) (fs : List (Str × D))
  | ty (n : String)
  | cls (C : Addr)

mutual
inductive Den (K : PySem.W.Frag) (F : Hp) : V → D → Prop
  | non : Den K F .non .non
  | bl (b : Bool) : Den K F (.bl b) (.bl b)
  | int (i : Int) : Den K F (.int i) (.int i)
  | str (x : Str) : Den K F (.str x) (.str x)
  | lst {a : Addr} {xs : List V} {ds : List D} : F a = some (.lst xs) → DenL K F xs ds → Den K F (.ref a) (.lst ds)
  | ty (n : String) : Den K F (.ty n) (.ty n)
  | cls (C : Addr) : Den K F (.ref C) (.cls C)
  | tup {a : Addr} {xs : List V} {ds : List D} : SqT K F a xs → DenL K F xs ds → Den K F (.ref a) (.tup ds)
  | dic {a : Addr} {o : Obj} {kvs : List (Key × V)} {es : List (Key × D)} : F a = some (.frz o (.dK kvs)) → DenK K F kvs es → Den K F (.ref a) (.dic es)
  | obj {a C dx : Addr} {fs : List (Str × V)} {gs : List (Str × D)} : F a = some (.ins C dx fs) → DenF K F fs gs → Den K F (.ref a) (.obj C gs)
inductive DenL (K : PySem.W.Frag) (F : Hp) : List V → List D → Prop
  | nil : DenL K F [] []
  | cons {v : V} {vs : List V} {d : D} {ds : List D} : Den K F v d → DenL K F vs ds → DenL K F (v :: vs) (d :: ds)
inductive DenK (K : PySem.W.Frag) (F : Hp) : List (Key × V) → List (Key × D) → Prop
  | nil : DenK K F [] []
  | cons {k : Key} {v : V} {vs : List (Key × V)} {d : D} {ds : List (Key × D)} : Den K F v d → DenK K F vs ds → DenK K F ((k, v) :: vs) ((k, d) :: ds)
inductive DenF (K : PySem.W.Frag) (F : Hp) : List (Str × V) → List (Str × D) → Prop
  | nil : DenF K F [] []
  | cons {k : Str} {v : V} {vs : List (Str × V)} {d : D} {ds : List (Str × D)} : Den K F v d → DenF K F vs ds → DenF K F ((k, v) :: vs) ((k, d) :: ds)
end

section
variable {K : PySem.W.Frag} {F F' H H' : Hp}
theorem same_rd {a : Addr} {u : HO} (e : Same F F') (h : Rd F a u) : Rd F' a u := by
  rcases h with h | ⟨o, h⟩
  · exact Or.inl (e a _ h)
  · exact Or.inr ⟨o, e a _ h⟩
theorem same_l {a : Addr} {xs : List V} (e : Same F F') (h : SqL K F a xs) : SqL K F' a xs := e.seq h
theorem same_t {a : Addr} {xs : List V} (e : Same F F') (h : SqT K F a xs) : SqT K F' a xs := by
  rcases h with h | h
  · exact Or.inl (same_rd e h)
  · exact Or.inr h
mutual
theorem Den.mono (e : Same F F') : ∀ (d : D) {v : V}, Den K F v d → Den K F' v d
  | .non, _, h => by cases h; exact .non
  | .bl _, _, h => by cases h; exact .bl _
  | .int _, _, h => by cases h; exact .int _
  | .str _, _, h => by cases h; exact .str _
  | .ty _, _, h => by cases h; exact .ty _
  | .cls _, _, h => by cases h; exact .cls _
  | .lst ds, _, h => by cases h with | lst s l => exact .lst (e _ _ s) (DenL.mono e ds l)
  | .tup ds, _, h => by cases h with | tup s l => exact .tup (same_t e s) (DenL.mono e ds l)
  | .dic es, _, h => by cases h with | dic s l => exact .dic (e _ _ s) (DenK.mono e es l)
  | .obj _ gs, _, h => by cases h with | obj s l => exact .obj (e _ _ s) (DenF.mono e gs l)
theorem DenL.mono (e : Same F F') : ∀ (ds : List D) {vs : List V}, DenL K F vs ds → DenL K F' vs ds
  | [], _, h => by cases h; exact .nil
  | d :: ds, _, h => by cases h with | cons a b => exact .cons (Den.mono e d a) (DenL.mono e ds b)
theorem DenK.mono (e : Same F F') : ∀ (ds : List (Key × D)) {vs : List (Key × V)}, DenK K F vs ds → DenK K F' vs ds
  | [], _, h => by cases h; exact .nil
  | (k, d) :: ds, _, h => by cases h with | cons a b => exact .cons (Den.mono e d a) (DenK.mono e ds b)
theorem DenF.mono (e : Same F F') : ∀ (ds : List (Str × D)) {vs : List (Str × V)}, DenF K F vs ds → DenF K F' vs ds
  | [], _, h => by cases h; exact .nil
  | (k, d) :: ds, _, h => by cases h with | cons a b => exact .cons (Den.mono e d a) (DenF.mono e ds b)
end
theorem Den.up {v : V} {d : D} (h : Den K F v d) (e : Same F F') : Den K F' v d := Den.mono e d h
theorem DenL.up {v : List V} {d : List D} (h : DenL K F v d) (e : Same F F') : DenL K F' v d := DenL.mono e d h
theorem DenL.length : ∀ {vs : List V} {ds : List D}, DenL K F vs ds → vs.length = ds.length
  | _, _, .nil => rfl
  | _, _, .cons _ t => congrArg (· + 1) t.length
theorem DenL.get : ∀ {vs : List V} {ds : List D} {i : Nat} {d : D}, DenL K F vs ds → ds[i]? = some d → ∃ v, vs[i]? = some v ∧ Den K F v d
  | _, _, _, _, .nil, e => by simp at e
  | _, _, 0, _, .cons r _, e => by simp at e; subst e; exact ⟨_, rfl, r⟩
  | _, _, i + 1, _, .cons _ t, e => by
    obtain ⟨v, h1, h2⟩ := DenL.get (i := i) t (by simpa using e)
    exact ⟨v, by simpa using h1, h2⟩
theorem DenL.getV : ∀ {vs : List V} {ds : List D} {i : Nat} {v : V}, DenL K F vs ds → vs[i]? = some v → ∃ d, ds[i]? = some d ∧ Den K F v d
  | _, _, _, _, .nil, e => by simp at e
  | _, _, 0, _, .cons r _, e => by simp at e; subst e; exact ⟨_, rfl, r⟩
  | _, _, i + 1, _, .cons _ t, e => by
    obtain ⟨v, h1, h2⟩ := DenL.getV (i := i) t (by simpa using e)
    exact ⟨v, by simpa using h1, h2⟩
theorem DenL.append : ∀ {xs ys : List V} {us ws : List D}, DenL K F xs us → DenL K F ys ws → DenL K F (xs ++ ys) (us ++ ws)
  | _, _, _, _, .nil, s => s
  | _, _, _, _, .cons r t, s => .cons r (DenL.append t s)
theorem DenL.ints : ∀ ns : List Int, DenL K F (ns.map V.int) (ns.map D.int)
  | [] => .nil
  | n :: ns => .cons (.int n) (DenL.ints ns)
end

/-! ### the frozen part grows beside what may change (M: what has changed) -/
structure Ext (M : List Addr) (F H F' H' : Hp) : Prop where
  f : Same F F'
  h : ∀ a o, a ∉ M → H a = some o → H' a = some o
  s : Same F' H'
  n : ∀ a, F a = none → H a ≠ none → F' a = none
  k : ∀ a, H a ≠ none → H' a ≠ none
section
variable {M : List Addr} {F H F1 H1 F2 H2 : Hp}
theorem Ext.of {F H F' H' : Hp} (f : Same F F') (h : Same H H') (s : Same F' H') (n : ∀ a, F a = none → H a ≠ none → F' a = none) : Ext [] F H F' H' :=
  ⟨f, fun a o _ e => h a o e, s, n, fun a e => by
    cases q : H a with
    | none => exact absurd q e
    | some o => rw [h a o q]; simp⟩
theorem Ext.refl (e : Same F H) : Ext M F H F H := ⟨Same.refl _, fun _ _ _ h => h, e, fun _ h _ => h, fun _ h => h⟩
theorem Ext.same (x : Ext [] F H F1 H1) : Same H H1 := fun a o h => x.h a o (by simp) h
theorem Ext.trans (x : Ext M F H F1 H1) (y : Ext M F1 H1 F2 H2) : Ext M F H F2 H2 :=
  ⟨x.f.trans y.f, fun a o m h => y.h a o m (x.h a o m h), y.s, fun a h k => y.n a (x.n a h k) (x.k a k), fun a h => y.k a (x.k a h)⟩
theorem Ext.wide {M' : List Addr} (x : Ext M F H F1 H1) (h : ∀ a, a ∈ M → a ∈ M') : Ext M' F H F1 H1 :=
  ⟨x.f, fun a o m => x.h a o (fun z => m (h a z)), x.s, x.n, x.k⟩
theorem Ext.tr (x : Ext [] F H F1 H1) (y : Ext M F1 H1 F2 H2) : Ext M F H F2 H2 := (x.wide (by simp)).trans y
theorem Ext.tl (x : Ext M F H F1 H1) (y : Ext [] F1 H1 F2 H2) : Ext M F H F2 H2 := x.trans (y.wide (by simp))
/-- a new object, frozen at once -/
theorem Ext.new {p : Addr} {o : HO} (e : Same F H) (hp : H p = none) : Ext [] F H (upd F p o) (upd H p o) := by
  have fp : F p = none := e.free hp
  refine Ext.of (fun a u h => ?_) (fun a u h => ?_) (fun a u h => ?_) (fun a h k => ?_)
  · rw [upd_ne (ne_of_none h fp)]; exact h
  · rw [upd_ne (ne_of_none h hp)]; exact h
  · by_cases z : a = p
    · subst z; rw [upd_same] at h ⊢; exact h
    · rw [upd_ne z] at h ⊢; exact e a u h
  · rw [upd_ne (fun z => k (by rw [z]; exact hp))]; exact h
/-- a new object that may change -/
theorem Ext.newM {p : Addr} {o : HO} (e : Same F H) (hp : H p = none) : Ext [] F H F (upd H p o) :=
  Ext.of (Same.refl _) (fun a u h => by rw [upd_ne (ne_of_none h hp)]; exact h) (fun a u h => by rw [upd_ne (ne_of_none (e a u h) hp)]; exact e a u h) (fun _ h _ => h)
theorem upd_keeps {p : Addr} {o : HO} (a : Addr) (h : H a ≠ none) : upd H p o a ≠ none := by
  by_cases z : a = p
  · subst z; rw [upd_same]; simp
  · rw [upd_ne z]; exact h
end
/-- what may change: not frozen, standing at b -/
structure Own (F H : Hp) (b : Addr) (o : HO) : Prop where
  f : F b = none
  h : H b = some o
theorem Own.ext {M : List Addr} {F H F1 H1 : Hp} {b : Addr} {o : HO} (w : Own F H b o) (x : Ext M F H F1 H1) (hb : b ∉ M) : Own F1 H1 b o :=
  ⟨x.n b w.f (by rw [w.h]; simp), x.h b o hb w.h⟩
theorem Own.ext0 {F H F1 H1 : Hp} {b : Addr} {o : HO} (w : Own F H b o) (x : Ext [] F H F1 H1) : Own F1 H1 b o := w.ext x (by simp)
theorem Own.ne {F H : Hp} {b c : Addr} {o u : HO} (w : Own F H b o) (h : F c = some u) : c ≠ b := fun z => by rw [z, w.f] at h; cases h
theorem Own.set {F H : Hp} {b : Addr} {o u : HO} (w : Own F H b o) (e : Same F H) : Ext [b] F H F (upd H b u) :=
  ⟨Same.refl _, fun a v m h => by rw [upd_ne (by simpa using m)]; exact h, fun a v h => by rw [upd_ne (w.ne h)]; exact e a v h, fun _ h _ => h, fun a h => upd_keeps a h⟩

/-! ### the frame -/
inductive Sl where
  | u
  | d (x : D)
  | v (x : V)
def SlOk (K : PySem.W.Frag) (F : Hp) : Sl → Option V → Prop
  | .u, _ => True
  | .d x, o => ∃ v, o = some v ∧ Den K F v x
  | .v x, o => o = some x
abbrev EnvD (K : PySem.W.Frag) (F : Hp) : List Sl → L2.St → Prop := Paired (SlOk K F)
section
variable {K : PySem.W.Frag} {F F' H : Hp}
theorem SlOk.up {s : Sl} {o : Option V} (h : SlOk K F s o) (e : Same F F') : SlOk K F' s o := by
  cases s with
  | u => trivial
  | d x => obtain ⟨v, h1, h2⟩ := h; exact ⟨v, h1, h2.up e⟩
  | v x => exact h
theorem EnvD.up {r : List Sl} {σ : L2.St} (h : EnvD K F r σ) (e : Same F F') : EnvD K F' r σ := Paired.mapP h fun _ _ q => SlOk.up q e
theorem EnvD.get : ∀ {r : List Sl} {σ : L2.St} {i : Nat} {s : Sl}, EnvD K F r σ → r[i]? = some s → ∃ o, σ[i]? = some o ∧ SlOk K F s o
  | _, _, _, _, .nil, e => by simp at e
  | _, _, 0, _, .cons r _, e => by simp at e; subst e; exact ⟨_, rfl, r⟩
  | _, _, i + 1, _, .cons _ t, e => by
    obtain ⟨v, h1, h2⟩ := EnvD.get (i := i) t (by simpa using e)
    exact ⟨v, by simpa using h1, h2⟩
theorem EnvD.set : ∀ {r : List Sl} {σ : L2.St} (i : Nat) {s : Sl} {o : Option V}, EnvD K F r σ → SlOk K F s o → EnvD K F (r.set i s) (σ.set i o)
  | _, _, _, _, _, .nil, _ => .nil
  | _, _, 0, _, _, .cons _ t, h => .cons h t
  | _, _, i + 1, _, _, .cons q t, h => .cons q (EnvD.set i t h)
def wipeR (r : List Sl) : List Nat → List Sl
  | [] => r
  | v :: vs => (wipeR r vs).set v .u
theorem EnvD.wipe {r : List Sl} {σ : L2.St} (h : EnvD K F r σ) : ∀ vs : List Nat, EnvD K F (wipeR r vs) (wipe σ vs)
  | [] => h
  | v :: vs => EnvD.set v (EnvD.wipe h vs) trivial
end

/-! ### what an expression is worth, whatever else stands in the heap -/
def EvD (K : PySem.W.Frag) (te : TE) (σ : L2.St) (F : Hp) (d : D) : Prop := ∀ H, Same F H → ∀ Q : VK, (∀ v F' H', Ext [] F H F' H' → Den K F' v d → Q v H') → te σ H Q
def EvT (K : PySem.W.Frag) (tt : TT) (σ : L2.St) (F : Hp) (b : Bool) : Prop := ∀ H, Same F H → ∀ Q : Bool → Hp → Prop, (∀ F' H', Ext [] F H F' H' → Q b H') → tt σ H Q
def EvA (K : PySem.W.Frag) (ta : TA) (σ : L2.St) (F : Hp) (ds : List D) : Prop := ∀ H, Same F H → ∀ Q : List V → Hp → Prop, (∀ vs F' H', Ext [] F H F' H' → DenL K F' vs ds → Q vs H') → ta σ H Q
def RvD (K : PySem.W.Frag) (r : R2) (a b d : D) : Prop := ∀ F H x y, Same F H → Den K F x a → Den K F y b → ∀ Q : VK, (∀ v F' H', Ext [] F H F' H' → Den K F' v d → Q v H') → r x y H Q
def RuD (K : PySem.W.Frag) (r : V → Hp → VK → Prop) (a d : D) : Prop := ∀ F H x, Same F H → Den K F x a → ∀ Q : VK, (∀ v F' H', Ext [] F H F' H' → Den K F' v d → Q v H') → r x H Q
def RcD (K : PySem.W.Frag) (r : List V → Hp → VK → Prop) (as : List D) (d : D) : Prop := ∀ F H xs, Same F H → DenL K F xs as → ∀ Q : VK, (∀ v F' H', Ext [] F H F' H' → Den K F' v d → Q v H') → r xs H Q

section
variable {K : PySem.W.Frag} {F F' H : Hp} {σ : L2.St} {ta tb tc te : TE} {tt tu : TT} {d e : D}
/-- two frozen parts of one heap, put together -/
def uni (F G : Hp) : Hp := fun a => (F a).or (G a)
theorem uni_l {F G : Hp} : Same F (uni F G) := fun a o h => by unfold uni; rw [h]; rfl
theorem uni_r {F G H : Hp} (e : Same F H) (e' : Same G H) : Same G (uni F G) := fun a o h => by
  unfold uni
  cases q : F a with
  | none => exact h
  | some u =>
    have h1 := e a u q
    have h2 := e' a o h
    rw [h1] at h2
    exact h2
theorem uni_s {F G H : Hp} (e : Same F H) (e' : Same G H) : Same (uni F G) H := fun a o h => by
  unfold uni at h
  cases q : F a with
  | none => rw [q] at h; exact e' a o h
  | some u => rw [q] at h; cases h; exact e a _ q
theorem Ext.uni {F F1 F2 H1 H2 : Hp} (e : Same F F1) (e1 : Same F1 H1) (x : Ext [] F H1 F2 H2) : Ext [] F1 H1 (uni F1 F2) H2 := by
  have e1' : Same F1 H2 := e1.trans x.same
  refine Ext.of uni_l x.same (uni_s e1' x.s) fun a h k => ?_
  unfold Nm.uni
  rw [h]
  exact x.n a (e.free h) k
theorem EvD.up (h : EvD K te σ F d) (e : Same F F') : EvD K te σ F' d := fun H s Q q => h H (e.trans s) Q fun v F2 H2 x r =>
  q v _ H2 (Ext.uni e s x) (r.up (uni_r (s.trans x.same) x.s))
theorem EvT.up {b : Bool} (h : EvT K tt σ F b) (e : Same F F') : EvT K tt σ F' b := fun H s Q q => h H (e.trans s) Q fun F2 H2 x => q _ H2 (Ext.uni e s x)
theorem EvA.up {ta : TA} {ds : List D} (h : EvA K ta σ F ds) (e : Same F F') : EvA K ta σ F' ds := fun H s Q q => h H (e.trans s) Q fun v F2 H2 x r =>
  q v _ H2 (Ext.uni e s x) (r.up (uni_r (s.trans x.same) x.s))

theorem ev_var {r : List Sl} {i : Nat} (E : EnvD K F r σ) (h : r[i]? = some (.d d)) : EvD K (tVar i) σ F d := fun H s Q q => by
  obtain ⟨o, h1, v, h2, h3⟩ := E.get h
  subst h2
  exact ⟨v, h1, q v F H (Ext.refl s) h3⟩
theorem ev_c {v : V} (h : Den K F v d) : EvD K (tC v) σ F d := fun H s Q q => q v F H (Ext.refl s) h
theorem ev_op {a b : D} {r : R2} (ha : EvD K ta σ F a) (hb : EvD K tb σ F b) (hr : RvD K r a b d) : EvD K (tOp r ta tb) σ F d := fun H s Q q =>
  ha H s _ fun x F1 H1 x1 d1 => (hb.up x1.f) H1 x1.s _ fun y F2 H2 x2 d2 => hr F2 H2 x y x2.s (d1.up x2.f) d2 Q fun v F3 H3 x3 d3 => q v F3 H3 ((x1.tr x2).tr x3) d3
theorem ev_un {a : D} {r : V → Hp → VK → Prop} (ha : EvD K ta σ F a) (hr : RuD K r a d) : EvD K (tUn r ta) σ F d := fun H s Q q =>
  ha H s _ fun x F1 H1 x1 d1 => hr F1 H1 x x1.s d1 Q fun v F3 H3 x3 d3 => q v F3 H3 (x1.tr x3) d3
theorem ev_cb {as : List D} {ta : TA} {r : List V → Hp → VK → Prop} (ha : EvA K ta σ F as) (hr : RcD K r as d) : EvD K (tCB r ta) σ F d := fun H s Q q =>
  ha H s _ fun x F1 H1 x1 d1 => hr F1 H1 x x1.s d1 Q fun v F3 H3 x3 d3 => q v F3 H3 (x1.tr x3) d3
theorem ea_nil : EvA K tNil σ F [] := fun H s Q q => q [] F H (Ext.refl s) .nil
theorem ea_cons {a : D} {as : List D} {tr : TA} (ha : EvD K ta σ F a) (hr : EvA K tr σ F as) : EvA K (tCons ta tr) σ F (a :: as) := fun H s Q q =>
  ha H s _ fun x F1 H1 x1 d1 => (hr.up x1.f) H1 x1.s _ fun xs F2 H2 x2 d2 => q (x :: xs) F2 H2 (x1.tr x2) (.cons (d1.up x2.f) d2)
theorem ev_and {a b : Bool} (h1 : EvD K ta σ F (.bl a)) (h2 : a = true → EvD K tb σ F (.bl b)) : EvD K (tAndV ta tb) σ F (.bl (a && b)) := fun H s Q q =>
  h1 H s _ fun x F1 H1 x1 d1 => by
    cases d1
    refine ⟨a, rfl, ?_⟩
    cases a with
    | true =>
      rw [if_pos rfl]
      exact ((h2 rfl).up x1.f) H1 x1.s _ fun v F2 H2 x2 d2 => q v F2 H2 (x1.tr x2) d2
    | false =>
      rw [if_neg (by decide)]
      exact q _ F1 H1 x1 (.bl false)
theorem ev_or {a b : Bool} (h1 : EvD K ta σ F (.bl a)) (h2 : a = false → EvD K tb σ F (.bl b)) : EvD K (tOrV ta tb) σ F (.bl (a || b)) := fun H s Q q =>
  h1 H s _ fun x F1 H1 x1 d1 => by
    cases d1
    refine ⟨a, rfl, ?_⟩
    cases a with
    | true =>
      rw [if_pos rfl]
      exact q _ F1 H1 x1 (.bl true)
    | false =>
      rw [if_neg (by decide)]
      exact ((h2 rfl).up x1.f) H1 x1.s _ fun v F2 H2 x2 d2 => q v F2 H2 (x1.tr x2) d2
theorem ev_not {a : Bool} (h1 : EvD K ta σ F (.bl a)) : EvD K (tNotV ta) σ F (.bl (!a)) := fun H s Q q =>
  h1 H s _ fun x F1 H1 x1 d1 => by
    cases d1
    exact ⟨a, rfl, q _ F1 H1 x1 (.bl _)⟩
theorem ev_if {b : Bool} (h : EvT K tt σ F b) (h1 : b = true → EvD K ta σ F d) (h2 : b = false → EvD K tb σ F d) : EvD K (tIf tt ta tb) σ F d := fun H s Q q =>
  h H s _ fun F1 H1 x1 => by
    cases b with
    | true =>
      show ta σ H1 Q
      exact ((h1 rfl).up x1.f) H1 x1.s _ fun v F2 H2 x2 d2 => q v F2 H2 (x1.tr x2) d2
    | false =>
      show tb σ H1 Q
      exact ((h2 rfl).up x1.f) H1 x1.s _ fun v F2 H2 x2 d2 => q v F2 H2 (x1.tr x2) d2
theorem et_test {b : Bool} (h : EvD K te σ F (.bl b)) : EvT K (tTest te) σ F b := fun H s Q q => h H s _ fun v F1 H1 x1 d1 => by cases d1; exact ⟨b, rfl, q F1 H1 x1⟩
theorem et_B {b : Bool} (h : EvD K te σ F (.bl b)) : EvT K (tB te) σ F b := fun H s Q q => h H s _ fun v F1 H1 x1 d1 => by cases d1; exact ⟨b, rfl, q F1 H1 x1⟩
theorem et_and {a b : Bool} (h1 : EvT K tt σ F a) (h2 : a = true → EvT K tu σ F b) : EvT K (tAnd tt tu) σ F (a && b) := fun H s Q q => h1 H s _ fun F1 H1 x1 => by
  cases a with
  | true =>
    show tu σ H1 Q
    exact ((h2 rfl).up x1.f) H1 x1.s _ fun F2 H2 x2 => q F2 H2 (x1.tr x2)
  | false =>
    show Q false H1
    exact q F1 H1 x1
theorem et_or {a b : Bool} (h1 : EvT K tt σ F a) (h2 : a = false → EvT K tu σ F b) : EvT K (tOr tt tu) σ F (a || b) := fun H s Q q => h1 H s _ fun F1 H1 x1 => by
  cases a with
  | true =>
    show Q true H1
    exact q F1 H1 x1
  | false =>
    show tu σ H1 Q
    exact ((h2 rfl).up x1.f) H1 x1.s _ fun F2 H2 x2 => q F2 H2 (x1.tr x2)
theorem et_not {a : Bool} (h1 : EvT K tt σ F a) : EvT K (tNot tt) σ F (!a) := fun H s Q q => h1 H s _ fun F1 H1 x1 => q F1 H1 x1
theorem ev_is (h : EvD K te σ F e) (q : e = d) : EvD K te σ F d := by rw [← q]; exact h
theorem et_is {a b : Bool} (h : EvT K tt σ F a) (q : a = b) : EvT K tt σ F b := by rw [← q]; exact h
theorem ev_lst {as : List D} {ta : TA} (h : EvA K ta σ F as) (hl : as.length ≤ sizeLine) : EvD K (tLst ta) σ F (.lst as) := fun H s Q q =>
  h H s _ fun vs F1 H1 x1 d1 => ⟨by rw [d1.length]; exact hl, fun p hp => q _ _ _ (x1.tr (Ext.new x1.s hp)) (.lst upd_same (d1.up (Ext.new (o := .lst vs) x1.s hp).f))⟩
theorem ev_tup {as : List D} {ta : TA} (h : EvA K ta σ F as) (hl : as.length ≤ sizeLine) : EvD K (tTup ta) σ F (.tup as) := fun H s Q q =>
  h H s _ fun vs F1 H1 x1 d1 => ⟨by rw [d1.length]; exact hl, fun p hp => q _ _ _ (x1.tr (Ext.new x1.s hp)) (.tup (SqT.of upd_same) (d1.up (Ext.new (o := .tup vs) x1.s hp).f))⟩
end
end Nm

set_option Elab.async false
set_option linter.all false
set_option maxRecDepth 100000
set_option maxHeartbeats 2000000
namespace Nm
open PySem PySem.Spec L2

/-! ### rules by values, of several kinds at once -/
section
variable {X : Cx}
theorem opr_or {f : Value → Value → Sem Value} {r r' : R2} (h : OpR X f r) (h' : OpR X f r') : OpR X f (fun x y H Q => r x y H Q ∨ r' x y H Q) :=
  fun pins s σ H x y v u Q I rx ry q => q.elim (fun q => h pins s σ H x y v u Q I rx ry q) fun q => h' pins s σ H x y v u Q I rx ry q
theorem calr_or {f : Value} {r r' : List V → Hp → VK → Prop} (h : CallR X f r) (h' : CallR X f r') : CallR X f (fun xs H Q => r xs H Q ∨ r' xs H Q) :=
  fun pins s σ H xs us Q I rx q => q.elim (fun q => h pins s σ H xs us Q I rx q) fun q => h' pins s σ H xs us Q I rx q

/-- + -/
def rAddS : R2 := fun x y H Q => ∃ i j, x = .str i ∧ y = .str j ∧ i.length + j.length ≤ sizeLine ∧ Q (.str (i ++ j)) H
def rAddA (K : PySem.W.Frag) : R2 := fun x y H Q => rI0 (fun i j => .int (i + j)) x y H Q ∨ rAddS x y H Q ∨ rCat x y H Q ∨ rCatA K x y H Q
theorem o_add : OpR X (binaryOp .Add) (rAddA X.K) := opr_or op_add (opr_or op_add_str (opr_or op_cat op_catA))
/-- in, not in -/
def rInSign (f : Bool → Bool) : R2 := fun x y H Q => ∃ (c : Nat) (z : Str), x = .str ⟨#[c]⟩ ∧ y = .str z ∧ Q (.bl (f (decide (c ∈ z.cps.toList)))) H
def rInDict (f : Bool → Bool) : R2 := fun x y H Q => ∃ a o, y = .ref a ∧ DGet H a x o ∧ Q (.bl (f o.isSome)) H
theorem o_din (hu : X.A.units + 1 < cLine) : OpR X (compareOp .In) (rInDict id) := by
  intro pins s σ H x y v u Q I rx ry h
  obtain ⟨a, o, rfl, g, q⟩ := h
  cases (show u = Value.ref a from ry)
  exact d_in hu I g rx fun s3 I3 => ⟨.bl o.isSome, H, I3, rfl, q⟩
theorem o_dnotin (hu : X.A.units + 1 < cLine) : OpR X (compareOp .NotIn) (rInDict (!·)) := by
  intro pins s σ H x y v u Q I rx ry h
  obtain ⟨a, o, rfl, g, q⟩ := h
  cases (show u = Value.ref a from ry)
  exact d_notIn hu I g rx fun s3 I3 => ⟨.bl (!o.isSome), H, I3, rfl, q⟩
def rInA (K : PySem.W.Frag) : R2 := fun x y H Q => rInSign id x y H Q ∨ rIn K false x y H Q ∨ rInDict id x y H Q
def rNotInA (K : PySem.W.Frag) : R2 := fun x y H Q => rInSign (!·) x y H Q ∨ rIn K true x y H Q ∨ rInDict (!·) x y H Q
theorem o_in (hu : X.A.units + 1 < cLine) : OpR X (compareOp .In) (rInA X.K) := opr_or op_in_sign (opr_or op_in_seq (o_din hu))
theorem o_notin (hu : X.A.units + 1 < cLine) : OpR X (compareOp .NotIn) (rNotInA X.K) := opr_or op_notIn_sign (opr_or op_notIn_seq (o_dnotin hu))
/-- len -/
def rLenA (K : PySem.W.Frag) : List V → Hp → VK → Prop := fun xs H Q => (∃ p ys, xs = [.ref p] ∧ (SqL K H p ys ∨ SqT K H p ys) ∧ Q (.int ys.length) H) ∨ (∃ z, xs = [.str z] ∧ z.length ≤ sizeLine ∧ Q (.int z.length) H) ∨
  (∃ a kvs, xs = [V.ref a] ∧ Rd H a (.dK kvs) ∧ Q (.int kvs.length) H)
theorem c_len_dict : CallR X (.builtin "len") (fun xs H Q => ∃ a kvs, xs = [V.ref a] ∧ Rd H a (.dK kvs) ∧ Q (.int kvs.length) H) := by
  intro pins s σ H xs us Q I r h
  obtain ⟨a, kvs, rfl, ha, q⟩ := h
  obtain ⟨u, rfl, ru⟩ := vals1 r
  cases (show u = Value.ref a from ru)
  exact d_len I ha fun t s' I' => ⟨.int kvs.length, H, I', ⟨t, rfl⟩, q⟩
theorem c_len : CallR X (.builtin "len") (rLenA X.K) := calr_or call_len_seq (calr_or call_len_str c_len_dict)
/-- < <= > >= -/
def rCmpA (f : Int → Int → Bool) (g : List Nat → List Nat → Bool) : R2 := fun x y H Q => rI0 (fun i j => .bl (f i j)) x y H Q ∨ ∃ i j, x = .str i ∧ y = .str j ∧ Q (.bl (g i.cps.toList j.cps.toList)) H
theorem o_lt : OpR X (compareOp .Lt) (rCmpA (fun i j => decide (i < j)) fun a b => decide (a < b)) := opr_or op_lt op_lt_str
theorem o_le : OpR X (compareOp .LtE) (rCmpA (fun i j => decide (i ≤ j)) fun a b => !decide (b < a)) := opr_or op_le op_le_str
theorem o_gt : OpR X (compareOp .Gt) (rCmpA (fun i j => decide (j < i)) fun a b => decide (b < a)) := opr_or op_gt op_gt_str
theorem o_ge : OpR X (compareOp .GtE) (rCmpA (fun i j => decide (j ≤ i)) fun a b => !decide (a < b)) := opr_or op_ge op_ge_str
/-- a[i] -/
theorem ix_or {r r' : R2} (h : IxR X r) (h' : IxR X r') : IxR X (fun x y H Q => r x y H Q ∨ r' x y H Q) := h.or h'
end

/-! ### the same by data -/
section
variable {K : PySem.W.Frag}
theorem rv_add_int {i j : Int} : RvD K (rAddA K) (.int i) (.int j) (.int (i + j)) := fun F H x y s hx hy Q q => by
  cases hx; cases hy
  exact .inl ⟨i, j, rfl, rfl, q _ F H (Ext.refl s) (.int _)⟩
theorem rv_add_str {i j : Str} (hz : i.length + j.length ≤ sizeLine) : RvD K (rAddA K) (.str i) (.str j) (.str (i ++ j)) := fun F H x y s hx hy Q q => by
  cases hx; cases hy
  exact .inr (.inl ⟨i, j, rfl, rfl, hz, q _ F H (Ext.refl s) (.str _)⟩)
theorem rv_add_lst {i j : List D} (hz : i.length + j.length ≤ sizeLine) : RvD K (rAddA K) (.lst i) (.lst j) (.lst (i ++ j)) := fun F H x y s hx hy Q q => by
  cases hx with
  | lst h1 l1 =>
    cases hy with
    | lst h2 l2 =>
      refine .inr (.inr (.inl ⟨_, _, _, _, rfl, rfl, s _ _ h1, s _ _ h2, by rw [l1.length, l2.length]; exact hz, fun p hp => q _ _ _ (Ext.new s hp) (.lst upd_same ?_)⟩))
      exact (l1.append l2).up (Ext.new s hp).f
theorem rv_add_tup {i j : List D} (hz : i.length + j.length ≤ sizeLine) : RvD K (rAddA K) (.tup i) (.tup j) (.tup (i ++ j)) := fun F H x y s hx hy Q q => by
  cases hx with
  | tup h1 l1 =>
    cases hy with
    | tup h2 l2 =>
      refine .inr (.inr (.inr ⟨_, _, _, _, rfl, rfl, same_t s h1, same_t s h2, by rw [l1.length, l2.length]; exact hz, fun e => ?_, fun _ e => ?_, fun _ _ p hp => q _ _ _ (Ext.new s hp) (.tup (SqT.of upd_same) ?_)⟩))
      · subst e; cases l1; exact q _ F H (Ext.refl s) (.tup h2 l2)
      · subst e; cases l2; rw [List.append_nil] at q; exact q _ F H (Ext.refl s) (.tup h1 l1)
      · exact (l1.append l2).up (Ext.new s hp).f
theorem rv_I0 {g : Int → Int → Int} {i j : Int} : RvD K (rI0 fun i j => .int (g i j)) (.int i) (.int j) (.int (g i j)) := fun F H x y s hx hy Q q => by
  cases hx; cases hy
  exact ⟨i, j, rfl, rfl, q _ F H (Ext.refl s) (.int _)⟩
theorem rv_I {C : Int → Int → Prop} {g : Int → Int → Int} {i j : Int} (hc : C i j) : RvD K (rI C fun i j => .int (g i j)) (.int i) (.int j) (.int (g i j)) := fun F H x y s hx hy Q q => by
  cases hx; cases hy
  exact ⟨i, j, rfl, rfl, hc, q _ F H (Ext.refl s) (.int _)⟩
theorem rv_cmp_int {f : Int → Int → Bool} {g : List Nat → List Nat → Bool} {i j : Int} : RvD K (rCmpA f g) (.int i) (.int j) (.bl (f i j)) := fun F H x y s hx hy Q q => by
  cases hx; cases hy
  exact .inl ⟨i, j, rfl, rfl, q _ F H (Ext.refl s) (.bl _)⟩
theorem rv_cmp_str {f : Int → Int → Bool} {g : List Nat → List Nat → Bool} {i j : Str} : RvD K (rCmpA f g) (.str i) (.str j) (.bl (g i.cps.toList j.cps.toList)) := fun F H x y s hx hy Q q => by
  cases hx; cases hy
  exact .inr ⟨i, j, rfl, rfl, q _ F H (Ext.refl s) (.bl _)⟩
theorem rv_eq_int {i j : Int} : RvD K rEq (.int i) (.int j) (.bl (decide (i = j))) := fun F H x y s hx hy Q q => by
  cases hx; cases hy
  refine ⟨rfl, ?_⟩
  rw [dec_int, show (i == j) = decide (i = j) from rfl]
  exact q _ F H (Ext.refl s) (.bl _)
theorem rv_ne_int {i j : Int} : RvD K rNe (.int i) (.int j) (.bl (!decide (i = j))) := fun F H x y s hx hy Q q => by
  cases hx; cases hy
  refine ⟨rfl, ?_⟩
  rw [dec_int, show (i == j) = decide (i = j) from rfl]
  exact q _ F H (Ext.refl s) (.bl _)
theorem dec_strD {i j : Str} : decide (V.str i = V.str j) = decide (i = j) := by
  by_cases h : i = j
  · subst h; simp
  · rw [decide_eq_false h, decide_eq_false (fun z => h (V.str.inj z))]
theorem rv_eq_str {i j : Str} : RvD K rEq (.str i) (.str j) (.bl (decide (i = j))) := fun F H x y s hx hy Q q => by
  cases hx; cases hy
  refine ⟨rfl, ?_⟩
  rw [dec_strD]
  exact q _ F H (Ext.refl s) (.bl _)
theorem rv_ne_str {i j : Str} : RvD K rNe (.str i) (.str j) (.bl (!decide (i = j))) := fun F H x y s hx hy Q q => by
  cases hx; cases hy
  refine ⟨rfl, ?_⟩
  rw [dec_strD]
  exact q _ F H (Ext.refl s) (.bl _)
theorem rv_in_sign {c : Nat} {z : Str} : RvD K (rInA K) (.str ⟨#[c]⟩) (.str z) (.bl (decide (c ∈ z.cps.toList))) := fun F H x y s hx hy Q q => by
  cases hx; cases hy
  exact .inl ⟨c, z, rfl, rfl, q _ F H (Ext.refl s) (.bl _)⟩
theorem rc_len_str {z : Str} (hz : z.length ≤ sizeLine) : RcD K (rLenA K) [.str z] (.int z.length) := fun F H xs s hx Q q => by
  cases hx with
  | cons h t =>
    cases h; cases t
    exact .inr (.inl ⟨z, rfl, hz, q _ F H (Ext.refl s) (.int _)⟩)
theorem rc_len_lst {ds : List D} : RcD K (rLenA K) [.lst ds] (.int ds.length) := fun F H xs s hx Q q => by
  cases hx with
  | cons h t =>
    cases t
    cases h with
    | lst h l => exact .inl ⟨_, _, rfl, .inl (SqL.of (s _ _ h)), by rw [l.length]; exact q _ F H (Ext.refl s) (.int _)⟩
theorem rc_len_tup {ds : List D} : RcD K (rLenA K) [.tup ds] (.int ds.length) := fun F H xs s hx Q q => by
  cases hx with
  | cons h t =>
    cases t
    cases h with
    | tup h l => exact .inl ⟨_, _, rfl, .inr (same_t s h), by rw [l.length]; exact q _ F H (Ext.refl s) (.int _)⟩
/-- the built-in type of data -/
def tyD : D → Option String
  | .non => some "NoneType" | .bl _ => some "bool" | .int _ => some "int" | .str _ => some "str" | .lst _ => some "list" | .tup _ => some "tuple" | .dic _ => some "dict" | _ => none
theorem ty_of {F H : Hp} {x : V} {d : D} {t : String} (s : Same F H) (h : Den K F x d) (e : tyD d = some t) : TyX K H x (.type t) := by
  cases h with
  | non => cases e; exact .base .non
  | bl b => cases e; exact .base (.bl b)
  | int b => cases e; exact .base (.int b)
  | str b => cases e; exact .base (.str b)
  | lst h l => cases e; exact .base (.lst (s _ _ h))
  | tup h l =>
    cases e
    rcases same_t s h with (h | ⟨o, h⟩) | ⟨o, its, n, h1, h2, _⟩
    · exact .base (.tup h)
    · exact .fTuple h
    · exact .kTuple h1 (by first | exact h2 | (obtain ⟨h2, _⟩ := h2; exact h2))
  | dic h l =>
    cases e
    exact .fDict (s _ _ h)
  | obj h l => cases e
  | ty n => cases e
  | cls C => cases e
theorem rc_isi {d : D} {t n : String} {b : Bool} (e : tyD d = some t) (hb : kitB t n = some b) : RcD K (rIsi K) [d, .ty n] (.bl b) := fun F H xs s hx Q q => by
  cases hx with
  | cons h t =>
    cases t with
    | cons h2 t =>
      cases t; cases h2
      exact ⟨_, _, _, _, b, rfl, .ty n, ty_of s h e, kit_ty hb, q _ F H (Ext.refl s) (.bl _)⟩
theorem denL_bls : ∀ {F : Hp} {bs : List Bool} {vs : List V}, DenL K F vs (bs.map D.bl) → vs = bs.map V.bl
  | _, [], _, h => by cases h; rfl
  | _, b :: bs, _, h => by cases h with | cons a t => cases a; rw [denL_bls t]; rfl
theorem denL_strs : ∀ {F : Hp} {bs : List Str} {vs : List V}, DenL K F vs (bs.map D.str) → vs = bs.map V.str
  | _, [], _, h => by cases h; rfl
  | _, b :: bs, _, h => by cases h with | cons a t => cases a; rw [denL_strs t]; rfl
theorem denL_ints : ∀ {F : Hp} {bs : List Int} {vs : List V}, DenL K F vs (bs.map D.int) → vs = bs.map V.int
  | _, [], _, h => by cases h; rfl
  | _, b :: bs, _, h => by cases h with | cons a t => cases a; rw [denL_ints t]; rfl
theorem rc_all {bs : List Bool} : RcD K (rAll K) [.lst (bs.map D.bl)] (.bl (bs.all id)) := fun F H xs s hx Q q => by
  cases hx with
  | cons h t =>
    cases t
    cases h with
    | lst h l =>
      rw [denL_bls l] at h
      exact ⟨_, bs, rfl, SqL.of (s _ _ h), q _ F H (Ext.refl s) (.bl _)⟩
theorem rc_any {bs : List Bool} : RcD K (rAny K) [.lst (bs.map D.bl)] (.bl (bs.any id)) := fun F H xs s hx Q q => by
  cases hx with
  | cons h t =>
    cases t
    cases h with
    | lst h l =>
      rw [denL_bls l] at h
      exact ⟨_, bs, rfl, SqL.of (s _ _ h), q _ F H (Ext.refl s) (.bl _)⟩
end
end Nm

set_option Elab.async false
set_option linter.all false
set_option maxRecDepth 100000
set_option maxHeartbeats 2000000
namespace Nm
open PySem PySem.Spec L2

/-! ### what is walked -/
section
variable {X : Cx} {tg e : Expr}
theorem pi_or {wi wj : TI} (h : PI X tg e wi) (h' : PI X tg e wj) : PI X tg e (fun σ H R => wi σ H R ∨ wj σ H R) :=
  ⟨fun pins s σ H R I q => q.elim (h.run pins s σ H R I) (h'.run pins s σ H R I)⟩
/-- for x in e: a list, a tuple, a text -/
def iSeq (K : PySem.W.Frag) (te : TE) : TI := fun σ H R => iList K te σ H R ∨ iTup K te σ H R ∨ iStr te σ H R ∨ iKeys te σ H R
theorem pi_seq {te : TE} (h : PE X e te) : PI X tg e (iSeq X.K te) := pi_or (pi_list h) (pi_or (pi_tup h) (pi_or (pi_str h) (pi_keys h)))
end
def WalkD (K : PySem.W.Frag) (F : Hp) (J : It) (items : List D) : Prop := ∃ G Y, Walk J items.length G Y ∧ (∀ H, Same F H → G H) ∧
  ∀ i H x H', i < items.length → Same F H → Y i H x H' → ∃ d F', items[i]? = some d ∧ Ext [] F H F' H' ∧ Den K F' x d
def EvI (K : PySem.W.Frag) (wi : TI) (σ : L2.St) (F : Hp) (items : List D) : Prop :=
  ∀ H, Same F H → ∀ R : It → Hp → Prop, (∀ J F' H', Ext [] F H F' H' → WalkD K F' J items → R J H') → wi σ H R
/-- a text's signs, one by one -/
def signs (x : Str) : List D := x.cps.toList.map fun c => .str ⟨#[c]⟩
section
variable {K : PySem.W.Frag} {F F' H : Hp} {σ : L2.St} {te : TE}
theorem walkD_up {J : It} {items : List D} (h : WalkD K F J items) (e : Same F F') : WalkD K F' J items := by
  obtain ⟨G, Y, w, g, y⟩ := h
  refine ⟨G, Y, w, fun H s => g H (e.trans s), fun i H x H' hi s hy => ?_⟩
  obtain ⟨d, F2, h1, h2, h3⟩ := y i H x H' hi (e.trans s) hy
  exact ⟨d, _, h1, Ext.uni e s h2, h3.up (uni_r (s.trans h2.same) h2.s)⟩
theorem ei_lst {ds : List D} (h : EvD K te σ F (.lst ds)) : EvI K (iSeq K te) σ F ds := fun H s R q => .inl (h H s _ fun v F1 H1 x1 d1 => by
  cases d1 with
  | lst h l =>
    rename_i a xs
    refine ⟨a, rfl, ⟨xs, SqL.of (x1.s _ _ h)⟩, q _ F1 H1 x1 ⟨fun H => SqL K H a xs, YAt xs, ?_, fun H s => SqL.of (s _ _ h), fun i H x H' hi s y => ?_⟩⟩
    · rw [← l.length]; exact walk_list
    · obtain ⟨rfl, y⟩ := y
      obtain ⟨d, h1, h2⟩ := l.getV y
      exact ⟨d, F1, h1, Ext.refl s, h2⟩)
theorem ei_tup {ds : List D} (h : EvD K te σ F (.tup ds)) : EvI K (iSeq K te) σ F ds := fun H s R q => .inr (.inl (h H s _ fun v F1 H1 x1 d1 => by
  cases d1 with
  | tup h l =>
    rename_i a xs
    refine ⟨a, rfl, ⟨xs, same_t x1.s h⟩, q _ F1 H1 x1 ⟨fun H => SqT K H a xs, YAt xs, ?_, fun H s => same_t s h, fun i H x H' hi s y => ?_⟩⟩
    · rw [← l.length]; exact walk_tup
    · obtain ⟨rfl, y⟩ := y
      obtain ⟨d, h1, h2⟩ := l.getV y
      exact ⟨d, F1, h1, Ext.refl s, h2⟩))
theorem ei_str {z : Str} (h : EvD K te σ F (.str z)) : EvI K (iSeq K te) σ F (signs z) := fun H s R q => .inr (.inr (.inl (h H s _ fun v F1 H1 x1 d1 => by
  cases d1
  refine ⟨z, rfl, q _ F1 H1 x1 ⟨fun _ => True, fun i H v H' => H' = H ∧ ∃ c, z.cps[i]? = some c ∧ v = .str ⟨#[c]⟩, ?_, fun _ _ => trivial, fun i H x H' hi s y => ?_⟩⟩
  · have e : (signs z).length = z.cps.size := by unfold signs; simp
    rw [e]; exact walk_str
  · obtain ⟨rfl, c, y, rfl⟩ := y
    refine ⟨_, F1, ?_, Ext.refl s, .str _⟩
    unfold signs
    rw [List.getElem?_map, Array.getElem?_toList, y]; rfl)))
theorem ei_rng1 {ta : TA} {n : Int} (h : EvA K ta σ F [.int n]) (h1 : -(2 ^ 62) ≤ n) (h2 : n < 2 ^ 62) : EvI K (iRng1 ta) σ F ((List.range n.toNat).map fun i => .int (i : Nat)) := fun H s R q => h H s _ fun vs F1 H1 x1 d1 => by
  cases d1 with
  | cons a t =>
    cases a; cases t
    refine ⟨n, rfl, h1, h2, q _ F1 H1 x1 ⟨fun _ => True, YFn fun i => .int (0 + (i : Nat)), ?_, fun _ _ => trivial, fun i H x H' hi s y => ?_⟩⟩
    · have e : ((List.range n.toNat).map fun i => D.int (i : Nat)).length = n.toNat := by simp
      rw [e]; exact walk_range
    · obtain ⟨rfl, rfl⟩ := y
      refine ⟨.int (i : Nat), F1, ?_, Ext.refl s, ?_⟩
      · rw [List.length_map] at hi
        rw [List.getElem?_map, List.getElem?_eq_getElem hi]; simp
      · show Den K F1 (.int (0 + (i : Int))) (.int (i : Int))
        rw [Int.zero_add]; exact .int _

/-! ### lists that are built -/
variable {F1 H1 F2 H2 : Hp} {Dl : Addr}
theorem Ext.mutNew {M : List Addr} {o : HO} (x : Ext M F H F1 H1) (h : H Dl = none) (f : F1 Dl = none) : Ext M F H F1 (upd H1 Dl o) :=
  ⟨x.f, fun a u m e => by rw [upd_ne (ne_of_none e h)]; exact x.h a u m e, fun a u e => by rw [upd_ne (ne_of_none e f)]; exact x.s a u e, x.n, fun a e => upd_keeps a (x.k a e)⟩
theorem Ext.freeze {M : List Addr} {o : HO} (x : Ext M F H F1 H1) (h : H Dl = none) (e : H1 Dl = some o) (f : F1 Dl = none) : Ext M F H (upd F1 Dl o) H1 :=
  ⟨fun a u q => by rw [upd_ne (ne_of_none (x.f a u q) f)]; exact x.f a u q, x.h, fun a u q => by
    by_cases z : a = Dl
    · subst z; rw [upd_same] at q; rw [← q]; exact e
    · rw [upd_ne z] at q; exact x.s a u q, fun a q k => by rw [upd_ne (fun z => k (by rw [z]; exact h))]; exact x.n a q k, x.k⟩
theorem same_new {o : HO} (f : F Dl = none) : Same F (upd F Dl o) := fun a u q => by rw [upd_ne (ne_of_none q f)]; exact q
theorem take_succ' {α : Type} {l : List α} {i : Nat} {x : α} (h : l[i]? = some x) : l.take (i + 1) = l.take i ++ [x] := by
  rw [List.take_add_one, h]; rfl
theorem ev_lcIf {r : List Sl} {items : List D} {f : D → D} {p : D → Bool} {j : Nat} {vs : List Nat} {tt : TT} {wi : TI} (E : EnvD K F r σ) (hi : EvI K wi σ F items) (hn : items.length < sizeLine)
    (hw : ∀ (σ' : L2.St) (x : Option V), wipe ((wipe σ' vs).set j x) vs = wipe σ' vs)
    (ht : ∀ d F' σ', d ∈ items → Same F F' → EnvD K F' ((wipeR r vs).set j (.d d)) σ' → EvT K tt σ' F' (p d))
    (he : ∀ d F' σ', d ∈ items → Same F F' → EnvD K F' ((wipeR r vs).set j (.d d)) σ' → p d = true → EvD K te σ' F' (f d)) :
    EvD K (tLc wi (gName j) tt te vs) σ F (.lst ((items.filter p).map f)) := fun H s Q q => hi H s _ fun J F1 H1 x1 W1 Dl hD => by
  obtain ⟨G, Y, w, hg, hy⟩ := W1
  refine lc_it w (fun i H' => ∃ F' acc, Ext [] F1 H1 F' H' ∧ F' Dl = none ∧ H' Dl = some (.lst acc) ∧ DenL K F' acc (((items.take i).filter p).map f)) ?_ ?_ ?_ ?_
  · exact ⟨F1, [], Ext.newM x1.s hD, x1.s.free hD, upd_same, .nil⟩
  · rintro i H' _ ⟨F', acc, x, _⟩
    exact hg H' (x.f.trans x.s)
  · rintro i v H' H'' hlt ⟨F', acc, x, fD, eD, l⟩ y
    obtain ⟨d, F2, h1, h2, h3⟩ := hy i H' v H'' hlt (x.f.trans x.s) y
    have hd : d ∈ items := List.mem_of_getElem? h1
    have x2 := Ext.uni x.f x.s h2
    have h3' : Den K (uni F' F2) v d := h3.up (uni_r (x.s.trans h2.same) h2.s)
    have fD2 : uni F' F2 Dl = none := x2.n Dl fD (by rw [eD]; simp)
    have eD2 : H'' Dl = some (.lst acc) := x2.same _ _ eD
    have E2 : EnvD K (uni F' F2) ((wipeR r vs).set j (.d d)) ((wipe σ vs).set j (some v)) := EnvD.set j ((EnvD.wipe E vs).up ((x1.f.trans x.f).trans x2.f)) ⟨v, rfl, h3'⟩
    have sF : Same F (uni F' F2) := (x1.f.trans x.f).trans x2.f
    refine ⟨hw σ _, ?_⟩
    refine ht d _ _ hd sF E2 H'' x2.s _ fun F3 H3 x3 => ?_
    have fD3 : F3 Dl = none := x3.n Dl fD2 (by rw [eD2]; simp)
    have eD3 : H3 Dl = some (.lst acc) := x3.same _ _ eD2
    cases hp : p d with
    | true =>
      rw [if_pos rfl]
      refine ((he d _ _ hd sF E2 hp).up x3.f) H3 x3.s _ fun z F4 H4 x4 d4 => ?_
      have fD4 : F4 Dl = none := x4.n Dl fD3 (by rw [eD3]; simp)
      have eD4 : H4 Dl = some (.lst acc) := x4.same _ _ eD3
      refine ⟨acc, eD4, ?_, F4, acc ++ [z], Ext.mutNew (((x.tr x2).tr x3).tr x4) hD fD4, fD4, upd_same, ?_⟩
      · have := l.length
        rw [List.length_map] at this
        have h5 := List.length_filter_le p (items.take i)
        have h6 := List.length_take_le i items
        omega
      · rw [take_succ' h1, List.filter_append, List.map_append, List.filter_cons, if_pos hp]
        exact (l.up ((x2.f.trans x3.f).trans x4.f)).append (.cons d4 .nil)
    | false =>
      rw [if_neg (by decide)]
      refine ⟨F3, acc, (x.tr x2).tr x3, fD3, eD3, ?_⟩
      rw [take_succ' h1, List.filter_append, List.map_append, List.filter_cons, if_neg (by rw [hp]; decide)]
      show DenL K F3 acc (_ ++ [])
      rw [List.append_nil]
      exact l.up (x2.f.trans x3.f)
  · rintro H' ⟨F', acc, x, fD, eD, l⟩
    rw [List.take_length] at l
    exact q _ _ _ (x1.tr (Ext.freeze x hD eD fD)) (.lst upd_same (l.up (same_new fD)))
theorem et_yes : EvT K tYes σ F true := fun H s Q q => q F H (Ext.refl s)
theorem ev_lc {r : List Sl} {items : List D} {f : D → D} {j : Nat} {vs : List Nat} {wi : TI} (E : EnvD K F r σ) (hi : EvI K wi σ F items) (hn : items.length < sizeLine)
    (hw : ∀ (σ' : L2.St) (x : Option V), wipe ((wipe σ' vs).set j x) vs = wipe σ' vs)
    (he : ∀ d F' σ', d ∈ items → Same F F' → EnvD K F' ((wipeR r vs).set j (.d d)) σ' → EvD K te σ' F' (f d)) :
    EvD K (tLc wi (gName j) tYes te vs) σ F (.lst (items.map f)) := by
  have h := ev_lcIf (p := fun _ => true) E hi hn hw (fun _ _ _ _ _ _ => et_yes) fun d F' σ' h1 h2 h3 _ => he d F' σ' h1 h2 h3
  rwa [List.filter_eq_self.mpr (fun _ _ => rfl)] at h
theorem wipe1 (j : Nat) (σ' : L2.St) (x : Option V) : wipe ((wipe σ' [j]).set j x) [j] = wipe σ' [j] := by
  show ((σ'.set j none).set j x).set j none = σ'.set j none
  rw [List.set_set, List.set_set]

/-! ### statements -/
variable {DE : Ends} {tz tb : TS} {r : List Sl} {d : D}
theorem s_ret (S : Same F H) (h : EvD K te σ F d) (k : ∀ v F' H', Ext [] F H F' H' → Den K F' v d → DE.rt v H') : tRet te DE σ H := h H S _ k
theorem q_asg {j : Nat} (S : Same F H) (E : EnvD K F r σ) (h : EvD K te σ F d) (k : ∀ F' H' σ', Ext [] F H F' H' → EnvD K F' (r.set j (.d d)) σ' → tz DE σ' H') : tSeq (tAsg te (gName j)) tz DE σ H :=
  h H S _ fun v F' H' x dv => k F' H' _ x (EnvD.set j (E.up x.f) ⟨v, rfl, dv⟩)
theorem s_asg {j : Nat} (S : Same F H) (E : EnvD K F r σ) (h : EvD K te σ F d) (k : ∀ F' H' σ', Ext [] F H F' H' → EnvD K F' (r.set j (.d d)) σ' → DE.nx σ' H') : tAsg te (gName j) DE σ H :=
  h H S _ fun v F' H' x dv => k F' H' _ x (EnvD.set j (E.up x.f) ⟨v, rfl, dv⟩)
theorem q_if {tt : TT} {tu tw : TS} {b : Bool} (S : Same F H) (h : EvT K tt σ F b) (h1 : b = true → ∀ F' H', Ext [] F H F' H' → tu { DE with nx := tz DE } σ H') (h2 : b = false → ∀ F' H', Ext [] F H F' H' → tw { DE with nx := tz DE } σ H') :
    tSeq (tIfS tt tu tw) tz DE σ H := h H S _ fun F' H' x => by
  cases b with
  | true => exact h1 rfl F' H' x
  | false => exact h2 rfl F' H' x
theorem s_if {tt : TT} {tu tw : TS} {b : Bool} (S : Same F H) (h : EvT K tt σ F b) (h1 : b = true → ∀ F' H', Ext [] F H F' H' → tu DE σ H') (h2 : b = false → ∀ F' H', Ext [] F H F' H' → tw DE σ H') :
    tIfS tt tu tw DE σ H := h H S _ fun F' H' x => by
  cases b with
  | true => exact h1 rfl F' H' x
  | false => exact h2 rfl F' H' x
/-- a for over data; Pv: turn, frozen part, heap, frame -/
theorem s_for (M : List Addr) (Pv : Nat → Hp → Hp → List Sl → Prop) {items : List D} {wi : TI} {j : Nat} (S : Same F H) (E : EnvD K F r σ) (hi : EvI K wi σ F items)
    (h0 : ∀ F' H', Ext [] F H F' H' → Pv 0 F' H' r)
    (hs : ∀ i d F1 H1 F2 H2 r' σ' (N : L2.St → Hp → Prop), items[i]? = some d → Ext M F H F1 H1 → Pv i F1 H1 r' → Ext [] F1 H1 F2 H2 → EnvD K F2 (r'.set j (.d d)) σ' →
      (∀ F3 H3 r3 σ3, Ext M F2 H2 F3 H3 → EnvD K F3 r3 σ3 → Pv (i + 1) F3 H3 r3 → N σ3 H3) → tb { DE with nx := N, ct := N, bk := DE.nx } σ' H2)
    (hd : ∀ F' H' r' σ', Ext M F H F' H' → EnvD K F' r' σ' → Pv items.length F' H' r' → DE.nx σ' H') : tFor wi (gName j) tb DE σ H :=
  hi H S _ fun J F1 H1 x1 W1 => by
    obtain ⟨G, Y, w, hg, hy⟩ := W1
    refine ⟨fun i m σ3 H3 => m = items.length - i ∧ i ≤ items.length ∧ ∃ F3 r3, Ext M F H F3 H3 ∧ Same F1 F3 ∧ EnvD K F3 r3 σ3 ∧ Pv i F3 H3 r3, ⟨items.length, by simp, Nat.zero_le _, F1, r, x1.wide (by simp), Same.refl _, E.up x1.f, h0 F1 H1 x1⟩, ?_⟩
    rintro i m σ3 H3 ⟨rfl, hle, F3, r3, x, e, E3, p⟩
    have hG := hg H3 (e.trans x.s)
    by_cases hlt : i < items.length
    · refine .inr ⟨w.goes i H3 hlt hG, fun σ' H' => ∃ F4 r4, Ext M F H F4 H' ∧ Same F1 F4 ∧ EnvD K F4 r4 σ' ∧ Pv (i + 1) F4 H' r4, fun σ' H' q => ⟨items.length - (i + 1), by omega, rfl, hlt, q⟩, fun v H4 y => ?_⟩
      obtain ⟨d, F2, h1, h2, h3⟩ := hy i H3 v H4 hlt (e.trans x.s) (w.yields i H3 v H4 hlt hG y)
      have x2 := Ext.uni e x.s h2
      have h3' : Den K (uni F3 F2) v d := h3.up (uni_r (x.s.trans h2.same) h2.s)
      exact hs i d F3 H3 _ H4 r3 _ _ h1 x p x2 (EnvD.set j (E3.up x2.f) ⟨v, rfl, h3'⟩) fun F5 H5 r5 σ5 x5 E5 p5 => ⟨F5, r5, (x.tl x2).trans x5, (e.trans x2.f).trans x5.f, E5, p5⟩
    · have ei : i = items.length := by omega
      subst ei
      exact .inl ⟨w.stops H3 hG, hd F3 H3 r3 σ3 x E3 p⟩
end

/-! ### a def that is pure: its arguments and what it gives, by data -/
def spP (K : PySem.W.Frag) (n : Nat) (f : List D → Option D) : Sp := fun vs H Q _ => ∃ F ds d, Same F H ∧ DenL K F vs ds ∧ f ds = some d ∧ ds.length = n ∧ ∀ v F' H', Ext [] F H F' H' → Den K F' v d → Q v H'
theorem spP_len {K : PySem.W.Frag} {n : Nat} {f : List D → Option D} {vs : List V} {H : Hp} {Q : VK} {E : XK} (h : spP K n f vs H Q E) : vs.length = n := by
  obtain ⟨F, ds, d, _, l, _, e, _⟩ := h
  rw [l.length, e]
theorem ev_call {K : PySem.W.Frag} {n : Nat} {f : List D → Option D} {F : Hp} {σ : L2.St} {ta : TA} {E : XK} {ds : List D} {d : D} (ha : EvA K ta σ F ds) (hf : f ds = some d) (hn : ds.length = n) : EvD K (tCall (spP K n f) [] E ta) σ F d := fun H s Q q =>
  ha H s _ fun vs F1 H1 x1 l1 => ⟨F1, ds, d, x1.s, by rw [List.append_nil]; exact l1, hf, hn, fun v F2 H2 x2 d2 => q v F2 H2 (x1.tr x2) d2⟩
end Nm

set_option Elab.async false
set_option linter.all false
set_option maxRecDepth 100000
set_option maxHeartbeats 2000000
namespace Nm
open PySem PySem.Spec L2

theorem hu4 {k : Nat} {A : Around} (hr : Room k A) : A.units + 64 < cLine := hr.units
section
variable {X : Cx}
/-- text * number -/
def rMulS : R2 := fun x y H Q => ∃ (z : Str) (n : Int), x = .str z ∧ y = .int n ∧ 0 ≤ n ∧ n ≤ 1000000 ∧ z.length * n.toNat ≤ sizeLine ∧ Q (.str ⟨(List.replicate n.toNat z.cps.toList).flatten.toArray⟩) H
theorem fold_cat : ∀ (l : List (Array Nat)) (acc : Array Nat), (l.foldl (· ++ ·) acc).toList = acc.toList ++ (l.map Array.toList).flatten
  | [], acc => by simp
  | a :: l, acc => by simp [fold_cat l, List.append_assoc]
theorem str_ext {a b : Str} (h : a.cps.toList = b.cps.toList) : a = b := by
  obtain ⟨⟨a⟩⟩ := a
  obtain ⟨⟨b⟩⟩ := b
  have e : a = b := h
  rw [e]
theorem o_mul_str : OpR X (binaryOp .Mult) rMulS := by
  intro pins s σ H x y v u Q I rx ry h
  obtain ⟨z, n, rfl, rfl, h0, h1, hz, q⟩ := h
  obtain ⟨t, rfl⟩ := rx
  obtain ⟨t', rfl⟩ := ry
  have big : sizeLine = 16777216 := sizeLine_eq
  have e1 : (decide (n < -(2 ^ 63 : Int)) || decide (n ≥ 2 ^ 63)) = false := by
    rw [decide_eq_false (by omega), decide_eq_false (by omega)]; rfl
  have lz : z.length = z.cps.toList.length := by simp [Str.length]
  refine PySem.P.mul_str e1 (fun a b => ?_) (fun a b => ?_) ?_
  · have hn : 1 ≤ n.toNat := by omega
    have h2 : z.length ≤ z.length * n.toNat := Nat.le_mul_of_pos_right _ hn
    have h3 : (2 ^ 63 - 1 : Int) / n ≥ (2 ^ 63 - 1 : Int) / 1000000 := by
      have : (2 ^ 63 - 1 : Int) / 1000000 * n ≤ 2 ^ 63 - 1 := by
        have : (2 ^ 63 - 1 : Int) / 1000000 * n ≤ (2 ^ 63 - 1 : Int) / 1000000 * 1000000 := Int.mul_le_mul_of_nonneg_left h1 (by decide)
        omega
      exact (Int.le_ediv_iff_mul_le (by omega)).mpr this
    have h4 : (2 ^ 63 - 1 : Int) / 1000000 ≥ 16777216 := by decide
    omega
  · unfold Builtin.Str.tooLong
    simp only [decide_eq_false_iff_not]
    omega
  · by_cases c : n < 1
    · rw [if_pos c]
      have : n.toNat = 0 := by omega
      rw [this] at q
      exact ⟨by decide, .str _, H, I.tok _, ⟨_, rfl⟩, q⟩
    · rw [if_neg c]
      by_cases d : (n == 1 || z.length == 0) = true
      · rw [if_pos d]
        refine ⟨.str z, H, I, ⟨_, rfl⟩, ?_⟩
        have e : (⟨(List.replicate n.toNat z.cps.toList).flatten.toArray⟩ : Str) = z := by
          apply str_ext
          show (List.replicate n.toNat z.cps.toList).flatten = z.cps.toList
          rcases Bool.or_eq_true_iff.mp d with d | d
          · have : n = 1 := by simpa using d
            subst this; simp
          · have : z.cps.toList = [] := by
              have : z.length = 0 := by simpa using d
              rw [lz] at this
              exact List.length_eq_zero_iff.mp this
            rw [this]; simp
        rw [e] at q
        exact q
      · rw [if_neg d]
        have e : (⟨(List.replicate n.toNat z.cps).foldl (· ++ ·) #[]⟩ : Str) = ⟨(List.replicate n.toNat z.cps.toList).flatten.toArray⟩ := by
          apply str_ext
          show ((List.replicate n.toNat z.cps).foldl (· ++ ·) #[]).toList = (List.replicate n.toNat z.cps.toList).flatten
          rw [fold_cat, List.map_replicate]; simp
        refine ⟨?_, .str _, H, I.tok _, ⟨_, rfl⟩, ?_⟩
        · rw [e]
          have : (⟨(List.replicate n.toNat z.cps.toList).flatten.toArray⟩ : Str).length = n.toNat * z.cps.toList.length := by simp [Str.length]
          rw [this, ← lz, Nat.mul_comm]; exact hz
        · rw [e]; exact q
def rMulA (K : PySem.W.Frag) : R2 := fun x y H Q => rI CMul (fun i j => .int (i * j)) x y H Q ∨ rMulS x y H Q ∨ rRep x y H Q
theorem o_mul : OpR X (binaryOp .Mult) (rMulA X.K) := opr_or op_mul (opr_or o_mul_str op_rep)

/-- a[i]: list, tuple, text, dict -/
def rIxD : R2 := fun x y H Q => ∃ a v, x = .ref a ∧ DGet H a y (some v) ∧ Q v H
theorem ix_dict (hu : X.A.units + 1 < cLine) : IxR X Nm.rIxD := by
  intro value slice pins s σ H x y v u Q I rx ry h hs
  obtain ⟨a, z, rfl, g, q⟩ := h
  cases (show v = Value.ref a from rx)
  exact PyProof.Rows.tail_any (dict_typeIs I g) PySem.F.slot_dict_getitem.lookup (d_getItem hu I g ry fun w' s' I' rw' => ⟨z, H, I', rw', q⟩) hs
def rIxA (K : PySem.W.Frag) : R2 := fun x y H Q => rIx K x y H Q ∨ Nm.rIxD x y H Q
theorem ix_any (hu : X.A.units + 1 < cLine) : IxR X (rIxA X.K) := ix_seq.or (ix_dict hu)
/-- a[i:j] -/
def rSlAny (K : PySem.W.Frag) : V → Option Int → Option Int → Hp → VK → Prop := fun x lo hi H Q => rSlS x lo hi H Q ∨ rSlL K x lo hi H Q ∨ rSlA K x lo hi H Q
theorem sl_any : SlR X (rSlAny X.K) := sl_str.or (sl_list.or sl_tupA)
abbrev tSome (t : TE) : TO := tPart t
abbrev tNo : TO := tNoPart
/-- == != -/
def rEqA (K : PySem.W.Frag) : R2 := fun x y H Q => rEq x y H Q ∨ rEqD K x y H Q
def rNeA (K : PySem.W.Frag) : R2 := fun x y H Q => rNe x y H Q ∨ rNeD K x y H Q
theorem o_eq (hu : X.A.units + 64 < cLine) : OpR X (compareOp .Eq) (rEqA X.K) := opr_or op_eq (op_eqD hu)
theorem o_ne (hu : X.A.units + 64 < cLine) : OpR X (compareOp .NotEq) (rNeA X.K) := opr_or op_ne (op_neD hu)
def rIsNone : R2 := fun x y H Q => y = .non ∧ Q (.bl (decide (x = .non))) H
def rNotNone : R2 := fun x y H Q => y = .non ∧ Q (.bl (!decide (x = .non))) H
def rAbs : List V → Hp → VK → Prop := fun xs H Q => ∃ i, xs = [.int i] ∧ Q (.int (if i < 0 then -i else i)) H
def rMax2 : List V → Hp → VK → Prop := fun xs H Q => ∃ i j, xs = [.int i, .int j] ∧ Q (.int (if j > i then j else i)) H
def rMin2 : List V → Hp → VK → Prop := fun xs H Q => ∃ i j, xs = [.int i, .int j] ∧ Q (.int (if j < i then j else i)) H
def rJoin (K : PySem.W.Frag) : V → List V → Hp → VK → Prop := fun x xs H Q => ∃ a p, ∃ ys : List Str, x = .str a ∧ xs = [.ref p] ∧ (SqL K H p (ys.map V.str) ∨ SqT K H p (ys.map V.str)) ∧
  (ys.map (·.length)).sum + ys.length * a.length ≤ 16777216 ∧ Q (.str (Txt.join a ys)) H
def rIsiA (K : PySem.W.Frag) : List V → Hp → VK → Prop := fun xs H Q => rIsi K xs H Q ∨ rIsiT K xs H Q
theorem c_isi : CallR X (.builtin "isinstance") (rIsiA X.K) := calr_or call_isi call_isiT
def rLtA (K : PySem.W.Frag) : R2 := rCmpA (fun i j => decide (i < j)) fun a b => decide (a < b)
def rLeA (K : PySem.W.Frag) : R2 := rCmpA (fun i j => decide (i ≤ j)) fun a b => !decide (b < a)
def rGtA (K : PySem.W.Frag) : R2 := rCmpA (fun i j => decide (j < i)) fun a b => decide (b < a)
def rGeA (K : PySem.W.Frag) : R2 := rCmpA (fun i j => decide (j ≤ i)) fun a b => !decide (a < b)
theorem x_lt (hu : X.A.units < cLine) : OpR X (compareOp .Lt) (rLtA X.K) := o_lt
theorem x_le (hu : X.A.units < cLine) : OpR X (compareOp .LtE) (rLeA X.K) := o_le
theorem x_gt (hu : X.A.units < cLine) : OpR X (compareOp .Gt) (rGtA X.K) := o_gt
theorem x_ge (hu : X.A.units < cLine) : OpR X (compareOp .GtE) (rGeA X.K) := o_ge

/-! ### repr -/
def rReprD (K : PySem.W.Frag) : List V → Hp → VK → Prop := fun xs H Q => ∃ v d, xs = [v] ∧ Dp K H v d ∧ d.showable = true ∧ d.depth ≤ 40 ∧ d.shown.length ≤ sizeLine ∧ Q (.str d.shown) H
theorem reads_of_ref {h : Heap} {u : Value} {d : PyData} {as : List Addr} (r : Reads h u d as) : d.hasDict = false → (∃ a, u = .ref a) ∨ ((d = .none ∧ u = .none) ∨ (∃ b, d = .bool b ∧ u = .bool b) ∨ (∃ i t, d = .int i ∧ u = .int i t) ∨ ∃ x t, d = .str x ∧ u = .str x t) := fun hd => by
  cases r with
  | none => exact .inr (.inl ⟨rfl, rfl⟩)
  | bool b => exact .inr (.inr (.inl ⟨b, rfl, rfl⟩))
  | int i t => exact .inr (.inr (.inr (.inl ⟨i, t, rfl, rfl⟩)))
  | str x t => exact .inr (.inr (.inr (.inr ⟨x, t, rfl, rfl⟩)))
  | list => exact .inl ⟨_, rfl⟩
  | tuple => exact .inl ⟨_, rfl⟩
  | dict => exact .inl ⟨_, rfl⟩
mutual
theorem dp_noDict {K : PySem.W.Frag} {H : Hp} : ∀ (d : PyData) {v : V}, Dp K H v d → d.hasDict = false
  | .none, _, _ => by simp only [PyData.hasDict]
  | .bool _, _, _ => by simp only [PyData.hasDict]
  | .int _, _, _ => by simp only [PyData.hasDict]
  | .str _, _, _ => by simp only [PyData.hasDict]
  | .list ds, _, h => by cases h with | lst _ l => simp only [PyData.hasDict]; exact dp_noDictL ds l
  | .tuple ds, _, h => by cases h with | tup _ l => simp only [PyData.hasDict]; exact dp_noDictL ds l
  | .dict _, _, h => by cases h
theorem dp_noDictL {K : PySem.W.Frag} {H : Hp} : ∀ (ds : List PyData) {vs : List V}, DpAll K H vs ds → PyData.hasDictAll ds = false
  | [], _, _ => by simp only [PyData.hasDictAll]
  | d :: ds, _, h => by cases h with | cons a b => simp only [PyData.hasDictAll, dp_noDict d a, dp_noDictL ds b, Bool.or_self]
end
theorem c_reprD (hg : X.A.guards = some []) (hu : X.A.units + 64 < cLine) : CallR X (.builtin "repr") (rReprD X.K) := by
  intro pins s σ H xs us Q I r h
  obtain ⟨v, d, rfl, dp, hs, hd, hz, q⟩ := h
  obtain ⟨u, rfl, ru⟩ := vals1 r
  obtain ⟨as, rd⟩ := Dp.reads I d v u dp ru
  rcases reads_of_ref rd (dp_noDict d dp) with ⟨a, rfl⟩ | ⟨rfl, rfl⟩ | ⟨b, rfl, rfl⟩ | ⟨i, t, rfl, rfl⟩ | ⟨x, t, rfl, rfl⟩
  · exact repr_of_reads' rd hs (fun e => absurd e (by rw [dp_noDict d dp]; decide)) hg (by omega) (fun _ _ e => e) (fun h' u tk hk => ⟨.str d.shown, H, I.kept (t' := tk) hk, ⟨_, rfl⟩, q⟩) hz
  · have e : PyData.none.shown = "None" := by simp only [PyData.shown]
    rw [e] at q
    exact PySem.P.repr_of_none ⟨.str _, H, I.tok _, ⟨_, rfl⟩, q⟩
  · have e : (PyData.bool b).shown = if b = true then Str.ofString "True" else Str.ofString "False" := by simp only [PyData.shown]
    rw [e] at q
    exact PySem.P.repr_of_bool ⟨.str _, H, I.tok _, ⟨_, rfl⟩, q⟩
  · have e : (PyData.int i).shown = toString i := by simp only [PyData.shown]
    rw [e] at q
    exact PySem.P.repr_of_int (by simpa [PyData.showable] using hs) ⟨.str _, H, I.tok _, ⟨_, rfl⟩, q⟩
  · have e : (PyData.str x).shown = reprText x := by simp only [PyData.shown]
    rw [e] at q hz
    exact PySem.P.repr_of_str ⟨.str _, H, I.tok _, ⟨_, rfl⟩, q⟩ hz
/-! ### repr of a dict whose values are plain -/
def kPy : Key → PyData
  | .inl i => .int i
  | .inr x => .str x
def vPy : V → PyData
  | .bl b => .bool b
  | .int i => .int i
  | .str x => .str x
  | _ => .none
def kvPy (kvs : List (Key × V)) : List (PyData × PyData) := kvs.map fun p => (kPy p.1, vPy p.2)
def rReprK : List V → Hp → VK → Prop := fun xs H Q => ∃ a kvs, xs = [.ref a] ∧ Rd H a (.dK kvs) ∧ kvs.all (fun p => flatV p.2) = true ∧ (PyData.dict (kvPy kvs)).showable = true ∧ (PyData.dict (kvPy kvs)).shown.length ≤ sizeLine ∧ (PyData.dict (kvPy kvs)).depth ≤ 40 ∧
  Q (.str (PyData.dict (kvPy kvs)).shown) H
theorem reads_flat {h : Heap} {v : V} {u : Value} (f : flatV v = true) (r : RelV v u) : Reads h u (vPy v) [] := by
  cases v with
  | non => cases r; exact .none
  | bl b => cases r; exact .bool b
  | int i => obtain ⟨t, rfl⟩ := r; exact .int i t
  | str x => obtain ⟨t, rfl⟩ := r; exact .str x t
  | _ => cases f
theorem reads_key {h : Heap} {k : Key} {u : Value} (r : keyIs k u = true) : Reads h u (kPy k) [] := by
  rcases keyIs_shape r with ⟨i, t, rfl, rfl⟩ | ⟨x, t, rfl, rfl⟩
  · exact .int i t
  · exact .str x t
theorem reads_pairs {P : Program} {w : World} {h : Heap} : ∀ {es : List DictEntry} {vs : List (Key × Value)} {kvs : List (Key × V)}, Pairs (mixKind P w) es vs → KV kvs vs → kvs.all (fun p => flatV p.2) = true →
    ReadsAll h (es.map (·.key)) ((kvPy kvs).map (·.1)) [] ∧ ReadsAll h (es.map (·.val)) ((kvPy kvs).map (·.2)) []
  | es, vs, kvs, p, r, f => by
    induction p generalizing kvs with
    | nil => cases r; exact ⟨.nil, .nil⟩
    | cons a b c ih =>
      cases r with
      | cons q t =>
        rw [List.all_cons, Bool.and_eq_true] at f
        obtain ⟨h1, h2⟩ := ih _ t f.2
        refine ⟨?_, ?_⟩
        · exact ReadsAll.cons (as := []) (reads_key (by rw [q.1]; exact a)) h1
        · exact ReadsAll.cons (as := []) (reads_flat f.1 (by show RelV _ (DictEntry.val _); rw [b]; exact q.2)) h2
theorem c_reprK (hg : X.A.guards = some []) (hu : X.A.units + 64 < cLine) : CallR X (.builtin "repr") rReprK := by
  intro pins s σ H xs us Q I r h
  obtain ⟨a, kvs, rfl, rd, fl, hs, hz, hd, q⟩ := h
  obtain ⟨u, rfl, ru⟩ := vals1 r
  cases (show u = Value.ref a from ru)
  obtain ⟨_, ns, vs, rv, o, es, ep, h1, h2, h3, _, h4, _⟩ := dk_rd I.hok rd
  obtain ⟨k1, k2⟩ := reads_pairs (h := s.heap) h4 rv fl
  have rr : Reads s.heap (.ref a) (.dict (kvPy kvs)) ([a] ++ [] ++ []) := Reads.dict h1 h2.1 h3 k1 k2
  exact repr_of_reads' rr hs (fun _ m => by
    have e : sysModules = a := by simpa using m
    rw [← e] at ns
    simp at ns) hg (by omega) (fun _ _ e => e) (fun h' u tk hk => ⟨.str _, H, I.kept (t' := tk) hk, ⟨_, rfl⟩, q⟩) hz
def rReprA (K : PySem.W.Frag) : List V → Hp → VK → Prop := fun xs H Q => rReprD K xs H Q ∨ rReprK xs H Q
theorem c_repr (hg : X.A.guards = some []) (hu : X.A.units + 64 < cLine) : CallR X (.builtin "repr") (rReprA X.K) := calr_or (c_reprD hg hu) (c_reprK hg hu)
end
end Nm

set_option Elab.async false
set_option linter.all false
set_option maxRecDepth 100000
set_option maxHeartbeats 2000000
namespace Nm
open PySem PySem.Spec L2 PyProof.Rows

/-! ### defs whose promise wants that no repr is under way -/
structure FnOkG (P : Program) (w : World) (K : PySem.W.Frag) (mg : Str → Option Value) (base : Heap) (CX : CXT) (k : Nat) (f : Addr) (fd : FuncData) (ps : List Str) (sp : Sp) : Prop where
  len : ∀ vs H Q E, sp vs H Q E → vs.length = ps.length
  run : ∀ (A : Around) (outer : List Env) (s : Shared) (H : Hp) (args : Args) (us : List Value) (vs : List V) (Q : VK) (E : XK), A.guards = some [] → Room k A → Env0 P w K mg base A outer s H → BindsTo s fd args (ps.zip us) →
    Vals vs us → sp vs H Q E → codeAny (model P w) A (.call (.ref f) args) (CR CX outer P w H s Q E) s
section
variable {P : Program} {w : World} {K : PySem.W.Frag} {mg : Str → Option Value} {base : Heap} {CX : CXT} {k : Nat} {f : Addr} {fd : FuncData} {ps : List Str} {sp : Sp}
theorem FnOkG.mono {j : Nat} (F : FnOkG P w K mg base CX j f fd ps sp) (h : j ≤ k) : FnOkG P w K mg base CX k f fd ps sp :=
  ⟨F.len, fun A outer s H args us vs Q E g hr => F.run A outer s H args us vs Q E g (hr.mono h)⟩
/-- the body, from its term and its reading -/
theorem fnG {x qual : Str} {st : Stmt} {N : List Str} (F : Fun K x qual st f fd) (S : FnScope N ps (defScope st)) (len : ∀ vs H Q E, sp vs H Q E → vs.length = ps.length)
    (hbody : ∀ (cdv : Value) (A : Around) (outer : List Env) (s : Shared) (H : Hp) (vs : List V) (Q : VK) (E : XK), A.guards = some [] → Room k (A.deeper (envOfC qual (defScope st) s.heap.objs.size f cdv)) → sp vs H Q E →
      ∃ t, PSs (cxOf CX P w K mg base N qual (defScope st) f cdv A outer s H E) (defBody st) t ∧ t { nx := fun _ H' => Q .non H', rt := Q } (start N vs) H) : FnOkG P w K mg base CX (k + 1) f fd ps sp := by
  refine ⟨len, fun A outer s H args us vs Q E g hr e0 hb r hsp => ?_⟩
  -- a promise that speaks of this one call alone
  have one : FnOk P w K mg base CX (k + 1) f fd ps (fun vs' H' Q' E' => A.guards = some [] ∧ vs' = vs ∧ H' = H ∧ Q' = Q ∧ E' = E) → codeAny (model P w) A (.call (.ref f) args) (CR CX outer P w H s Q E) s := fun F' =>
    F'.run A outer s H args us vs Q E hr e0 hb r ⟨g, rfl, rfl, rfl, rfl⟩
  obtain ⟨oc, od, kV, doc, pm, an, cdv, ct, osl, hfd, lk, hcd⟩ := F.ex
  subst hfd
  have hl := len _ _ _ _ hsp
  have KX : K.In s.heap := e0.mod.kin.keeps fun b o e => (e0.bs b o e).1
  have kinds : ∀ y ∈ ps.zip us, (defScope st).names.lookup y.1 = some .local ∨ ((defScope st).names.lookup y.1 = some .cell ∧ ((cellsFrom (s.heap.objs.size + 1) (defScope st).names []).lookup y.1).isSome = true) := by
    rintro ⟨n, v⟩ hy
    have hn : n ∈ ps := (List.of_mem_zip hy).1
    exact (S.par n hn).imp id fun c => ⟨c, PySem.W.cellsFrom_some _ _ _ (Or.inl c)⟩
  refine codeAny_call_function hr.depth (KX _ _ lk) rfl S.co S.gen rfl (PySem.W.codeRec_of KX hcd) (hb _ _ _ _ ?_)
  refine wpAny_newFunctionEnv_cells S.kind kinds fun env he s1 x => ?_
  subst he
  refine ⟨(e0.mod.nolimit.keeps fun b o e => (e0.bs b o e).1).keeps x.toInCall.keep, codeAny_func ?_⟩
  obtain ⟨t, ht, hq⟩ := hbody cdv A outer s H vs Q E g (hr.deeper _) hsp
  have J0 := inv_start (CX := CX) (E := E) S hr.hd e0 hl r x
  refine wpAny_mono (ht.run [] s1 (start N vs) H _ J0 hq) (fun fl s' hs => ?_) fun e s' hs => hs
  match fl, hs with
  | .ret u, ⟨v, _, H', J, rv, q⟩ => exact ⟨v, H', J.os, J.bare, J.base, J.hok, rv, q⟩
  | .next, ⟨_, H', J, q⟩ => exact ⟨.non, H', J.os, J.bare, J.base, J.hok, rfl, q⟩
  | .brk, ⟨_, _, _, q⟩ => exact q.elim
  | .cont, ⟨_, _, _, q⟩ => exact q.elim
theorem fnG0 {x qual : Str} {st : Stmt} {N : List Str} (F : Fun K x qual st f fd) (S : FnScope N ps (defScope st)) (len : ∀ vs H Q E, sp vs H Q E → vs.length = ps.length)
    (hbody : ∀ (cdv : Value) (A : Around) (outer : List Env) (s : Shared) (H : Hp) (vs : List V) (Q : VK) (E : XK), A.guards = some [] → Room k (A.deeper (envOfC qual (defScope st) s.heap.objs.size f cdv)) → sp vs H Q E →
      ∃ t, PSs (cxOf CX0 P w K mg base N qual (defScope st) f cdv A outer s H E).nox (defBody st) t ∧ t { nx := fun _ H' => Q .non H', rt := Q } (start N vs) H) : FnOkG P w K mg base CX0 (k + 1) f fd ps sp :=
  fnG F S len fun cdv A outer s H vs Q E g hr h => by
    obtain ⟨t, h1, h2⟩ := hbody cdv A outer s H vs Q E g hr h
    exact ⟨t, h1.nox, h2⟩
end
section
variable {X : Cx} {CX : CXT} {k : Nat} {f : Addr} {fd : FuncData} {ps : List Str} {sp : Sp} {dvs : List V} {ds : List Value} {E : XK} {x : Str} {p pos : Pos} {e : Expr} {es : List Expr} {t : TA}
theorem pe_callG (F : FnOkG X.prog X.w X.K X.mg X.base CX k f fd ps sp) (hr : Room k X.A) (g : X.A.guards = some []) (hg : Gl X x) (hm : X.mg x = some (.ref f)) (hk : PySem.W.keepIn X.K (.ref f) = true) (hb : Binds X.K fd ps ds) (hd : Vals dvs ds) (hx : Passes CX X E)
    (ha : PA X (e :: es) t) (hdb : (x == ("__debug__" : Str)) = false := by decide) (he : starEach (e :: es) X.env = (false, eval e X.env) :: starEach es X.env := by rfl) (hpl : (backTo pos (starEach es X.env)).any (·.1) = false := by rfl) :
    PE X (.Call (.Name x p) (e :: es) [] pos) (tCall sp dvs E t) :=
  -- for this context the promise holds whatever stands around, so the plain rule serves
  ⟨fun pins s σ H Q I h => by
    refine wpAny_Call_Name_kw (ld_glob I hg hm ?_ hdb)
    refine PySem.W.callWith_K (h₀ := X.base) I.ok.mod.kin hk (thn (ha.run pos pins s σ H _ I h) fun us s1 ⟨vs, H1, I1, r, q⟩ => ⟨I1.kIn, ?_⟩) he hpl
    have r2 : Vals (vs ++ dvs) (us ++ ds) := r.append hd
    have hl : (us ++ ds).length = ps.length := r2.length ▸ F.len _ _ _ _ q
    refine wpAny_call (codeAny_mono (F.run X.A X.stack s1 H1 ⟨us, []⟩ (us ++ ds) (vs ++ dvs) Q E g hr I1.env0 (hb s1 us I1.kIn hl) r2 q) fun res s' hq => ?_)
    match res, hq with
    | .error e, hq => exact hx pins σ H1 s1 e s' I1 hq
    | .ok (.ret u), hq => exact I1.after hq
    | .ok .next, hq => exact hq.elim
    | .ok .brk, hq => exact hq.elim
    | .ok .cont, hq => exact hq.elim⟩
end

/-! ### the end of a law whose def wants that no repr is under way -/
theorem law_callG {P : Program} {w : World} {K : PySem.W.Frag} {mg mb : Str → Option Value} {k : Nat} {fa a : Addr} {fd : FuncData} {x : Str} {sp : Sp} {s1 : Shared} {vs : List Value} {ns : List Int}
    (KX : K.In s1.heap) (hns : s1.heap.Ns mainGlobals mg) (hb : s1.heap.Ns builtinsNs mb) (hbb : ∀ x : Str, x ≠ "__name__" → mb x = bootBuiltins x) (hlim : s1.heap.NoLimit) (hg : s1.gens = #[])
    (ha : s1.heap.get? a = some { cls := .type "list", data := .seq vs.toArray }) (hi : IntsAre vs ns) (hl : ns.length ≤ sizeLine) (hr : Room k callerA)
    (F : ∀ base : Heap, K.In base → base.Ns mainGlobals mg → FnOkG P w K mg base CX0 k fa fd [x] sp) (hbind : ∀ (s : Shared) (u : Value), BindsTo s fd ⟨[u], []⟩ [(x, u)])
    (hsp : ∀ H : Hp, Only H → SqL K H a (ns.map V.int) → sp [.ref a] H (fun v _ => v = .bl true) fun _ _ _ => False) :
    codeAny (model P w) callerA (.call (.ref fa) ⟨[.ref a], []⟩) (fun r s' => r = .ok (.ret (.bool true)) ∧ OldK s1.heap s'.heap ∧ s'.os = s1.os ∧ AllBare s'.gens) s1 := by
  have rv := vals_ints hi
  -- the heap tracks the script at most
  have main : ∀ H : Hp, Only H → SqL K H a (ns.map V.int) → HOk P w H s1.heap → (∀ b u, H b = some u → b = a ∧ K.lookup a = none) →
      codeAny (model P w) callerA (.call (.ref fa) ⟨[.ref a], []⟩) (fun r s' => r = .ok (.ret (.bool true)) ∧ OldK s1.heap s'.heap ∧ s'.os = s1.os ∧ AllBare s'.gens) s1 := by
    intro H only seq hok one
    have free : ∀ {b : Addr} {o : Obj} {es : Array DictEntry} {ep : Nat}, s1.heap.get? b = some o → o.data = .dict es ep → H b = none := by
      intro b o es ep e d
      cases q : H b with
      | none => rfl
      | some u =>
        obtain ⟨rfl, _⟩ := one b u q
        rw [ha] at e
        cases e
        exact nomatch d
    have ns1 : ∀ {b : Addr} {m : Str → Option Value}, s1.heap.Ns b m → (hidT s1.heap H).Ns b m := by
      rintro b m ⟨o, es, ep, e, d, r⟩
      exact ⟨o, es, ep, hidT_get e (free e d), d, r⟩
    have kin : K.In (hidT s1.heap H) := by
      intro b o e
      refine hidT_get (KX b o e) ?_
      cases q : H b with
      | none => rfl
      | some u =>
        obtain ⟨rfl, z⟩ := one b u q
        rw [z] at e
        cases e
    have md : Mod K mg (hidT s1.heap H) := by
      obtain ⟨mc, h1, h2⟩ := hlim
      exact ⟨kin, ns1 hns, ⟨mb, ns1 hb, hbb⟩, ⟨mc, ns1 h1, h2⟩⟩
    have e0 : Env0 P w K mg (hidT s1.heap H) callerA [] s1 H :=
      ⟨rfl, md, fun b o e => of_hidT e, Nat.le_of_eq (hidT_size _ _), trivial, fun b hb => absurd hb (by simp [frs]), hok, .of_eq hg⟩
    refine codeAny_mono ((F _ kin (ns1 hns)).run callerA [] s1 H ⟨[.ref a], []⟩ [.ref a] [.ref a] _ _ rfl hr e0 (hbind s1 (.ref a)) (.cons rfl .nil) (hsp H only seq)) fun r s' h => ?_
    match r, h with
    | .error e, h => exact h.elim
    | .ok .next, h => exact h.elim
    | .ok .brk, h => exact h.elim
    | .ok .cont, h => exact h.elim
    | .ok (.ret u), ⟨v, H', os, bare, un, hok', r', q⟩ =>
      have q' : v = .bl true := q
      subst q'
      obtain rfl : u = Value.bool true := r'
      refine ⟨rfl, OldK.of_keep fun b o e => ?_, os, bare⟩
      cases z : H b with
      | none => exact un.keep b o e z (by simp [frs]) (by simp)
      | some u =>
        rcases only b with n | ⟨ob, xs, n⟩
        · rw [z] at n; cases n
        · have same : s1.heap.get? b = some ob := (hok b _ n).1
          have after : s'.heap.get? b = some ob := (hok' b _ (un.frzs b ob _ n)).1
          rw [e] at same
          cases same
          exact after
  cases hk : K.lookup a with
  | some o =>
    have e := KX a o hk
    rw [ha] at e
    cases e
    refine main (fun _ => none) (fun _ => .inl rfl) (.inr ⟨_, vs.toArray, _, hk, rfl, rfl, rfl, ?_, ?_⟩) (fun b u z => ?_) (fun b u z => ?_)
    · rw [List.size_toArray, hi.length]; exact hl
    · simpa using rv
    · exact nomatch z
    · exact nomatch z
  | none =>
    have at_a : ∀ b u, (if b = a then some (HO.frz { cls := .type "list", data := .seq vs.toArray } (.lst (ns.map V.int))) else none) = some u → b = a ∧ u = HO.frz { cls := .type "list", data := .seq vs.toArray } (.lst (ns.map V.int)) := by
      intro b u z
      by_cases hb : b = a
      · rw [if_pos hb] at z; exact ⟨hb, (Option.some.inj z).symm⟩
      · rw [if_neg hb] at z; cases z
    refine main (fun b => if b = a then some (.frz { cls := .type "list", data := .seq vs.toArray } (.lst (ns.map V.int))) else none) (fun b => ?_) (.inl (.inr ⟨{ cls := .type "list", data := .seq vs.toArray }, if_pos rfl⟩)) (fun b u z => ?_) (fun b u z => ⟨(at_a b u z).1, hk⟩)
    · by_cases hb : b = a
      · exact .inr ⟨_, _, if_pos hb⟩
      · exact .inl (if_neg hb)
    · obtain ⟨rfl, rfl⟩ := at_a b u z
      refine ⟨ha, ?_, vs, _, rv, ha⟩
      rw [List.length_map]; exact hl
theorem walkG {l : PySem.W.OpenLaw} {n k : Nat} {q : Program} {loose : List Str} {XP : (Str → Option Value) → Heap → Prop} {YP : World → Heap → Prop} {d : DefRec} {K : Params → PySem.W.Frag} {sp : PySem.W.Frag → Sp} {x : Str}
    (hn : l.most = some n) (hn2 : n ≤ sizeLine) (hdf : d.params.defaults = []) (hr : Room k callerA) (hY : ∀ (w : World) (h : Heap), YP w h → (K w.params).In h)
    (F : ∀ (w : World) (mg : Str → Option Value) (fa : Addr) (h : Heap), (K w.params).In h → h.Ns mainGlobals mg → mg d.name = some (.ref fa) →
      ∃ fd : FuncData, (∀ (s : Shared) (u : Value), BindsTo s fd ⟨[u], []⟩ [(x, u)]) ∧ ∀ base : Heap, (K w.params).In base → base.Ns mainGlobals mg → FnOkG l.prog w (K w.params) mg base CX0 k fa fd [x] (sp (K w.params)))
    (hsp : ∀ (K : PySem.W.Frag) (H : Hp) (a : Addr) (ns : List Int), ns.length ≤ n → Only H → SqL K H a (ns.map V.int) → sp K [.ref a] H (fun v _ => v = .bl true) fun _ _ _ => False) :
    PySem.W.WalkO q loose XP YP l.row.toRowW d [] (fun f vs => PySem.call f vs) := by
  refine Att.attach_call hn hdf ?_
  intro w s0 s1 mg mb fa o pm cd doc a vs ns G Y ho hd hcd hmg hobj hints hlen hg
  obtain ⟨fd, hb, hF⟩ := F w mg fa _ (hY w _ Y) G.T.g hmg
  exact law_callG (hY w _ Y) G.T.g G.T.b G.T.builtins G.T.nolimit hg hobj hints (Nat.le_trans hlen hn2) hr hF hb fun H hO hS => hsp (K w.params) H a ns hlen hO hS
end Nm

set_option Elab.async false
set_option linter.all false
set_option maxRecDepth 100000
set_option maxHeartbeats 1000000
namespace Nm
open PySem PySem.Spec L2
section
variable {K : PySem.W.Frag} {F H : Hp} {σ : L2.St} {ta tb tc te : TE} {d : D}
theorem rvA_eq_int {i j : Int} : RvD K (rEqA K) (.int i) (.int j) (.bl (decide (i = j))) := fun F H x y s hx hy Q q => .inl (rv_eq_int (K := K) F H x y s hx hy Q q)
theorem rvA_eq_str {i j : Str} : RvD K (rEqA K) (.str i) (.str j) (.bl (decide (i = j))) := fun F H x y s hx hy Q q => .inl (rv_eq_str (K := K) F H x y s hx hy Q q)
theorem rvA_ne_int {i j : Int} : RvD K (rNeA K) (.int i) (.int j) (.bl (!decide (i = j))) := fun F H x y s hx hy Q q => .inl (rv_ne_int (K := K) F H x y s hx hy Q q)
theorem rvA_ne_str {i j : Str} : RvD K (rNeA K) (.str i) (.str j) (.bl (!decide (i = j))) := fun F H x y s hx hy Q q => .inl (rv_ne_str (K := K) F H x y s hx hy Q q)
theorem rc_isiA {t n : String} {b : Bool} (e : tyD d = some t) (hb : kitB t n = some b) : RcD K (rIsiA K) [d, .ty n] (.bl b) := fun F H xs s hx Q q => .inl (rc_isi (K := K) e hb F H xs s hx Q q)
theorem rv_lt_int {i j : Int} : RvD K (rLtA K) (.int i) (.int j) (.bl (decide (i < j))) := rv_cmp_int
theorem rv_le_int {i j : Int} : RvD K (rLeA K) (.int i) (.int j) (.bl (decide (i ≤ j))) := rv_cmp_int
theorem rv_gt_int {i j : Int} : RvD K (rGtA K) (.int i) (.int j) (.bl (decide (j < i))) := rv_cmp_int
theorem rv_ge_int {i j : Int} : RvD K (rGeA K) (.int i) (.int j) (.bl (decide (j ≤ i))) := rv_cmp_int
theorem rv_mul_int {i j : Int} (h : CMul i j) : RvD K (rMulA K) (.int i) (.int j) (.int (i * j)) := fun F H x y s hx hy Q q => .inl (rv_I (g := fun i j => i * j) h F H x y s hx hy Q q)
theorem rv_ix_str {z : Str} {i : Int} {c : Nat} (hz : z.length ≤ sizeLine) (h : atI z.cps.toList i = some c) : RvD K (rIxA K) (.str z) (.int i) (.str ⟨#[c]⟩) := fun F H x y s hx hy Q q => by
  cases hx; cases hy
  exact .inl (.inr (.inr ⟨z, i, c, rfl, rfl, hz, h, q _ F H (Ext.refl s) (.str _)⟩))
theorem atI_den {F : Hp} {xs : List V} {ds : List D} {i : Int} (l : DenL K F xs ds) (h : atI ds i = some d) : ∃ v, atI xs i = some v ∧ Den K F v d := by
  unfold atI at h ⊢
  rw [l.length]
  cases e : ixN ds.length i with
  | none => rw [e] at h; cases h
  | some j =>
    rw [e] at h
    exact l.get h
theorem rv_ix_lst {ds : List D} {i : Int} (h : atI ds i = some d) : RvD K (rIxA K) (.lst ds) (.int i) d := fun F H x y s hx hy Q q => by
  cases hy
  cases hx with
  | lst a l =>
    obtain ⟨v, h1, h2⟩ := atI_den l h
    exact .inl (.inl ⟨_, _, i, v, rfl, rfl, SqL.of (s _ _ a), h1, q _ F H (Ext.refl s) h2⟩)
theorem rv_ix_tup {ds : List D} {i : Int} (h : atI ds i = some d) : RvD K (rIxA K) (.tup ds) (.int i) d := fun F H x y s hx hy Q q => by
  cases hy
  cases hx with
  | tup a l =>
    obtain ⟨v, h1, h2⟩ := atI_den l h
    exact .inl (.inr (.inl ⟨_, _, i, v, rfl, rfl, same_t s a, h1, q _ F H (Ext.refl s) h2⟩))
theorem rc_abs {i : Int} : RcD K rAbs [.int i] (.int (if i < 0 then -i else i)) := fun F H xs s hx Q q => by
  cases hx with | cons h t => cases h; cases t; exact ⟨i, rfl, q _ F H (Ext.refl s) (.int _)⟩
theorem rc_max2 {i j : Int} : RcD K rMax2 [.int i, .int j] (.int (if j > i then j else i)) := fun F H xs s hx Q q => by
  cases hx with | cons h t => cases h; cases t with | cons h t => cases h; cases t; exact ⟨i, j, rfl, q _ F H (Ext.refl s) (.int _)⟩
theorem rc_min2 {i j : Int} : RcD K rMin2 [.int i, .int j] (.int (if j < i then j else i)) := fun F H xs s hx Q q => by
  cases hx with | cons h t => cases h; cases t with | cons h t => cases h; cases t; exact ⟨i, j, rfl, q _ F H (Ext.refl s) (.int _)⟩
theorem ev_chain {r r' : R2} {a b c : D} {p q : Bool} (ha : EvD K ta σ F a) (hb : EvD K tb σ F b) (hr : RvD K r a b (.bl p)) (hc : p = true → EvD K tc σ F c) (hr' : p = true → RvD K r' b c (.bl q)) : EvD K (tChain r r' ta tb tc) σ F (.bl (p && q)) := fun H s Q k =>
  ha H s _ fun x F1 H1 x1 d1 => (hb.up x1.f) H1 x1.s _ fun y F2 H2 x2 d2 => hr F2 H2 x y x2.s (d1.up x2.f) d2 _ fun z F3 H3 x3 d3 => by
    cases d3
    refine ⟨p, rfl, ?_⟩
    cases p with
    | true =>
      rw [if_pos rfl]
      exact ((hc rfl).up (x1.f.trans (x2.f.trans x3.f))) H3 x3.s _ fun w F4 H4 x4 d4 => hr' rfl F4 H4 y w x4.s ((d2.up x3.f).up x4.f) d4 _ fun v F5 H5 x5 d5 => k v F5 H5 ((((x1.tr x2).tr x3).tr x4).tr x5) d5
    | false =>
      rw [if_neg (by decide)]
      exact k _ F3 H3 ((x1.tr x2).tr x3) (.bl false)
theorem if_some {α : Type} {c : Bool} {a d : α} (h : (if c = true then some a else none) = some d) : c = true ∧ a = d := by
  cases c with
  | true => exact ⟨rfl, Option.some.inj h⟩
  | false => cases h
theorem ev_andF (h1 : EvD K ta σ F (.bl false)) : EvD K (tAndV ta tb) σ F (.bl false) := ev_and (b := false) h1 (fun z => nomatch z)
theorem ev_andT {b : Bool} (h1 : EvD K ta σ F (.bl true)) (h2 : EvD K tb σ F (.bl b)) : EvD K (tAndV ta tb) σ F (.bl b) := ev_and (a := true) h1 fun _ => h2
theorem et_andF {tt tu : TT} (h1 : EvT K tt σ F false) : EvT K (tAnd tt tu) σ F false := et_and (b := false) h1 (fun z => nomatch z)
/-- sep.join(texts) -/
theorem ev_join {sep : Str} {ys : List Str} (h1 : EvD K ta σ F (.str sep)) (h2 : EvD K tb σ F (.lst (ys.map D.str))) (hz : (ys.map (·.length)).sum + ys.length * sep.length ≤ 16777216) : EvD K (tM1 (rJoin K) ta tb) σ F (.str (Txt.join sep ys)) := fun H s Q q =>
  h1 H s _ fun x F1 H1 x1 d1 => by
    cases d1
    refine ⟨⟨_, rfl⟩, (h2.up x1.f) H1 x1.s _ fun y F2 H2 x2 d2 => ?_⟩
    cases d2 with
    | lst a l =>
      rw [denL_strs l] at a
      exact ⟨sep, _, ys, rfl, rfl, .inl (SqL.of (x2.s _ _ a)), hz, q _ F2 H2 (x1.tr x2) (.str _)⟩
/-- text[lo:hi] -/
def EvO (K : PySem.W.Frag) (to : TO) (σ : L2.St) (F : Hp) (o : Option Int) : Prop := ∀ H, Same F H → ∀ Q : Option Int → Hp → Prop, (∀ F' H', Ext [] F H F' H' → Q o H') → to σ H Q
theorem eo_none : EvO K tNo σ F none := fun H s Q q => q F H (Ext.refl s)
theorem eo_some {i : Int} (h : EvD K te σ F (.int i)) : EvO K (tSome te) σ F (some i) := fun H s Q q => h H s _ fun v F1 H1 x1 d1 => by cases d1; exact ⟨i, rfl, q F1 H1 x1⟩
theorem EvO.up {to : TO} {o : Option Int} {F' : Hp} (h : EvO K to σ F o) (e : Same F F') : EvO K to σ F' o := fun H s Q q => h H (e.trans s) Q fun F2 H2 x => q _ H2 (Ext.uni e s x)
theorem ev_sl_str {z : Str} {tl th : TO} {lo hi : Option Int} (h : EvD K te σ F (.str z)) (hl : EvO K tl σ F lo) (hh : EvO K th σ F hi) (hz : z.length ≤ sizeLine) : EvD K (L2.tSl (rSlAny K) te tl th) σ F (.str (cutS z lo hi)) := fun H s Q q =>
  h H s _ fun x F1 H1 x1 d1 => (hl.up x1.f) H1 x1.s _ fun F2 H2 x2 => (hh.up (x1.f.trans x2.f)) H2 x2.s _ fun F3 H3 x3 => by
    cases d1
    exact .inl ⟨z, rfl, hz, q _ F3 H3 ((x1.tr x2).tr x3) (.str _)⟩
def cutD (xs : List D) (lo hi : Option Int) : List D := (xs.drop (HT.sIx xs.length 0 lo)).take (HT.sIx xs.length xs.length hi - HT.sIx xs.length 0 lo)
theorem DenL.drop : ∀ {vs : List V} {ds : List D} (n : Nat), DenL K F vs ds → DenL K F (vs.drop n) (ds.drop n)
  | _, _, 0, h => h
  | _, _, _ + 1, .nil => .nil
  | _, _, n + 1, .cons _ t => DenL.drop n t
theorem DenL.take : ∀ {vs : List V} {ds : List D} (n : Nat), DenL K F vs ds → DenL K F (vs.take n) (ds.take n)
  | _, _, 0, _ => .nil
  | _, _, _ + 1, .nil => .nil
  | _, _, n + 1, .cons h t => .cons h (DenL.take n t)
theorem ev_sl_lst {ds : List D} {tl th : TO} {lo hi : Option Int} (h : EvD K te σ F (.lst ds)) (hl : EvO K tl σ F lo) (hh : EvO K th σ F hi) : EvD K (L2.tSl (rSlAny K) te tl th) σ F (.lst (cutD ds lo hi)) := fun H s Q q =>
  h H s _ fun x F1 H1 x1 d1 => (hl.up x1.f) H1 x1.s _ fun F2 H2 x2 => (hh.up (x1.f.trans x2.f)) H2 x2.s _ fun F3 H3 x3 => by
    cases d1 with
    | lst a l =>
      refine .inr (.inl ⟨_, _, rfl, SqL.of (x3.s _ _ (x3.f _ _ (x2.f _ _ a))), fun p hp => q _ _ _ (((x1.tr x2).tr x3).tr (Ext.new x3.s hp)) (.lst upd_same ?_)⟩)
      refine DenL.up (F := F3) ?_ (Ext.new x3.s hp).f
      unfold cutD cutV
      rw [l.length]
      exact ((l.up (x2.f.trans x3.f)).drop _).take _
end

/-! ### starting a pure def -/
section
variable {K : PySem.W.Frag} {vs : List V} {H : Hp} {Q : VK} {E : XK} {f : List D → Option D}
theorem spP1 (h : spP K 1 f vs H Q E) : ∃ F v x d, vs = [v] ∧ Same F H ∧ Den K F v x ∧ f [x] = some d ∧ ∀ v F' H', Ext [] F H F' H' → Den K F' v d → Q v H' := by
  obtain ⟨F, ds, d, S, l, hf, hn, k⟩ := h
  match ds, l, hn with
  | [x], .cons hv .nil, _ => exact ⟨F, _, x, d, rfl, S, hv, hf, k⟩
theorem spP2 (h : spP K 2 f vs H Q E) : ∃ F v w x y d, vs = [v, w] ∧ Same F H ∧ Den K F v x ∧ Den K F w y ∧ f [x, y] = some d ∧ ∀ v F' H', Ext [] F H F' H' → Den K F' v d → Q v H' := by
  obtain ⟨F, ds, d, S, l, hf, hn, k⟩ := h
  match ds, l, hn with
  | [x, y], .cons hv (.cons hw .nil), _ => exact ⟨F, _, _, x, y, d, rfl, S, hv, hw, hf, k⟩
theorem spP3 (h : spP K 3 f vs H Q E) : ∃ F v w u x y z d, vs = [v, w, u] ∧ Same F H ∧ Den K F v x ∧ Den K F w y ∧ Den K F u z ∧ f [x, y, z] = some d ∧ ∀ v F' H', Ext [] F H F' H' → Den K F' v d → Q v H' := by
  obtain ⟨F, ds, d, S, l, hf, hn, k⟩ := h
  match ds, l, hn with
  | [x, y, z], .cons hv (.cons hw (.cons hu .nil)), _ => exact ⟨F, _, _, _, x, y, z, d, rfl, S, hv, hw, hu, hf, k⟩
end

/-! ### the bag of numbers that are drawn from -/
/-- a bag at b, from which n more numbers may be drawn -/
def BagAt (F H : Hp) (b : Addr) (n : Nat) : Prop := ∃ x y z : Int, Own F H b (.lst [.int x, .int y, .int z]) ∧ 0 ≤ x ∧ 0 ≤ y ∧ y < 2305843009213693951 ∧ 0 ≤ z ∧ z + n ≤ 1000000000
section
variable {F H F1 H1 : Hp} {b : Addr} {n m : Nat}
theorem BagAt.ext0 (w : BagAt F H b n) (x : Ext [] F H F1 H1) : BagAt F1 H1 b n := by
  obtain ⟨p, q, r, o, h⟩ := w
  exact ⟨p, q, r, o.ext0 x, h⟩
theorem BagAt.less (w : BagAt F H b n) (h : m ≤ n) : BagAt F H b m := by
  obtain ⟨p, q, r, o, h1, h2, h3, h4, h5⟩ := w
  exact ⟨p, q, r, o, h1, h2, h3, h4, by omega⟩
theorem BagAt.ne (w : BagAt F H b n) : H b ≠ none := by
  obtain ⟨p, q, r, o, h⟩ := w
  rw [o.h]; simp
theorem BagAt.nf (w : BagAt F H b n) : F b = none := by
  obtain ⟨p, q, r, o, h⟩ := w
  exact o.f
end
/-- an expression that may draw c numbers from the bag at b: what R says of its worth -/
def EvB (K : PySem.W.Frag) (b : Addr) (c : Nat) (te : TE) (σ : L2.St) (F : Hp) (R : D → Prop) : Prop :=
  ∀ H n, Same F H → BagAt F H b (n + c) → ∀ Q : VK, (∀ v d F' H', Ext [b] F H F' H' → BagAt F' H' b n → R d → Den K F' v d → Q v H') → te σ H Q
def EvBA (K : PySem.W.Frag) (b : Addr) (c : Nat) (ta : TA) (σ : L2.St) (F : Hp) (R : List D → Prop) : Prop :=
  ∀ H n, Same F H → BagAt F H b (n + c) → ∀ Q : List V → Hp → Prop, (∀ vs ds F' H', Ext [b] F H F' H' → BagAt F' H' b n → R ds → DenL K F' vs ds → Q vs H') → ta σ H Q
def EvBI (K : PySem.W.Frag) (b : Addr) (c : Nat) (wi : TI) (σ : L2.St) (F : Hp) (R : List D → Prop) : Prop :=
  ∀ H n, Same F H → BagAt F H b (n + c) → ∀ Q : It → Hp → Prop, (∀ J ds F' H', Ext [b] F H F' H' → BagAt F' H' b n → R ds → WalkD K F' J ds → Q J H') → wi σ H Q
/-- a def that draws at most c numbers from the bag, its first argument -/
def spB (K : PySem.W.Frag) (m c : Nat) (pre : List D → Prop) (post : List D → D → Prop) : Sp := fun vs H Q _ => ∃ F b n ws ds, vs = .ref b :: ws ∧ Same F H ∧ BagAt F H b (n + c) ∧ DenL K F ws ds ∧ ds.length = m ∧ pre ds ∧
  ∀ v d F' H', Ext [b] F H F' H' → BagAt F' H' b n → post ds d → Den K F' v d → Q v H'
section
variable {K : PySem.W.Frag} {F F' H : Hp} {σ : L2.St} {ta tb te : TE} {d : D} {b : Addr} {c c1 c2 n : Nat} {R RA RB : D → Prop}
theorem Ext.uniB {F1 F2 H1 H2 : Hp} (e : Same F F1) (e1 : Same F1 H1) (fb : F1 b = none) (x : Ext [b] F H1 F2 H2) : Ext [b] F1 H1 (Nm.uni F1 F2) H2 := by
  have e1' : Same F1 H2 := fun a o h => x.h a o (by
    intro z
    have : a = b := by simpa using z
    rw [this, fb] at h; cases h) (e1 a o h)
  refine ⟨uni_l, x.h, uni_s e1' x.s, fun a h k => ?_, x.k⟩
  unfold Nm.uni
  rw [h]
  exact x.n a (e.free h) k
theorem Ext.sameB {F1 H1 F2 H2 : Hp} (e1 : Same F1 H1) (fb : F1 b = none) (x : Ext [b] F H1 F2 H2) : Same F1 H2 := fun a o h => x.h a o (by
    intro z
    have : a = b := by simpa using z
    rw [this, fb] at h; cases h) (e1 a o h)
theorem BagAt.down {G : Hp} (w : BagAt F' H b n) (e : Same F F') : BagAt F H b n := by
  obtain ⟨p, q, r, o, h⟩ := w
  exact ⟨p, q, r, ⟨e.free o.f, o.h⟩, h⟩
theorem BagAt.fz {G : Hp} (w : BagAt F H b n) (h : G b = none) : BagAt G H b n := by
  obtain ⟨p, q, r, o, k⟩ := w
  exact ⟨p, q, r, ⟨h, o.h⟩, k⟩
theorem EvB.up (h : EvB K b c te σ F R) (e : Same F F') : EvB K b c te σ F' R := fun H n s w Q q => h H n (e.trans s) (w.fz (e.free w.nf)) Q fun v d F2 H2 x w2 r dv => by
  have x' := Ext.uniB e s w.nf x
  exact q v d _ H2 x' (w2.fz (x'.n b w.nf w.ne)) r (dv.up (uni_r (Ext.sameB s w.nf x) x.s))
theorem EvBA.up {ta : TA} {R : List D → Prop} (h : EvBA K b c ta σ F R) (e : Same F F') : EvBA K b c ta σ F' R := fun H n s w Q q => h H n (e.trans s) (w.fz (e.free w.nf)) Q fun v d F2 H2 x w2 r dv => by
  have x' := Ext.uniB e s w.nf x
  exact q v d _ H2 x' (w2.fz (x'.n b w.nf w.ne)) r (dv.up (uni_r (Ext.sameB s w.nf x) x.s))
theorem eb_of (h : EvD K te σ F d) : EvB K b 0 te σ F (· = d) := fun H n s w Q q => h H s Q fun v F' H' x dv => q v d F' H' (x.wide (by simp)) (w.ext0 x) rfl dv
theorem eb_weak (h : EvB K b c te σ F R) (hc : c ≤ c1) (hR : ∀ d, R d → RA d) : EvB K b c1 te σ F RA := fun H n s w Q q => h H n s (w.less (by omega)) Q fun v d F' H' x w' r dv => q v d F' H' x w' (hR d r) dv
theorem eb_op {r : R2} (ha : EvB K b c1 ta σ F RA) (hb : EvB K b c2 tb σ F RB) (hr : ∀ x y, RA x → RB y → ∃ z, RvD K r x y z ∧ R z) : EvB K b (c1 + c2) (tOp r ta tb) σ F R := fun H n s w Q q =>
  ha H (n + c2) s (w.less (by omega)) _ fun x dx F1 H1 x1 w1 r1 d1 => (hb.up x1.f) H1 n x1.s w1 _ fun y dy F2 H2 x2 w2 r2 d2 => by
    obtain ⟨z, h1, h2⟩ := hr dx dy r1 r2
    exact h1 F2 H2 x y x2.s (d1.up x2.f) d2 Q fun v F3 H3 x3 d3 => q v z F3 H3 ((x1.trans x2).tl x3) (w2.ext0 x3) h2 d3
theorem ea_ofB {ta : TA} {ds : List D} (h : EvA K ta σ F ds) : EvBA K b 0 ta σ F (· = ds) := fun H n s w Q q => h H s Q fun v F' H' x dv => q v ds F' H' (x.wide (by simp)) (w.ext0 x) rfl dv
theorem eb_nil : EvBA K b 0 tNil σ F (· = []) := ea_ofB ea_nil
theorem eb_cons {tr : TA} {S T : List D → Prop} (ha : EvB K b c1 ta σ F RA) (hr : EvBA K b c2 tr σ F S) (hT : ∀ x xs, RA x → S xs → T (x :: xs)) : EvBA K b (c1 + c2) (tCons ta tr) σ F T := fun H n s w Q q =>
  ha H (n + c2) s (w.less (by omega)) _ fun x dx F1 H1 x1 w1 r1 d1 => (hr.up x1.f) H1 n x1.s w1 _ fun y dy F2 H2 x2 w2 r2 d2 =>
    q (x :: y) (dx :: dy) F2 H2 (x1.trans x2) w2 (hT dx dy r1 r2) (.cons (d1.up x2.f) d2)
theorem eb_tup {ta : TA} {S : List D → Prop} (h : EvBA K b c ta σ F S) (hl : ∀ ds, S ds → ds.length ≤ sizeLine) (hR : ∀ ds, S ds → R (.tup ds)) : EvB K b c (tTup ta) σ F R := fun H n s w Q q =>
  h H n s w _ fun vs ds F1 H1 x1 w1 r1 d1 => ⟨by rw [d1.length]; exact hl ds r1, fun p hp => q _ (.tup ds) _ _ (x1.tl (Ext.new x1.s hp)) (w1.ext0 (Ext.new x1.s hp)) (hR ds r1) (.tup (SqT.of upd_same) (d1.up (Ext.new (o := .tup vs) x1.s hp).f))⟩
theorem eb_lst {ta : TA} {S : List D → Prop} (h : EvBA K b c ta σ F S) (hl : ∀ ds, S ds → ds.length ≤ sizeLine) (hR : ∀ ds, S ds → R (.lst ds)) : EvB K b c (tLst ta) σ F R := fun H n s w Q q =>
  h H n s w _ fun vs ds F1 H1 x1 w1 r1 d1 => ⟨by rw [d1.length]; exact hl ds r1, fun p hp => q _ (.lst ds) _ _ (x1.tl (Ext.new x1.s hp)) (w1.ext0 (Ext.new x1.s hp)) (hR ds r1) (.lst upd_same (d1.up (Ext.new (o := .lst vs) x1.s hp).f))⟩
/-- a call that draws -/
theorem eb_call {r : List Sl} {i m : Nat} {tr : TA} {E : XK} {pre : List D → Prop} {post : List D → D → Prop} {S : List D → Prop} (EV : EnvD K F r σ) (hi : r[i]? = some (.v (.ref b))) (ha : EvBA K b c1 tr σ F S)
    (hS : ∀ ds, S ds → ds.length = m ∧ pre ds) (hR : ∀ ds d, S ds → post ds d → R d) : EvB K b (c1 + c2) (tCall (spB K m c2 pre post) [] E (tCons (tVar i) tr)) σ F R := fun H n s w Q q => by
  obtain ⟨o, h1, h2⟩ := EV.get hi
  have h2 : o = some (.ref b) := h2
  subst h2
  refine ⟨.ref b, h1, ha H (n + c2) s (w.less (by omega)) _ fun vs ds F1 H1 x1 w1 r1 d1 => ?_⟩
  obtain ⟨l1, l2⟩ := hS ds r1
  refine ⟨F1, b, n, vs, ds, by simp, x1.s, w1, d1, l1, l2, fun v d F2 H2 x2 w2 p2 d2 => q v d F2 H2 (x1.trans x2) w2 (hR ds d r1 p2) d2⟩
/-- what is walked, its making drawing -/
theorem ei_ofB {wi : TI} {ds : List D} (h : EvI K wi σ F ds) : EvBI K b 0 wi σ F (· = ds) := fun H n s w Q q => h H s Q fun J F' H' x W => q J ds F' H' (x.wide (by simp)) (w.ext0 x) rfl W
theorem ebi_rng1 {ta : TA} {S : List D → Prop} {T : List D → Prop} (h : EvBA K b c ta σ F S) (hS : ∀ ds, S ds → ∃ m : Nat, ds = [.int (m : Nat)] ∧ m ≤ 1000000 ∧ T ((List.range m).map fun i => .int (i : Nat))) : EvBI K b c (iRng1 ta) σ F T := fun H n s w Q q =>
  h H n s w _ fun vs ds F1 H1 x1 w1 r1 d1 => by
    obtain ⟨m, rfl, hm, t⟩ := hS ds r1
    have one : EvA K (fun _ H2 R => R vs H2) σ F1 [.int (m : Nat)] := fun H2 s2 R2 q2 => q2 vs F1 H2 (Ext.refl s2) d1
    have := ei_rng1 one (by omega) (by omega) H1 x1.s Q fun J F2 H2 x2 W => q J _ F2 H2 (x1.tl x2) (w1.ext0 x2) (by rw [Int.toNat_natCast] at *; exact t) (by rw [Int.toNat_natCast] at W; exact W)
    exact this
theorem ebi_seq_tup {S : List D → Prop} (h : EvB K b c te σ F R) (hS : ∀ d, R d → ∃ ds, d = .tup ds ∧ S ds) : EvBI K b c (iSeq K te) σ F S := fun H n s w Q q => .inr (.inl (h H n s w _ fun v d F1 H1 x1 w1 r1 d1 => by
  obtain ⟨ds, rfl, t⟩ := hS d r1
  have one : EvD K (fun _ H2 R => R v H2) σ F1 (.tup ds) := fun H2 s2 R2 q2 => q2 v F1 H2 (Ext.refl s2) d1
  cases d1 with
  | tup hh l =>
    rename_i a xs
    refine ⟨a, rfl, ⟨xs, same_t x1.s hh⟩, q _ ds F1 H1 x1 w1 t ⟨fun H => SqT K H a xs, YAt xs, ?_, fun H s => same_t s hh, fun i H x H' hi s y => ?_⟩⟩
    · rw [← l.length]; exact walk_tup
    · obtain ⟨rfl, y⟩ := y
      obtain ⟨d, h1, h2⟩ := l.getV y
      exact ⟨d, F1, h1, Ext.refl s, h2⟩))
/-- a comprehension whose elements draw: each as RE says -/
theorem eb_lc {r : List Sl} {j : Nat} {vs : List Nat} {wi : TI} {N ce ci : Nat} {I : List D → Prop} {RE : D → D → Prop} (E : EnvD K F r σ) (hi : EvBI K b ci wi σ F I) (hI : ∀ ds, I ds → ds.length ≤ N) (hN : N < sizeLine)
    (hw : ∀ (σ' : L2.St) (x : Option V), wipe ((wipe σ' vs).set j x) vs = wipe σ' vs)
    (he : ∀ ds d F' σ', I ds → d ∈ ds → Same F F' → EnvD K F' ((wipeR r vs).set j (.d d)) σ' → EvB K b ce te σ' F' (RE d))
    (hR : ∀ ds es, I ds → es.length = ds.length → (∀ (i : Nat) d e, ds[i]? = some d → es[i]? = some e → RE d e) → R (.lst es)) :
    EvB K b (ci + N * ce) (tLc wi (gName j) tYes te vs) σ F R := fun H n s w Q q => hi H (n + N * ce) s (w.less (by omega)) _ fun J items F1 H1 x1 w1 i1 W1 Dl hD => by
  obtain ⟨G, Y, wk, hg, hy⟩ := W1
  have hlen := hI items i1
  have bne : b ≠ Dl := fun z => by rw [z] at w1; exact w1.ne hD
  refine lc_it wk (fun i H' => ∃ F' acc es, Ext [b] F1 H1 F' H' ∧ BagAt F' H' b (n + (N - i) * ce) ∧ F' Dl = none ∧ H' Dl = some (.lst acc) ∧ DenL K F' acc es ∧ es.length = i ∧ ∀ (k : Nat) d e, k < i → items[k]? = some d → es[k]? = some e → RE d e) ?_ ?_ ?_ ?_
  · refine ⟨F1, [], [], (Ext.newM x1.s hD).wide (by simp), ?_, x1.s.free hD, upd_same, .nil, rfl, fun k d e hk => absurd hk (by omega)⟩
    exact (w1.ext0 (Ext.newM x1.s hD)).less (by simp)
  · rintro i H' _ ⟨F', acc, es, x, _⟩
    exact hg H' (x.f.trans x.s)
  · rintro i v H' H'' hlt ⟨F', acc, es, x, w', fD, eD, l, el, hre⟩ y
    obtain ⟨d, F2, h1, h2, h3⟩ := hy i H' v H'' hlt (x.f.trans x.s) y
    have hd : d ∈ items := List.mem_of_getElem? h1
    have x2 := Ext.uni x.f x.s h2
    have h3' : Den K (uni F' F2) v d := h3.up (uni_r (x.s.trans h2.same) h2.s)
    have fD2 : uni F' F2 Dl = none := x2.n Dl fD (by rw [eD]; simp)
    have eD2 : H'' Dl = some (.lst acc) := x2.same _ _ eD
    have sF : Same F (uni F' F2) := (x1.f.trans x.f).trans x2.f
    have E2 : EnvD K (uni F' F2) ((wipeR r vs).set j (.d d)) ((wipe σ vs).set j (some v)) := EnvD.set j ((EnvD.wipe E vs).up sF) ⟨v, rfl, h3'⟩
    refine ⟨hw σ _, ?_⟩
    unfold tYes
    dsimp only
    rw [if_pos rfl]
    have bud : (N - i) * ce = (N - (i + 1)) * ce + ce := by
      have : N - i = (N - (i + 1)) + 1 := by omega
      rw [this, Nat.add_mul, Nat.one_mul]
    refine he items d _ _ i1 hd sF E2 H'' (n + (N - (i + 1)) * ce) x2.s ((w'.ext0 x2).less (by omega)) _ fun z e F4 H4 x4 w4 r4 d4 => ?_
    have fD4 : F4 Dl = none := x4.n Dl fD2 (by rw [eD2]; simp)
    have eD4 : H4 Dl = some (.lst acc) := x4.h Dl _ (by simpa using bne.symm) eD2
    have xx : Ext [b] F1 H1 F4 H4 := (x.tl x2).trans x4
    refine ⟨acc, eD4, ?_, F4, acc ++ [z], es ++ [e], Ext.mutNew xx hD fD4, ?_, fD4, upd_same, (l.up (x2.f.trans x4.f)).append (.cons d4 .nil), by simp [el], fun k d' e' hk hd' he' => ?_⟩
    · rw [l.length, el]; omega
    · obtain ⟨p, q, rr, o, hh⟩ := w4
      exact ⟨p, q, rr, ⟨o.f, by rw [upd_ne bne]; exact o.h⟩, hh⟩
    · by_cases hk' : k < i
      · rw [List.getElem?_append_left (by omega)] at he'
        exact hre k d' e' hk' hd' he'
      · have : k = i := by omega
        subst this
        rw [h1] at hd'
        cases hd'
        rw [List.getElem?_append_right (by omega), el] at he'
        simp at he'
        subst he'
        exact r4
  · rintro H' ⟨F', acc, es, x, w', fD, eD, l, el, hre⟩
    have xf := Ext.freeze x hD eD fD
    refine q _ (.lst es) _ _ (x1.trans xf) (w'.less (by omega) |>.fz (by rw [upd_ne bne]; exact w'.nf)) (hR items es i1 el fun i d e hd he => hre i d e (by have := (List.getElem?_eq_some_iff.mp hd).1; omega) hd he) (.lst upd_same (l.up (same_new fD)))
theorem eb_join {sep : Str} (h1 : EvD K ta σ F (.str sep)) (h2 : EvB K b c tb σ F RA) (hR : ∀ d, RA d → ∃ ys : List Str, d = .lst (ys.map D.str) ∧ (ys.map (·.length)).sum + ys.length * sep.length ≤ 16777216 ∧ R (.str (Txt.join sep ys))) : EvB K b c (tM1 (rJoin K) ta tb) σ F R := fun H n s w Q q =>
  h1 H s _ fun x F1 H1 x1 d1 => by
    cases d1
    refine ⟨⟨_, rfl⟩, (h2.up x1.f) H1 n x1.s (w.ext0 x1) _ fun y d F2 H2 x2 w2 r2 d2 => ?_⟩
    obtain ⟨ys, rfl, hz, hr⟩ := hR d r2
    cases d2 with
    | lst a l =>
      rw [denL_strs l] at a
      exact ⟨sep, _, ys, rfl, rfl, .inl (SqL.of (x2.s _ _ a)), hz, q _ _ F2 H2 (x1.tr x2) w2 hr (.str _)⟩
/-! statements -/
variable {DE : Ends} {tz tu : TS} {r : List Sl} {j : Nat}
theorem q_asgB (S : Same F H) (E : EnvD K F r σ) (w : BagAt F H b (n + c)) (h : EvB K b c te σ F R) (k : ∀ d F' H' σ', R d → Ext [b] F H F' H' → BagAt F' H' b n → EnvD K F' (r.set j (.d d)) σ' → tz DE σ' H') : tSeq (tAsg te (gName j)) tz DE σ H :=
  h H n S w _ fun v d F' H' x w' rd dv => k d F' H' _ rd x w' (EnvD.set j (E.up x.f) ⟨v, rfl, dv⟩)
theorem s_retB (S : Same F H) (w : BagAt F H b (n + c)) (h : EvB K b c te σ F R) (k : ∀ v d F' H', R d → Ext [b] F H F' H' → BagAt F' H' b n → Den K F' v d → DE.rt v H') : tRet te DE σ H :=
  h H n S w _ fun v d F' H' x w' rd dv => k v d F' H' rd x w' dv
end
end Nm

set_option Elab.async false
set_option linter.all false
set_option maxRecDepth 100000
set_option maxHeartbeats 1000000
namespace Nm
open PySem PySem.Spec L2
/-! ### data as the library shows it -/
mutual
def toPy : D → PyData
  | .bl b => .bool b
  | .int i => .int i
  | .str x => .str x
  | .lst ds => .list (toPyL ds)
  | .tup ds => .tuple (toPyL ds)
  | .dic es => .dict (toPyK es)
  | _ => .none
def toPyL : List D → List PyData
  | [] => []
  | d :: ds => toPy d :: toPyL ds
def toPyK : List (Key × D) → List (PyData × PyData)
  | [] => []
  | (k, d) :: es => (kPy k, toPy d) :: toPyK es
end
mutual
/-- no dicts, no objects -/
def plain : D → Bool
  | .non => true
  | .bl _ => true
  | .int _ => true
  | .str _ => true
  | .lst ds => plainL ds
  | .tup ds => plainL ds
  | _ => false
def plainL : List D → Bool
  | [] => true
  | d :: ds => plain d && plainL ds
end
section
variable {K : PySem.W.Frag} {F H : Hp}
mutual
theorem den_dp (s : Same F H) : ∀ (d : D) {v : V}, Den K F v d → plain d = true → Dp K H v (toPy d)
  | .non, _, h, _ => by cases h; unfold toPy; exact .non
  | .bl _, _, h, _ => by cases h; unfold toPy; exact .bl _
  | .int _, _, h, _ => by cases h; unfold toPy; exact .int _
  | .str _, _, h, _ => by cases h; unfold toPy; exact .str _
  | .lst ds, _, h, p => by
    cases h with
    | lst a l => unfold toPy; unfold plain at p; exact .lst (SqL.of (s _ _ a)) (den_dpL s ds l p)
  | .tup ds, _, h, p => by
    cases h with
    | tup a l => unfold toPy; unfold plain at p; exact .tup (same_t s a) (den_dpL s ds l p)
  | .dic _, _, _, p => by unfold plain at p; cases p
  | .obj _ _, _, _, p => by unfold plain at p; cases p
  | .ty _, _, _, p => by unfold plain at p; cases p
  | .cls _, _, _, p => by unfold plain at p; cases p
theorem den_dpL (s : Same F H) : ∀ (ds : List D) {vs : List V}, DenL K F vs ds → plainL ds = true → DpAll K H vs (toPyL ds)
  | [], _, h, _ => by cases h; unfold toPyL; exact .nil
  | d :: ds, _, h, p => by
    cases h with
    | cons a l =>
      unfold plainL at p
      rw [Bool.and_eq_true] at p
      unfold toPyL
      exact .cons (den_dp s d a p.1) (den_dpL s ds l p.2)
end
/-- what repr gives -/
def shownD (d : D) : Str := (toPy d).shown
def flatD : D → Bool
  | .non => true
  | .bl _ => true
  | .int _ => true
  | .str _ => true
  | _ => false
/-- data that repr is asked of -/
def okR (d : D) : Bool := (plain d || (match d with | .dic es => es.all fun e => flatD e.2 | _ => false)) && (toPy d).showable && decide ((toPy d).depth ≤ 40) && decide ((shownD d).length ≤ 16777216)
theorem kvPy_den : ∀ {kvs : List (Key × V)} {es : List (Key × D)}, DenK K F kvs es → (es.all fun e => flatD e.2) = true → kvPy kvs = toPyK es ∧ (kvs.all fun p => flatV p.2) = true
  | _, _, .nil, _ => ⟨rfl, rfl⟩
  | _, (k, d) :: es, .cons h t, f => by
    rw [List.all_cons, Bool.and_eq_true] at f
    obtain ⟨h1, h2⟩ := kvPy_den t f.2
    rw [List.all_cons, h2]
    unfold kvPy at h1 ⊢
    unfold toPyK
    rw [List.map_cons, h1]
    cases h with
    | non => exact ⟨by unfold toPy; rfl, rfl⟩
    | bl b => exact ⟨by unfold toPy; rfl, rfl⟩
    | int b => exact ⟨by unfold toPy; rfl, rfl⟩
    | str b => exact ⟨by unfold toPy; rfl, rfl⟩
    | _ => exact Bool.noConfusion f.1
theorem rc_repr {d : D} (ok : okR d = true) : RcD K (rReprA K) [d] (.str (shownD d)) := fun F H xs s hx Q q => by
  unfold okR at ok
  simp only [Bool.and_eq_true, decide_eq_true_eq] at ok
  obtain ⟨⟨⟨h1, h2⟩, h3⟩, h4⟩ := ok
  cases hx with
  | cons h t =>
    cases t
    by_cases p : plain d = true
    · exact .inl ⟨_, toPy d, rfl, den_dp s d h p, h2, h3, by rw [sizeLine_eq]; exact h4, q _ F H (Ext.refl s) (.str _)⟩
    · rw [show plain d = false by simpa using p, Bool.false_or] at h1
      cases h with
      | dic a l =>
        rename_i ad kvs es
        obtain ⟨e1, e2⟩ := kvPy_den l h1
        have e : PyData.dict (kvPy kvs) = toPy (.dic es) := by rw [e1]; unfold toPy; rfl
        refine .inr ⟨_, kvs, rfl, .inr ⟨_, s _ _ a⟩, e2, by rw [e]; exact h2, by rw [e, sizeLine_eq]; exact h4, by rw [e]; exact h3, ?_⟩
        rw [e]
        exact q _ F H (Ext.refl s) (.str _)
      | _ => cases h1
/-- small texts can be shown -/
theorem okR_str {z : Str} (h : z.length ≤ 100000) (hc : ∀ c ∈ z.cps.toList, c < 1114112) : okR (.str z) = true := by
  have := PySem.StrLaws.reprText_len z (fun c m => Nat.lt_trans (hc c m) (by decide))
  unfold okR shownD plain toPy
  simp only [PyData.showable, PyData.depth, PyData.shown]
  have : (reprText z).length ≤ 16777216 := by omega
  simp [this]
theorem shown_list1 (p : PyData) : (PyData.list [p]).shown.length = p.shown.length + 2 := PyProof.Rows.shownLen_list1 p
theorem shown_tuple1 (p : PyData) : (PyData.tuple [p]).shown.length = p.shown.length + 3 := PyProof.Rows.shownLen_tuple1 p
theorem okR_one {z : Str} (h : z.length ≤ 100000) (hc : ∀ c ∈ z.cps.toList, c < 1114112) : okR (.lst [.str z]) = true ∧ okR (.tup [.str z]) = true := by
  have := PySem.StrLaws.reprText_len z (fun c m => Nat.lt_trans (hc c m) (by decide))
  have e1 : (PyData.list [.str z]).shown.length ≤ 16777216 := by rw [shown_list1]; simp only [PyData.shown]; omega
  have e2 : (PyData.tuple [.str z]).shown.length ≤ 16777216 := by rw [shown_tuple1]; simp only [PyData.shown]; omega
  constructor
  · unfold okR shownD
    simp only [plain, plainL, toPy, toPyL, PyData.showable, PyData.showableAll, PyData.depth, PyData.depthAll]
    simp [e1]
  · unfold okR shownD
    simp only [plain, plainL, toPy, toPyL, PyData.showable, PyData.showableAll, PyData.depth, PyData.depthAll]
    simp [e2]

/-! ### dicts that are written -/
variable {σ : L2.St} {te tk tv : TE}
/-! ### drawing -/
def preTake : List D → Prop
  | [.int m] => 0 < m ∧ m < 1073741824
  | _ => False
def postTake : List D → D → Prop
  | [.int m], .int r => 0 ≤ r ∧ r < m
  | _, _ => False
abbrev spTake (K : PySem.W.Frag) : Sp := spB K 1 1 preTake postTake
theorem spB_len {m c : Nat} {pre : List D → Prop} {post : List D → D → Prop} {vs : List V} {H : Hp} {Q : VK} {E : XK} (h : spB K m c pre post vs H Q E) : vs.length = m + 1 := by
  obtain ⟨F, b, n, ws, ds, rfl, _, _, l, e, _⟩ := h
  rw [List.length_cons, l.length, e]
def spBag (K : PySem.W.Frag) : Sp := fun vs H Q _ => ∃ (F : Hp) (a : Addr) (ns : List Int) (i : Int), vs = [.ref a, .int i] ∧ Same F H ∧ SqL K F a (ns.map V.int) ∧ 0 ≤ i ∧ i ≤ 1000 ∧ ∀ b H', H b = none → Ext [] F H F H' → BagAt F H' b 1000000000 → Q (.ref b) H'
theorem spBag_len {vs : List V} {H : Hp} {Q : VK} {E : XK} (h : spBag K vs H Q E) : vs.length = 2 := by
  obtain ⟨F, a, ns, i, rfl, _⟩ := h
  rfl
variable {r : List Sl} {i : Nat} {b : Addr} {E : XK} {tm ta : TE}
theorem eb_take {m : Nat} (EV : EnvD K F r σ) (hi : r[i]? = some (.v (.ref b))) (hm : EvD K tm σ F (.int (m : Nat))) (h0 : 0 < m) (h1 : m < 1073741824) :
    EvB K b 1 (tCall (spTake K) [] E (tCons (tVar i) (tCons tm tNil))) σ F (fun d => ∃ k : Nat, d = .int (k : Nat) ∧ k < m) := by
  have := eb_call (c1 := 0) (c2 := 1) (m := 1) (pre := preTake) (post := postTake) (E := E) (R := fun d => ∃ k : Nat, d = .int (k : Nat) ∧ k < m) EV hi (ea_ofB (ea_cons hm ea_nil)) (fun ds e => ?_) (fun ds d e p => ?_)
  · exact this
  · subst e; exact ⟨rfl, by omega, by omega⟩
  · subst e
    cases d with
    | int k =>
      obtain ⟨p1, p2⟩ := p
      exact ⟨k.toNat, by rw [Int.toNat_of_nonneg p1], by omega⟩
    | _ => exact p.elim
/-- a sign of a text, drawn -/
theorem eb_pick_str {z : Str} {m : Nat} (EV : EnvD K F r σ) (hi : r[i]? = some (.v (.ref b))) (ha : EvD K ta σ F (.str z)) (hm : EvD K tm σ F (.int (m : Nat))) (h0 : 0 < m) (hz : m = z.length) (hz2 : z.length ≤ 100000) :
    EvB K b 1 (tOp (rIxA K) ta (tCall (spTake K) [] E (tCons (tVar i) (tCons tm tNil)))) σ F (fun d => ∃ c, d = .str ⟨#[c]⟩ ∧ c ∈ z.cps.toList) := by
  refine eb_weak (eb_op (R := fun d => ∃ c, d = .str ⟨#[c]⟩ ∧ c ∈ z.cps.toList) (eb_of ha) (eb_take EV hi hm h0 (by omega)) ?_) (by decide) (fun _ h => h)
  rintro x y rfl ⟨k, rfl, hk⟩
  have hk' : k < z.cps.toList.length := by
    have : z.length = z.cps.toList.length := by simp [Str.length]
    omega
  exact ⟨_, rv_ix_str (by rw [sizeLine_eq]; omega) (atI_nat (List.getElem?_eq_getElem hk')), _, rfl, List.getElem_mem hk'⟩
theorem eb_pick_lst {ds : List D} {m : Nat} (EV : EnvD K F r σ) (hi : r[i]? = some (.v (.ref b))) (ha : EvD K ta σ F (.lst ds)) (hm : EvD K tm σ F (.int (m : Nat))) (h0 : 0 < m) (hz : m = ds.length) (hz2 : m ≤ 100000) :
    EvB K b 1 (tOp (rIxA K) ta (tCall (spTake K) [] E (tCons (tVar i) (tCons tm tNil)))) σ F (fun d => d ∈ ds) := by
  refine eb_weak (eb_op (R := fun d => d ∈ ds) (eb_of ha) (eb_take EV hi hm h0 (by omega)) ?_) (by decide) (fun _ h => h)
  rintro x y rfl ⟨k, rfl, hk⟩
  exact ⟨_, rv_ix_lst (atI_nat (List.getElem?_eq_getElem (by omega))), List.getElem_mem _⟩
/-! ### more -/
theorem ru_neg {i : Int} : RuD K (rU fun i => .int (-i)) (.int i) (.int (-i)) := fun F H x s hx Q q => by
  cases hx
  exact ⟨i, rfl, q _ F H (Ext.refl s) (.int _)⟩
theorem ev_chainU {ra rb : L2.R2} {tb tc : TE} {x y z : D} {p q : Bool} (ha : EvD K ta σ F x) (hb : EvD K tb σ F y) (hr : RvD K ra x y (.bl p)) (hc : EvD K tc σ F z) (hr' : RvD K rb y z (.bl q)) : EvD K (tChain ra rb ta tb tc) σ F (.bl (p && q)) :=
  ev_chain ha hb hr (fun _ => hc) fun _ => hr'
theorem Ext.forget {F1 H1 F2 H2 : Hp} (x : Ext [] F H F1 H1) (y : Ext [b] F1 H1 F2 H2) (hb : H b = none) : Ext [] F H F2 H2 :=
  Ext.of (x.f.trans y.f) (fun a o h => y.h a o (by
    intro z
    have : a = b := by simpa using z
    rw [this, hb] at h; cases h) (x.same a o h)) y.s (fun a h k => y.n a (x.n a h k) (x.k a k))
theorem joinL_nil : ∀ ps : List (List Nat), TL.joinL [] ps = ps.flatten
  | [] => rfl
  | [p] => by simp [TL.joinL]
  | p :: q :: r => by
    have := joinL_nil (q :: r)
    simp [TL.joinL, this]
theorem join_toList (ys : List Str) : (Txt.join Str.empty ys).cps.toList = (ys.map fun y => y.cps.toList).flatten := by
  have h := TL.tl_join Str.empty ys
  rw [← TL.join_eq] at h
  have e : TL.tl Str.empty = [] := rfl
  rw [e, joinL_nil] at h
  exact h
/-- a for whose body draws; what is walked may be drawn too -/
theorem s_forB {DE : Ends} {tb : TS} {I : List D → Prop} {wi : TI} {j n ci : Nat} (Pv : List D → Nat → Hp → Hp → List Sl → Prop) (S : Same F H) (EV : EnvD K F r σ) (w : BagAt F H b (n + ci)) (hi : EvBI K b ci wi σ F I)
    (h0 : ∀ items F' H', I items → Ext [b] F H F' H' → BagAt F' H' b n → Pv items 0 F' H' r)
    (hs : ∀ items i d F1 H1 F2 H2 r' σ' (N : L2.St → Hp → Prop), I items → items[i]? = some d → Ext [b] F H F1 H1 → Pv items i F1 H1 r' → Ext [] F1 H1 F2 H2 → EnvD K F2 (r'.set j (.d d)) σ' →
      (∀ F3 H3 r3 σ3, Ext [b] F2 H2 F3 H3 → EnvD K F3 r3 σ3 → Pv items (i + 1) F3 H3 r3 → N σ3 H3) → tb { DE with nx := N, ct := N, bk := DE.nx } σ' H2)
    (hd : ∀ items F' H' r' σ', I items → Ext [b] F H F' H' → EnvD K F' r' σ' → Pv items items.length F' H' r' → DE.nx σ' H') : tFor wi (gName j) tb DE σ H :=
  hi H n S w _ fun J items F1 H1 x1 w1 i1 W1 => by
    obtain ⟨G, Y, wk, hg, hy⟩ := W1
    refine ⟨fun i m σ3 H3 => m = items.length - i ∧ i ≤ items.length ∧ ∃ F3 r3, Ext [b] F H F3 H3 ∧ Same F1 F3 ∧ EnvD K F3 r3 σ3 ∧ Pv items i F3 H3 r3, ⟨items.length, by simp, Nat.zero_le _, F1, r, x1, Same.refl _, EV.up x1.f, h0 items F1 H1 i1 x1 w1⟩, ?_⟩
    rintro i m σ3 H3 ⟨rfl, hle, F3, r3, x, e, E3, p⟩
    have hG := hg H3 (e.trans x.s)
    by_cases hlt : i < items.length
    · refine .inr ⟨wk.goes i H3 hlt hG, fun σ' H' => ∃ F4 r4, Ext [b] F H F4 H' ∧ Same F1 F4 ∧ EnvD K F4 r4 σ' ∧ Pv items (i + 1) F4 H' r4, fun σ' H' q => ⟨items.length - (i + 1), by omega, rfl, hlt, q⟩, fun v H4 y => ?_⟩
      obtain ⟨d, F2, h1, h2, h3⟩ := hy i H3 v H4 hlt (e.trans x.s) (wk.yields i H3 v H4 hlt hG y)
      have x2 := Ext.uni e x.s h2
      have h3' : Den K (uni F3 F2) v d := h3.up (uni_r (x.s.trans h2.same) h2.s)
      exact hs items i d F3 H3 _ H4 r3 _ _ i1 h1 x p x2 (EnvD.set j (E3.up x2.f) ⟨v, rfl, h3'⟩) fun F5 H5 r5 σ5 x5 E5 p5 => ⟨F5, r5, (x.tl x2).trans x5, (e.trans x2.f).trans x5.f, E5, p5⟩
    · have ei : i = items.length := by omega
      subst ei
      exact .inl ⟨wk.stops H3 hG, hd items F3 H3 r3 σ3 i1 x E3 p⟩
/-- bag = _law_bag(script, at) -/
theorem q_bag {DE : Ends} {tz : TS} {a : Addr} {ns : List Int} {i0 j0 t m : Nat} (S : Same F H) (EV : EnvD K F r σ) (hi : r[i0]? = some (.v (.ref a))) (hj : r[j0]? = some (.d (.int (m : Nat)))) (hm : m ≤ 1000) (sq : SqL K F a (ns.map V.int))
    (k : ∀ b H' σ', H b = none → Ext [] F H F H' → BagAt F H' b 1000000000 → EnvD K F (r.set t (.v (.ref b))) σ' → tz DE σ' H') : tSeq (tAsg (tCall (spBag K) [] E (tCons (tVar i0) (tCons (tVar j0) tNil))) (gName t)) tz DE σ H := by
  obtain ⟨o, g1, g2⟩ := EV.get hi
  have g2 : o = some (.ref a) := g2
  subst g2
  obtain ⟨o, g3, v, g4, g5⟩ := EV.get hj
  subst g4
  cases g5
  exact ⟨.ref a, g1, .int (m : Nat), g3, F, a, ns, m, rfl, S, sq, by omega, by omega, fun b H' hb x w => k b H' _ hb x w (EnvD.set t EV rfl)⟩
end
end Nm

set_option linter.all false
set_option maxHeartbeats 1000000
namespace Nm
/-! ### tables by plain lists: folds from codes to codes, marks from codes to classes -/
abbrev Fo := List (Nat × List Nat)
abbrev Ma := List (Nat × Nat)
def lk {α : Type} (m : List (Nat × α)) (c : Nat) : Option α := (m.find? fun p => decide (p.1 = c)).map (·.2)
def foldS (fo : Fo) (c : Nat) : List Nat := (lk fo c).getD [c]
def folded (fo : Fo) (l : List Nat) : List Nat := (l.map (foldS fo)).flatten
def ofCls (ma : Ma) (n : Nat) (c : Nat) : Bool := decide (lk ma c = some n)
def inOrd (ma : Ma) (run : List Nat) : List Nat := run.filter (ofCls ma 1) ++ (run.filter (ofCls ma 2) ++ run.filter (ofCls ma 3))
def runs (ma : Ma) : List Nat → List Nat → List Nat
  | r, [] => inOrd ma r
  | r, c :: l => if (lk ma c).isSome then runs ma (r ++ [c]) l else inOrd ma r ++ (c :: runs ma [] l)
def key (fo : Fo) (ma : Ma) (l : List Nat) : List Nat := runs ma [] (folded fo l)
/-- classes are 1, 2, 3 -/
def okMa (ma : Ma) : Prop := ∀ c n, lk ma c = some n → n = 1 ∨ n = 2 ∨ n = 3
/-- a and b stand the wrong way about -/
def wrong (ma : Ma) (a b : Nat) : Bool := match lk ma a, lk ma b with
  | some m, some n => decide (n < m)
  | _, _ => false

theorem runs_congr {ma : Ma} : ∀ (l r1 r2 : List Nat), (∀ s, inOrd ma (r1 ++ s) = inOrd ma (r2 ++ s)) → runs ma r1 l = runs ma r2 l
  | [], r1, r2, h => by unfold runs; simpa using h []
  | c :: l, r1, r2, h => by
    unfold runs
    split
    · exact runs_congr l _ _ fun s => by simpa [List.append_assoc] using h (c :: s)
    · rw [show inOrd ma r1 = inOrd ma r2 by simpa using h []]
theorem inOrd_swap {ma : Ma} {a b : Nat} (h : lk ma a ≠ lk ma b) (r s : List Nat) : inOrd ma (r ++ a :: b :: s) = inOrd ma (r ++ b :: a :: s) := by
  have f : ∀ n, (r ++ a :: b :: s).filter (ofCls ma n) = (r ++ b :: a :: s).filter (ofCls ma n) := fun n => by
    rw [List.filter_append, List.filter_append]
    congr 1
    by_cases ha : ofCls ma n a = true
    · have hb : ofCls ma n b = false := by
        unfold ofCls at ha ⊢
        have ha := of_decide_eq_true ha
        exact decide_eq_false fun z => h (ha.trans z.symm)
      simp [List.filter_cons, ha, hb]
    · simp [List.filter_cons, ha]
  unfold inOrd
  rw [f 1, f 2, f 3]
/-- two neighbouring marks of unlike classes change places: the same runs -/
theorem runs_swap {ma : Ma} {a b : Nat} (ha : (lk ma a).isSome = true) (hb : (lk ma b).isSome = true) (h : lk ma a ≠ lk ma b) (y : List Nat) : ∀ (x r : List Nat), runs ma r (x ++ a :: b :: y) = runs ma r (x ++ b :: a :: y)
  | [], r => by
    show runs ma r (a :: b :: y) = runs ma r (b :: a :: y)
    simp only [runs, ha, hb, if_true]
    refine runs_congr y _ _ fun s => ?_
    simpa [List.append_assoc] using inOrd_swap h r s
  | c :: x, r => by
    show runs ma r (c :: (x ++ a :: b :: y)) = runs ma r (c :: (x ++ b :: a :: y))
    unfold runs
    split
    · exact runs_swap ha hb h y x _
    · rw [runs_swap ha hb h y x []]
theorem wrong_ne {ma : Ma} {a b : Nat} (h : wrong ma a b = true) : (lk ma a).isSome = true ∧ (lk ma b).isSome = true ∧ lk ma a ≠ lk ma b := by
  unfold wrong at h
  cases h1 : lk ma a with
  | none => rw [h1] at h; cases h
  | some m =>
    cases h2 : lk ma b with
    | none => rw [h1, h2] at h; cases h
    | some n =>
      rw [h1, h2] at h
      have h := of_decide_eq_true h
      exact ⟨rfl, rfl, fun z => by cases z; omega⟩
/-- no neighbours stand the wrong way about -/
def calmL (ma : Ma) : List Nat → Bool
  | a :: b :: l => !wrong ma a b && calmL ma (b :: l)
  | _ => true
theorem calm_app {ma : Ma} : ∀ (x y : List Nat), calmL ma (x ++ y) = true → calmL ma x = true ∧ calmL ma y = true
  | [], y, h => ⟨rfl, h⟩
  | [a], y, h => by
    refine ⟨rfl, ?_⟩
    cases y with
    | nil => rfl
    | cons b y => simp only [List.singleton_append, calmL, Bool.and_eq_true] at h; exact h.2
  | a :: b :: x, y, h => by
    simp only [List.cons_append, calmL, Bool.and_eq_true] at h ⊢
    obtain ⟨h1, h2⟩ := calm_app (b :: x) y h.2
    exact ⟨⟨h.1, h1⟩, h2⟩
/-- a calm run of marks is in order already -/
theorem inOrd_calm {ma : Ma} (ok : okMa ma) : ∀ (r : List Nat), (∀ c ∈ r, (lk ma c).isSome = true) → calmL ma r = true → inOrd ma r = r := by
  -- by classes that do not fall
  have mono : ∀ (r : List Nat) (a : Nat), (∀ c ∈ a :: r, (lk ma c).isSome = true) → calmL ma (a :: r) = true → ∀ c ∈ r, ∀ m n, lk ma a = some m → lk ma c = some n → m ≤ n := by
    intro r
    induction r with
    | nil => intro a _ _ c hc; exact nomatch hc
    | cons b r ih =>
      intro a hm hcalm c hc m n h1 h2
      simp only [calmL, Bool.and_eq_true, Bool.not_eq_true'] at hcalm
      obtain ⟨k, hk⟩ := Option.isSome_iff_exists.mp (hm b (by simp))
      have hab : m ≤ k := by
        have := hcalm.1
        unfold wrong at this
        rw [h1, hk] at this
        have := of_decide_eq_false this
        omega
      rcases List.mem_cons.mp hc with rfl | hc
      · rw [hk] at h2; cases h2; exact hab
      · exact Nat.le_trans hab (ih b (fun d hd => hm d (List.mem_cons_of_mem _ hd)) hcalm.2 c hc k n hk h2)
  intro r
  induction r with
  | nil => intro _ _; rfl
  | cons a r ih =>
    intro hm hcalm
    have tail := ih (fun c hc => hm c (List.mem_cons_of_mem _ hc)) (by
      cases r with
      | nil => rfl
      | cons b r => simp only [calmL, Bool.and_eq_true] at hcalm; exact hcalm.2)
    have hm' := mono r a hm hcalm
    obtain ⟨k, hk⟩ := Option.isSome_iff_exists.mp (hm a (by simp))
    have none_of : ∀ n, n < k → r.filter (ofCls ma n) = [] := fun n hn => by
      rw [List.filter_eq_nil_iff]
      intro c hc h
      have := hm' c hc k n hk (of_decide_eq_true h)
      omega
    have at_a : ∀ n, ofCls ma n a = decide (k = n) := fun n => by
      unfold ofCls
      rw [hk]
      by_cases e : k = n
      · subst e; simp
      · rw [decide_eq_false e]; exact decide_eq_false fun z => e (Option.some.inj z)
    unfold inOrd at tail ⊢
    simp only [List.filter_cons, at_a]
    rcases ok a k hk with rfl | rfl | rfl
    · simp [tail]
    · have n1 := none_of 1 (by omega)
      rw [n1] at tail
      simp [n1]
      simpa using tail
    · have n1 := none_of 1 (by omega)
      have n2 := none_of 2 (by omega)
      rw [n1, n2] at tail
      simp [n1, n2]
      simpa using tail
theorem runs_calm {ma : Ma} (ok : okMa ma) : ∀ (l r : List Nat), (∀ c ∈ r, (lk ma c).isSome = true) → calmL ma (r ++ l) = true → runs ma r l = r ++ l
  | [], r, hm, h => by unfold runs; rw [List.append_nil] at h ⊢; exact inOrd_calm ok r hm h
  | c :: l, r, hm, h => by
    unfold runs
    split
    · rename_i hc
      have := runs_calm ok l (r ++ [c]) (fun d hd => by
        rcases List.mem_append.mp hd with hd | hd
        · exact hm d hd
        · have : d = c := by simpa using hd
          rw [this]; exact hc) (by simpa [List.append_assoc] using h)
      rw [this]; simp
    · have h2 := (calm_app r (c :: l) h)
      have h3 := (calm_app [c] l h2.2).2
      rw [inOrd_calm ok r hm h2.1, runs_calm ok l [] (fun _ h => nomatch h) h3]; rfl
/-- what is not a mark parts calm texts -/
theorem calm_cons {ma : Ma} {c : Nat} (hc : lk ma c = none) : ∀ (l : List Nat), calmL ma l = true → calmL ma (c :: l) = true
  | [], _ => rfl
  | b :: l, h => by
    simp only [calmL, Bool.and_eq_true, Bool.not_eq_true']
    refine ⟨?_, h⟩
    unfold wrong; rw [hc]
theorem calm_mid {ma : Ma} {c : Nat} (hc : lk ma c = none) : ∀ (x l : List Nat), calmL ma x = true → calmL ma l = true → calmL ma (x ++ c :: l) = true
  | [], l, _, h => calm_cons hc l h
  | [a], l, _, h => by
    simp only [List.singleton_append, calmL, Bool.and_eq_true, Bool.not_eq_true']
    refine ⟨?_, calm_cons hc l h⟩
    unfold wrong; rw [hc]; cases lk ma a <;> rfl
  | a :: b :: x, l, hx, h => by
    simp only [List.cons_append, calmL, Bool.and_eq_true] at hx ⊢
    exact ⟨hx.1, calm_mid hc (b :: x) l hx.2 h⟩
theorem calm_const {ma : Ma} {n : Nat} : ∀ (l : List Nat), (∀ c ∈ l, lk ma c = some n) → calmL ma l = true
  | [], _ => rfl
  | [a], _ => rfl
  | a :: b :: l, h => by
    simp only [calmL, Bool.and_eq_true, Bool.not_eq_true']
    refine ⟨?_, calm_const (b :: l) fun c hc => h c (List.mem_cons_of_mem _ hc)⟩
    unfold wrong
    rw [h a (by simp), h b (by simp)]
    simp
theorem calm_two {ma : Ma} : ∀ (x y : List Nat), calmL ma x = true → calmL ma y = true → (∀ a ∈ x, ∀ b ∈ y, wrong ma a b = false) → calmL ma (x ++ y) = true
  | [], y, _, h, _ => h
  | [a], [], _, _, _ => rfl
  | [a], b :: y, _, h, w => by
    simp only [List.singleton_append, calmL, Bool.and_eq_true, Bool.not_eq_true']
    exact ⟨w a (by simp) b (by simp), h⟩
  | a :: b :: x, y, hx, h, w => by
    simp only [List.cons_append, calmL, Bool.and_eq_true] at hx ⊢
    exact ⟨hx.1, calm_two (b :: x) y hx.2 h fun c hc => w c (List.mem_cons_of_mem _ hc)⟩
theorem calm_inOrd (ma : Ma) (r : List Nat) : calmL ma (inOrd ma r) = true := by
  have mem : ∀ n c, c ∈ r.filter (ofCls ma n) → lk ma c = some n := fun n c h => of_decide_eq_true (List.mem_filter.mp h).2
  have w : ∀ a b m n, lk ma a = some m → lk ma b = some n → m ≤ n → wrong ma a b = false := fun a b m n h1 h2 h3 => by
    unfold wrong; rw [h1, h2]; exact decide_eq_false (by omega)
  unfold inOrd
  refine calm_two _ _ (calm_const (n := 1) _ (mem 1)) (calm_two _ _ (calm_const (n := 2) _ (mem 2)) (calm_const (n := 3) _ (mem 3)) fun a ha b hb => w a b 2 3 (mem 2 a ha) (mem 3 b hb) (by omega)) fun a ha b hb => ?_
  rcases List.mem_append.mp hb with hb | hb
  · exact w a b 1 2 (mem 1 a ha) (mem 2 b hb) (by omega)
  · exact w a b 1 3 (mem 1 a ha) (mem 3 b hb) (by omega)
theorem calm_runs (ma : Ma) : ∀ (l r : List Nat), calmL ma (runs ma r l) = true
  | [], r => by unfold runs; exact calm_inOrd ma r
  | c :: l, r => by
    unfold runs
    split
    · exact calm_runs ma l _
    · rename_i h
      have hc : lk ma c = none := by simpa using h
      exact calm_mid hc _ _ (calm_inOrd ma r) (calm_runs ma l [])
/-- the key of a key -/
theorem runs_runs {ma : Ma} (ok : okMa ma) (l : List Nat) : runs ma [] (runs ma [] l) = runs ma [] l :=
  runs_calm ok _ [] (fun _ h => nomatch h) (calm_runs ma l [])
theorem inOrd_mem {ma : Ma} {r : List Nat} {c : Nat} (h : c ∈ inOrd ma r) : c ∈ r := by
  unfold inOrd at h
  simp only [List.mem_append, List.mem_filter] at h
  rcases h with h | h | h <;> exact h.1
theorem runs_mem {ma : Ma} : ∀ (l r : List Nat) {c : Nat}, c ∈ runs ma r l → c ∈ r ∨ c ∈ l
  | [], r, c, h => by unfold runs at h; exact .inl (inOrd_mem h)
  | d :: l, r, c, h => by
    unfold runs at h
    split at h
    · rcases runs_mem l _ h with h | h
      · rcases List.mem_append.mp h with h | h
        · exact .inl h
        · exact .inr (by simp at h; simp [h])
      · exact .inr (List.mem_cons_of_mem _ h)
    · rcases List.mem_append.mp h with h | h
      · exact .inl (inOrd_mem h)
      · rcases List.mem_cons.mp h with h | h
        · exact .inr (by simp [h])
        · rcases runs_mem l [] h with h | h
          · exact nomatch h
          · exact .inr (List.mem_cons_of_mem _ h)
theorem inOrd_len {ma : Ma} (ok : okMa ma) : ∀ (r : List Nat), (∀ c ∈ r, (lk ma c).isSome = true) → (inOrd ma r).length = r.length
  | [], _ => rfl
  | c :: r, h => by
    have ih := inOrd_len ok r fun d hd => h d (List.mem_cons_of_mem _ hd)
    obtain ⟨k, hk⟩ := Option.isSome_iff_exists.mp (h c (by simp))
    have at_c : ∀ n, ofCls ma n c = decide (k = n) := fun n => by
      unfold ofCls
      rw [hk]
      by_cases e : k = n
      · subst e; simp
      · rw [decide_eq_false e]; exact decide_eq_false fun z => e (Option.some.inj z)
    unfold inOrd at ih ⊢
    simp only [List.filter_cons, at_c, List.length_append] at ih ⊢
    rcases ok c k hk with rfl | rfl | rfl <;> simp <;> omega
theorem runs_len {ma : Ma} (ok : okMa ma) : ∀ (l r : List Nat), (∀ c ∈ r, (lk ma c).isSome = true) → (runs ma r l).length = r.length + l.length
  | [], r, h => by unfold runs; rw [inOrd_len ok r h]; rfl
  | c :: l, r, h => by
    unfold runs
    split
    · rename_i hc
      rw [runs_len ok l _ (fun d hd => by
        rcases List.mem_append.mp hd with hd | hd
        · exact h d hd
        · have : d = c := by simpa using hd
          rw [this]; exact hc)]
      simp; omega
    · rw [List.length_append, List.length_cons, inOrd_len ok r h, runs_len ok l [] (fun _ h => nomatch h)]
      simp
/-! ### tables that can stand -/
structure okTab (sg : Nat → Bool) (fo : Fo) (ma : Ma) : Prop where
  fn : (fo.map (·.1)).Nodup
  mn : (ma.map (·.1)).Nodup
  fs : ∀ p ∈ fo, sg p.1 = true
  fw : ∀ p ∈ fo, 1 ≤ p.2.length ∧ p.2.length ≤ 3 ∧ ∀ c ∈ p.2, sg c = true ∧ lk fo c = none
  ms : ∀ p ∈ ma, sg p.1 = true ∧ (p.2 = 1 ∨ p.2 = 2 ∨ p.2 = 3) ∧ lk fo p.1 = none
  fl : fo.length ≤ 40
  ml : ma.length ≤ 8
theorem lk_mem {α : Type} {m : List (Nat × α)} {c : Nat} {v : α} (h : lk m c = some v) : (c, v) ∈ m := by
  unfold lk at h
  obtain ⟨p, h1, h2⟩ := Option.map_eq_some_iff.mp h
  have := List.find?_some h1
  have : p.1 = c := of_decide_eq_true this
  subst h2
  rw [← this]
  exact List.mem_of_find?_eq_some h1
theorem lk_none {α : Type} {m : List (Nat × α)} {c : Nat} : lk m c = none ↔ c ∉ m.map (·.1) := by
  unfold lk
  rw [Option.map_eq_none_iff, List.find?_eq_none]
  constructor
  · intro h hc
    obtain ⟨p, hp, e⟩ := List.mem_map.mp hc
    exact h p hp (decide_eq_true e)
  · intro h p hp e
    exact h (List.mem_map.mpr ⟨p, hp, of_decide_eq_true e⟩)
section
variable {sg : Nat → Bool} {fo : Fo} {ma : Ma}
theorem okTab.okMa (t : okTab sg fo ma) : okMa ma := fun c n h => (t.ms _ (lk_mem h)).2.1
theorem foldS_none {c : Nat} (h : lk fo c = none) : foldS fo c = [c] := by unfold foldS; rw [h]; rfl
theorem foldS_some {c : Nat} {w : List Nat} (h : lk fo c = some w) : foldS fo c = w := by unfold foldS; rw [h]; rfl
theorem foldS_ok (t : okTab sg fo ma) {c : Nat} (hc : sg c = true) : 1 ≤ (foldS fo c).length ∧ (foldS fo c).length ≤ 3 ∧ ∀ d ∈ foldS fo c, sg d = true ∧ lk fo d = none := by
  cases h : lk fo c with
  | none => rw [foldS_none h]; exact ⟨by simp, by simp, fun d hd => by simp at hd; subst hd; exact ⟨hc, h⟩⟩
  | some w => rw [foldS_some h]; exact t.fw _ (lk_mem h)
theorem folded_mem (t : okTab sg fo ma) {l : List Nat} (hl : ∀ c ∈ l, sg c = true) : ∀ d ∈ folded fo l, sg d = true ∧ lk fo d = none := fun d hd => by
  unfold folded at hd
  obtain ⟨w, hw, hd⟩ := List.mem_flatten.mp hd
  obtain ⟨c, hc, rfl⟩ := List.mem_map.mp hw
  exact (foldS_ok t (hl c hc)).2.2 d hd
theorem folded_len (t : okTab sg fo ma) : ∀ {l : List Nat}, (∀ c ∈ l, sg c = true) → l.length ≤ (folded fo l).length ∧ (folded fo l).length ≤ 3 * l.length
  | [], _ => ⟨Nat.le_refl _, Nat.le_refl _⟩
  | c :: l, h => by
    obtain ⟨h1, h2⟩ := folded_len t (l := l) fun d hd => h d (List.mem_cons_of_mem _ hd)
    have h3 := foldS_ok t (h c (by simp))
    unfold folded at h1 h2 ⊢
    rw [List.map_cons, List.flatten_cons, List.length_append, List.length_cons]
    omega
theorem folded_id : ∀ {l : List Nat}, (∀ c ∈ l, lk fo c = none) → folded fo l = l
  | [], _ => rfl
  | c :: l, h => by
    have := folded_id (l := l) fun d hd => h d (List.mem_cons_of_mem _ hd)
    unfold folded at this ⊢
    rw [List.map_cons, List.flatten_cons, this, foldS_none (h c (by simp))]; rfl
theorem key_mem (t : okTab sg fo ma) {l : List Nat} (hl : ∀ c ∈ l, sg c = true) : ∀ d ∈ key fo ma l, sg d = true ∧ lk fo d = none := fun d hd => by
  rcases runs_mem _ _ hd with h | h
  · exact nomatch h
  · exact folded_mem t hl d h
theorem key_len (t : okTab sg fo ma) {l : List Nat} (hl : ∀ c ∈ l, sg c = true) : l.length ≤ (key fo ma l).length ∧ (key fo ma l).length ≤ 3 * l.length := by
  unfold key
  rw [runs_len t.okMa _ [] (fun _ h => nomatch h)]
  simpa using folded_len t hl
theorem key_key (t : okTab sg fo ma) {l : List Nat} (hl : ∀ c ∈ l, sg c = true) : key fo ma (key fo ma l) = key fo ma l := by
  have h := folded_id (fo := fo) (l := key fo ma l) fun c hc => (key_mem t hl c hc).2
  show runs ma [] (folded fo (key fo ma l)) = key fo ma l
  rw [h]
  exact runs_runs t.okMa _
end
/-! ### putting neighbours right, one after the other -/
def inv (ma : Ma) : List Nat → Nat
  | [] => 0
  | a :: l => (l.filter (wrong ma a)).length + inv ma l
theorem inv_swap {ma : Ma} {a b : Nat} (h : wrong ma a b = true) (hn : wrong ma b a = false) (y : List Nat) : ∀ x : List Nat, inv ma (x ++ b :: a :: y) + 1 = inv ma (x ++ a :: b :: y)
  | [] => by
    show inv ma (b :: a :: y) + 1 = inv ma (a :: b :: y)
    simp only [inv, List.filter_cons, h, hn, if_true, List.length_cons]
    simp; omega
  | c :: x => by
    show inv ma (c :: (x ++ b :: a :: y)) + 1 = inv ma (c :: (x ++ a :: b :: y))
    have ih := inv_swap h hn y x
    have e : ((x ++ b :: a :: y).filter (wrong ma c)).length = ((x ++ a :: b :: y).filter (wrong ma c)).length := by
      simp only [List.filter_append, List.length_append, List.filter_cons]
      by_cases h1 : wrong ma c a = true <;> by_cases h2 : wrong ma c b = true <;> simp [h1, h2]
    simp only [inv]
    omega
theorem wrong_anti {ma : Ma} {a b : Nat} (h : wrong ma a b = true) : wrong ma b a = false := by
  unfold wrong at h ⊢
  cases h1 : lk ma a with
  | none => rw [h1] at h; cases h
  | some m =>
    cases h2 : lk ma b with
    | none => rfl
    | some n =>
      rw [h1, h2] at h
      have h := of_decide_eq_true h
      exact decide_eq_false (by omega)
end Nm

set_option Elab.async false
set_option linter.all false
set_option maxRecDepth 100000
set_option maxHeartbeats 1000000
namespace Nm
open PySem PySem.Spec L2
/-! ### texts in order -/
def leS (a b : Str) : Prop := ¬ b.cps.toList < a.cps.toList
instance (a b : Str) : Decidable (leS a b) := by unfold leS; infer_instance
theorem leS_refl (a : Str) : leS a a := by unfold leS; exact List.lt_irrefl _
theorem leS_trans {a b c : Str} (h1 : leS a b) (h2 : leS b c) : leS a c := by
  have h : a.cps.toList ≤ c.cps.toList := List.le_trans (l₁ := a.cps.toList) (l₂ := b.cps.toList) h1 h2
  exact h
theorem leS_total (a b : Str) : leS a b ∨ leS b a := by
  have h : a.cps.toList ≤ b.cps.toList ∨ b.cps.toList ≤ a.cps.toList := List.le_total _ _
  exact h
theorem leS_antisymm {a b : Str} (h1 : leS a b) (h2 : leS b a) : a = b := by
  have h : a.cps.toList = b.cps.toList := List.le_antisymm (show a.cps.toList ≤ b.cps.toList from h1) (show b.cps.toList ≤ a.cps.toList from h2)
  exact str_ext h
theorem sort_unique : ∀ {xs ys : List Str}, xs.Perm ys → xs.Pairwise leS → ys.Pairwise leS → xs = ys
  | [], ys, p, _, _ => (List.nil_perm.mp p).symm ▸ rfl
  | x :: xs, ys, p, h1, h2 => by
    have hx : x ∈ ys := p.subset List.mem_cons_self
    match ys, h2, p, hx with
    | y :: ys, h2, p, hx =>
      have hy : y ∈ x :: xs := p.symm.subset List.mem_cons_self
      rw [List.pairwise_cons] at h1 h2
      have e : x = y := by
        rcases List.mem_cons.mp hx with e | hx
        · exact e
        · rcases List.mem_cons.mp hy with e | hy
          · exact e.symm
          · exact leS_antisymm (h1.1 y hy) (h2.1 x hx)
      subst e
      rw [sort_unique (List.Perm.cons_inv p) h1.2 h2.2]
def sortS (ks : List Str) : List Str := ks.mergeSort fun a b => decide (leS a b)
theorem sortS_perm (ks : List Str) : (sortS ks).Perm ks := List.mergeSort_perm _ _
theorem sortS_pair (ks : List Str) : (sortS ks).Pairwise leS := by
  have h := List.pairwise_mergeSort (le := fun a b => decide (leS a b)) (fun a b c h1 h2 => decide_eq_true (leS_trans (of_decide_eq_true h1) (of_decide_eq_true h2))) (fun a b => by
    rcases leS_total a b with h | h
    · simp [h]
    · simp [h]) ks
  exact h.imp fun h => of_decide_eq_true h
theorem rising_pair : ∀ (l : List Str) (p : Str), PyProof.Rows.risingS p l = true → (p :: l).Pairwise leS
  | [], p, _ => by simp
  | x :: r, p, h => by
    simp only [PyProof.Rows.risingS, Bool.and_eq_true, Bool.not_eq_true'] at h
    have ih := rising_pair r x h.2
    have px : leS p x := by
      have := h.1
      rw [PyProof.Rows.ltCps_eq] at this
      exact of_decide_eq_false this
    rw [List.pairwise_cons]
    refine ⟨fun y hy => ?_, ih⟩
    rcases List.mem_cons.mp hy with rfl | hy
    · exact px
    · exact leS_trans px ((List.pairwise_cons.mp ih).1 y hy)
theorem sortedS_is {ys ks : List Str} (p : ys.Perm ks) (h : PyProof.Rows.sortedS ys = true) : ys = sortS ks := by
  have hp : ys.Pairwise leS := by
    match ys, h with
    | [], _ => exact List.Pairwise.nil
    | x :: r, h => exact rising_pair r x h
  exact sort_unique (p.trans (sortS_perm ks).symm) hp (sortS_pair ks)

section
variable {K : PySem.W.Frag} {F H : Hp} {σ : L2.St} {ta tb tc te : TE} {d : D}
/-! ### keys and dicts -/
def kD : Key → D
  | .inl i => .int i
  | .inr x => .str x
def valD (es : List (Key × D)) (k : Key) : Option D := (es.find? fun kv => decide (kv.1 = k)).map (·.2)
theorem DenK.val : ∀ {kvs : List (Key × V)} {es : List (Key × D)} (k : Key), DenK K F kvs es → (∃ v d, valV kvs k = some v ∧ valD es k = some d ∧ Den K F v d) ∨ (valV kvs k = none ∧ valD es k = none)
  | _, _, k, .nil => .inr ⟨rfl, rfl⟩
  | (k0, v) :: kvs, (_, d) :: es, k, .cons h t => by
    by_cases e : k0 = k
    · refine .inl ⟨v, d, ?_, ?_, h⟩
      · unfold valV; simp [List.find?_cons, e]
      · unfold valD; simp [List.find?_cons, e]
    · have h1 : valV ((k0, v) :: kvs) k = valV kvs k := by unfold valV; simp [List.find?_cons, e]
      have h2 : valD ((k0, d) :: es) k = valD es k := by unfold valD; simp [List.find?_cons, e]
      rw [h1, h2]
      exact DenK.val k t
theorem DenK.keys : ∀ {kvs : List (Key × V)} {es : List (Key × D)}, DenK K F kvs es → kvs.map (·.1) = es.map (·.1)
  | _, _, .nil => rfl
  | _, _, .cons _ t => by rw [List.map_cons, List.map_cons, t.keys]
theorem DenK.length {kvs : List (Key × V)} {es : List (Key × D)} (h : DenK K F kvs es) : kvs.length = es.length := by
  have := congrArg List.length h.keys
  simpa using this
theorem den_key {k : Key} {y : V} (h : Den K F y (kD k)) : y = kV k := by
  cases k with
  | inl i => cases h; rfl
  | inr x => cases h; rfl
theorem rv_ix_dic {es : List (Key × D)} {k : Key} {a : D} (ha : a = kD k) (h : valD es k = some d) : RvD K (rIxA K) (.dic es) a d := fun F H x y s hx hy Q q => by
  subst ha
  have ey := den_key hy
  subst ey
  cases hx with
  | dic r l =>
    rcases l.val k with ⟨v, d', h1, h2, h3⟩ | ⟨_, h2⟩
    · rw [h] at h2; cases h2
      exact .inr ⟨_, v, rfl, .inl ⟨_, k, .inr ⟨_, s _ _ r⟩, rfl, h1.symm⟩, q _ F H (Ext.refl s) h3⟩
    · rw [h] at h2; cases h2
theorem in_dic {es : List (Key × D)} {k : Key} {f : Bool → Bool} {F H : Hp} {x y : V} {Q : VK} (s : Same F H) (hx : Den K F x (kD k)) (hy : Den K F y (.dic es)) (q : ∀ v F' H', Ext [] F H F' H' → Den K F' v (.bl (f (valD es k).isSome)) → Q v H') : rInDict f x y H Q := by
  have ex := den_key hx
  subst ex
  cases hy with
  | dic r l =>
    refine ⟨_, _, rfl, .inl ⟨_, k, .inr ⟨_, s _ _ r⟩, rfl, rfl⟩, ?_⟩
    rcases l.val k with ⟨v, d', h1, h2, h3⟩ | ⟨h1, h2⟩
    · rw [h1]; rw [h2] at q; exact q _ F H (Ext.refl s) (.bl _)
    · rw [h1]; rw [h2] at q; exact q _ F H (Ext.refl s) (.bl _)
theorem rv_in_dic {es : List (Key × D)} {k : Key} {a : D} (ha : a = kD k) : RvD K (rInA K) a (.dic es) (.bl (valD es k).isSome) := fun F H x y s hx hy Q q => by
  subst ha
  exact .inr (.inr (in_dic (f := id) s hx hy q))
theorem rv_notin_dic {es : List (Key × D)} {k : Key} {a : D} (ha : a = kD k) : RvD K (rNotInA K) a (.dic es) (.bl (!(valD es k).isSome)) := fun F H x y s hx hy Q q => by
  subst ha
  exact .inr (.inr (in_dic (f := (!·)) s hx hy q))
theorem rc_len_dic {es : List (Key × D)} : RcD K (rLenA K) [.dic es] (.int es.length) := fun F H xs s hx Q q => by
  cases hx with
  | cons h t =>
    cases t
    cases h with
    | dic r l =>
      exact .inr (.inr ⟨_, _, rfl, .inr ⟨_, s _ _ r⟩, by rw [l.length]; exact q _ F H (Ext.refl s) (.int _)⟩)
/-! ### dict(d), list(d), list(text), sorted -/
def rDictA : List V → Hp → VK → Prop := fun xs H Q => ∃ (a : Addr) (kvs : List (Key × V)), xs = [.ref a] ∧ Rd H a (.dK kvs) ∧ ∀ p, H p = none → Q (.ref p) (upd H p (.dK kvs))
theorem c_dict {X : Cx} : CallR X (.type "dict") rDictA := call_dictD
/-! ### dicts that are data are locked for good -/
def tLk (te : TE) : TE := fun σ H Q => te σ H fun v H1 => Q v H1 ∨ ∃ d u, v = .ref d ∧ H1 d = some u ∧ Mut (some u) ∧ ∀ od, Q v (upd H1 d (.frz od u))
theorem pe_lk {X : Cx} {e : Expr} {t : TE} (h : PE X e t) : PE X e (tLk t) := by
  refine ⟨fun pins s σ H Q I hw => ?_⟩
  refine thn (h.run pins s σ H _ I hw) fun u s1 ⟨x, H1, I1, r, q⟩ => ?_
  rcases q with q | ⟨d, o, rfl, hd, mu, q⟩
  · exact ⟨x, H1, I1, r, q⟩
  · obtain ⟨od, I2⟩ := I1.lock hd mu
    exact ⟨_, _, I2, r, q od⟩
theorem ev_dnew : EvD K (tLk tDNewK) σ F (.dic []) := fun H s Q q p hp => .inr ⟨p, _, rfl, upd_same, trivial, fun od => by rw [upd_upd]; exact q _ _ _ (Ext.new s hp) (.dic upd_same .nil)⟩
theorem ev_disp1 {x : Str} {d : D} {v : V} (hd : ∀ F, Den K F v d) : EvD K (tLk (tDisp [(tC (.str x), tC v)])) σ F (.dic [(.inr x, d)]) := fun H s Q q p hp => by
  refine ⟨upd_same, [(.inr x, v)], rfl, by simp, .inr ⟨p, _, rfl, upd_same, trivial, fun od => ?_⟩⟩
  rw [upd_upd, upd_upd]
  exact q _ _ _ (Ext.new s hp) (.dic upd_same (.cons (hd _) .nil))
/-- dict(d), locked -/
theorem ev_dict {tr : TA} {es : List (Key × D)} (h : EvA K tr σ F [.dic es]) : EvD K (tLk (tCB rDictA tr)) σ F (.dic es) := fun H s Q q => h H s _ fun vs F1 H1 x1 l => by
  cases l with
  | cons a t =>
    cases t
    cases a with
    | dic r l => exact ⟨_, _, rfl, .inr ⟨_, x1.s _ _ r⟩, fun p hp => .inr ⟨p, _, rfl, upd_same, trivial, fun od => by rw [upd_upd]; exact q _ _ _ (x1.tr (Ext.new x1.s hp)) (.dic upd_same (DenK.mono (Ext.new x1.s hp).f es l))⟩⟩
/-- for k in d -/
theorem ei_keys {es : List (Key × D)} (h : EvD K te σ F (.dic es)) : EvI K (iSeq K te) σ F (es.map fun e => kD e.1) := fun H s R q => .inr (.inr (.inr (h H s _ fun v F1 H1 x1 d1 => by
  cases d1 with
  | dic hh l =>
    rename_i a o kvs
    refine ⟨a, o, rfl, .inl ⟨kvs, x1.s _ _ hh, q _ F1 H1 x1 ⟨fun H => H a = some (.frz o (.dK kvs)), (fun i H x H' => H' = H ∧ ∃ k v, kvs[i]? = some (k, v) ∧ x = kV k), ?_, fun H s => s _ _ hh, fun i H x H' hi s y => ?_⟩⟩⟩
    · rw [List.length_map, ← l.length]; exact walk_keys
    · obtain ⟨rfl, k, v, y, rfl⟩ := y
      refine ⟨kD k, F1, ?_, Ext.refl s, ?_⟩
      · have e := congrArg (fun l => l[i]?) l.keys
        simp only [List.getElem?_map, y, Option.map_some] at e
        rw [List.getElem?_map]
        cases z : es[i]? with
        | none => rw [z] at e; cases e
        | some p => rw [z] at e; simp at e; rw [e]; rfl
      · cases k with
        | inl n => exact .int n
        | inr x => exact .str x)))
def rSortD : List V → Hp → VK → Prop := fun xs H Q => ∃ (a : Addr) (kvs : List (Key × V)) (ks : List Str), xs = [.ref a] ∧ Rd H a (.dK kvs) ∧ kvs.map (·.1) = ks.map Sum.inr ∧ ks.length < 64 ∧
    ∀ ys p, ys.Perm ks → PyProof.Rows.sortedS ys = true → H p = none → Q (.ref p) (upd H p (.lst (ys.map V.str)))
def rSortedA (K : PySem.W.Frag) : List V → Hp → VK → Prop := fun xs H Q => rSortD xs H Q ∨ rSortedS K xs H Q
theorem c_sorted {X : Cx} (hc : X.calm = true) : CallR X (.builtin "sorted") (rSortedA X.K) := calr_or (call_sortedD hc) cr_sortedS
theorem DenL.strs : ∀ (ys : List Str), DenL K F (ys.map V.str) (ys.map D.str)
  | [] => .nil
  | y :: ys => .cons (.str y) (DenL.strs ys)
theorem rc_sorted_dic {es : List (Key × D)} {ks : List Str} (h : es.map (·.1) = ks.map Sum.inr) (hl : ks.length < 64) : RcD K (rSortedA K) [.dic es] (.lst ((sortS ks).map D.str)) := fun F H xs s hx Q q => by
  cases hx with
  | cons a t =>
    cases t
    cases a with
    | dic r l =>
      refine .inl ⟨_, _, ks, rfl, .inr ⟨_, s _ _ r⟩, by rw [l.keys]; exact h, hl, fun ys p h1 h2 hp => ?_⟩
      rw [sortedS_is h1 h2]
      exact q _ _ _ (Ext.new s hp) (.lst upd_same (DenL.strs _))
theorem rc_sorted_lst {ks : List Str} (hl : ks.length < 64) : RcD K (rSortedA K) [.lst (ks.map D.str)] (.lst ((sortS ks).map D.str)) := fun F H xs s hx Q q => by
  cases hx with
  | cons a t =>
    cases t
    cases a with
    | lst r l =>
      rw [denL_strs l] at r
      refine .inr ⟨_, ks, rfl, SqL.of (s _ _ r), hl, fun ys p h1 h2 hp => ?_⟩
      rw [sortedS_is h1 h2]
      exact q _ _ _ (Ext.new s hp) (.lst upd_same (DenL.strs _))
/-- list(text) -/
def rListS : List V → Hp → VK → Prop := fun xs H Q => ∃ z : Str, xs = [.str z] ∧ z.length ≤ sizeLine ∧ ∀ p, H p = none → Q (.ref p) (upd H p (.lst (z.cps.toList.map fun c => V.str ⟨#[c]⟩)))
theorem vals_ix : ∀ (xs : List V) (us : List Value), xs.length = us.length → (∀ (i : Nat) x u, xs[i]? = some x → us[i]? = some u → RelV x u) → Vals xs us
  | [], [], _, _ => .nil
  | x :: xs, u :: us, h, k => .cons (k 0 x u rfl rfl) (vals_ix xs us (by simpa using h) fun i y w h1 h2 => k (i + 1) y w (by simpa using h1) (by simpa using h2))
theorem vals_signs {z : Str} {acc : Array Value} (h : ItemsOf (SignAt z) acc z.cps.size) : Vals (z.cps.toList.map fun c => V.str ⟨#[c]⟩) acc.toList := by
  refine vals_ix _ _ (by simp [h.1]) fun i x u h1 h2 => ?_
  obtain ⟨c, t, hc, rfl⟩ := h.2 i u (by simpa using h2)
  rw [List.getElem?_map, Array.getElem?_toList, hc] at h1
  cases h1
  exact ⟨t, rfl⟩
theorem c_list_str {X : Cx} (hc : X.calm = true) : CallR X (.type "list") rListS := by
  intro pins s σ H xs us Q I r h
  obtain ⟨z, rfl, hz, q⟩ := h
  obtain ⟨u, rfl, t, rfl⟩ := vals1 r
  refine call_list_str (I.ok.hd hc) z t (fun h' tk acc c hk ho hi => ?_) hz
  have hv := vals_signs hi
  refine ⟨.ref _, upd H s.heap.objs.size (.lst (z.cps.toList.map fun c => V.str ⟨#[c]⟩)), I.laid (t' := tk) hk (Nat.le_refl _) ⟨?_, acc.toList, c, hv, by simpa using ho⟩, rfl, q _ (I.hok.fresh (Nat.le_refl _))⟩
  rw [List.length_map]
  have : z.cps.toList.length = z.length := by simp [Str.length]
  rw [this]; exact hz
def rListA (K : PySem.W.Frag) : List V → Hp → VK → Prop := fun xs H Q => (∃ p ys, xs = [.ref p] ∧ (SqL K H p ys ∨ SqT K H p ys) ∧ ∀ l, H l = none → Q (.ref l) (upd H l (.lst ys))) ∨ rListS xs H Q ∨
  ∃ (a : Addr) (kvs : List (Key × V)), xs = [.ref a] ∧ Rd H a (.dK kvs) ∧ ∀ p, H p = none → Q (.ref p) (upd H p (.lst (kvs.map fun kv => kV kv.1)))
theorem c_list {X : Cx} (hc : X.calm = true) : CallR X (.type "list") (rListA X.K) := calr_or call_list_of (calr_or (c_list_str hc) (call_listD hc))
/-! ### stars in displays -/
theorem ea_star_lst {tr : TA} {ds es : List D} (h : EvD K te σ F (.lst ds)) (hr : EvA K tr σ F es) : EvA K (StX.tStar K te tr) σ F (ds ++ es) := fun H s Q q =>
  h H s _ fun v F1 H1 x1 d1 => by
    cases d1 with
    | lst a l =>
      refine ⟨_, _, rfl, .inr (SqL.of (x1.s _ _ a)), (hr.up x1.f) H1 x1.s _ fun vs F2 H2 x2 l2 => q _ F2 H2 (x1.tr x2) ((l.up x2.f).append l2)⟩
/-! ### fields and calls of objects -/
theorem DenF.look : ∀ {fs : List (Str × V)} {gs : List (Str × D)} {f : Str} {d : D}, DenF K F fs gs → gs.lookup f = some d → ∃ v, fs.lookup f = some v ∧ Den K F v d
  | _, _, f, d, .nil, h => by simp at h
  | (k, v) :: fs, (_, e) :: gs, f, d, .cons h t, hl => by
    by_cases z : f = k
    · subst z
      simp [List.lookup] at hl ⊢
      subst hl
      exact h
    · have zb : (f == k) = false := by simpa using z
      simp only [List.lookup, zb] at hl ⊢
      exact DenF.look t hl
theorem ev_fld {C : Addr} {gs : List (Str × D)} {f : Str} (c : Cls K C) (n : NoAttr K C f) (h : EvD K te σ F (.obj C gs)) (hl : gs.lookup f = some d) : EvD K (tFld K te f) σ F d := fun H s Q q =>
  h H s _ fun v F1 H1 x1 d1 => by
    cases d1 with
    | obj a l =>
      obtain ⟨w, h1, h2⟩ := l.look hl
      exact ⟨_, C, _, _, w, rfl, x1.s _ _ a, c, n, h1, q _ F1 H1 x1 h2⟩
/-- a call of an object, by its class's __call__ -/
def tCallQ (C : Addr) (sp : Sp) (E : XK) (tf : TE) (t : TA) : TE := fun σ H Q => tf σ H fun y H1 => ∃ a, y = V.ref a ∧ t σ H1 fun vs H2 => (∃ dx fs, H2 a = some (.ins C dx fs)) ∧ sp (V.ref a :: vs) H2 Q E
theorem pe_callQ {X : Cx} {CX : CXT} {k : Nat} {C g : Addr} {fd : FuncData} {ps : List Str} {sp : Sp} {E : XK} {fe e : Expr} {es : List Expr} {pos : Pos} {tf : TE} {tr : TA} (hf : PE X fe tf) (c : StX.CallO X.K C g) (G : FnOk X.prog X.w X.K X.mg X.base CX k g fd ps sp) (hb : Binds X.K fd ps []) (hr : Room k X.A) (hx : Passes CX X E) (ha : PA X (e :: es) tr)
    (ht : eval (.Call fe (e :: es) [] pos) X.env = (do callWith pos (← eval fe X.env) [] (backTo pos (starEach (e :: es) X.env)) (backToKw pos (keywordEach [] X.env))) := by rfl)
    (he : starEach (e :: es) X.env = (false, eval e X.env) :: starEach es X.env := by rfl) (hpl : (backTo pos (starEach es X.env)).any (·.1) = false := by rfl) : PE X (.Call fe (e :: es) [] pos) (tCallQ C sp E tf tr) := by
  have R : FnR X.prog X.w X.K X.mg X.base CX k g sp := (G.raw hb .nil).imp fun vs H Q E h => by rw [List.append_nil]; exact h
  refine ⟨fun pins s σ H Q I h => ?_⟩
  refine PyProof.Rows.Call_ (thn (hf.run pins s σ H _ I h) fun u s1 hh => ?_) ht
  obtain ⟨y, H1, I1, ry, a, ey, q⟩ := hh
  subst ey
  cases (show u = Value.ref a from ry)
  refine StX.callO_with (thn (ha.run pos pins s1 σ H1 _ I1 q) fun us s2 hh => ?_) he hpl
  obtain ⟨vs, H2, I2, r, hi, q2⟩ := hh
  have hi' : StX.InsC X H2 a C := .inr hi
  obtain ⟨ox, od, J, hd⟩ := StX.insC_at I2 hi'
  exact ⟨⟨C, ox, od, J, hd⟩, StX.run_callO c R hr hx I2 hi' r q2⟩
theorem ev_callQ {C : Addr} {gs : List (Str × D)} {tr : TA} {E : XK} {n : Nat} {f : List D → Option D} {es : List D} (hf : EvD K te σ F (.obj C gs)) (ha : EvA K tr σ F es) (he : f (.obj C gs :: es) = some d) (hn : (D.obj C gs :: es).length = n) :
    EvD K (tCallQ C (spP K n f) E te tr) σ F d := fun H s Q q =>
  hf H s _ fun v F1 H1 x1 d1 => by
    have d1' := d1
    cases d1 with
    | obj a l =>
      refine ⟨_, rfl, (ha.up x1.f) H1 x1.s _ fun vs F2 H2 x2 l2 => ⟨⟨_, _, x2.s _ _ (x2.f _ _ a)⟩, F2, _, d, x2.s, .cons (d1'.up x2.f) l2, he, hn, fun w F3 H3 x3 d3 => q w F3 H3 ((x1.tr x2).tr x3) d3⟩⟩
/-- making an object: __init__ as a def that sets fields once -/
def spI (K : PySem.W.Frag) (C : Addr) (n : Nat) (f : List D → Option (List (Str × D))) : Sp := fun vs H Q _ => ∃ F x dx ws ds gs, vs = .ref x :: ws ∧ Same F H ∧ H x = some (.ins C dx []) ∧ F x = none ∧ DenL K F ws ds ∧ ds.length = n ∧ f ds = some gs ∧
  ∀ fs F' H', Ext [x] F H F' H' → F' x = none → H' x = some (.ins C dx fs) → DenF K F' fs gs → Q .non H'
theorem ev_make {C : Addr} {tr : TA} {E : XK} {n : Nat} {f : List D → Option (List (Str × D))} {ds : List D} {gs : List (Str × D)} (ha : EvA K tr σ F ds) (hf : f ds = some gs) (hn : ds.length = n) : EvD K (tMake C (spI K C n f) [] E tr) σ F (.obj C gs) := fun H s Q q =>
  ha H s _ fun vs F1 H1 x1 l1 x dx hx hdx ne => by
    have y1 : Ext [] F1 H1 F1 (upd H1 dx (.own x)) := Ext.newM x1.s hdx
    have hx' : upd H1 dx (.own x) x = none := by rw [upd_ne (Ne.symm ne)]; exact hx
    have y2 : Ext [] F1 (upd H1 dx (.own x)) F1 (upd (upd H1 dx (.own x)) x (.ins C dx [])) := Ext.newM y1.s hx'
    refine ⟨F1, x, dx, vs, ds, gs, by simp, y2.s, upd_same, x1.s.free hx, l1, hn, hf, fun fs F2 H2 x2 fx hx2 l2 => ⟨rfl, ?_⟩⟩
    have z : Ext [] F1 H1 F2 H2 := Ext.forget (y1.tr y2) x2 hx
    have z2 := Ext.freeze z hx hx2 fx
    exact q _ _ _ (x1.tr z2) (.obj upd_same (DenF.mono (same_new fx) gs l2))
end
end Nm

set_option Elab.async false
set_option linter.all false
set_option maxRecDepth 100000
set_option maxHeartbeats 1000000
namespace Nm
open PySem PySem.Spec L2
/-- f(e, *y), by a promise of data -/
theorem pe_callS {X : Cx} {CX : CXT} {k : Nat} {f : Addr} {fd : FuncData} {ps : List Str} {sp : Sp} {E : XK} {x : Str} {e : Expr} {es : List Expr} {p pos : Pos} {t : TA} (G : FnOk X.prog X.w X.K X.mg X.base CX k f fd ps sp) (hr : Room k X.A) (hg : Gl X x) (hm : X.mg x = some (.ref f)) (hk : PySem.W.keepIn X.K (.ref f) = true) (hb : Binds X.K fd ps []) (hx : Passes CX X E) (ha : PA X (e :: es) t) (hd : (x == ("__debug__" : Str)) = false := by decide)
    (he : starEach (e :: es) X.env = (false, eval e X.env) :: starEach es X.env := by rfl) (hst : (backTo pos (starEach es X.env)).any (·.1) = true := by rfl) : PE X (.Call (.Name x p) (e :: es) [] pos) (tCall sp [] E t) :=
  StX.pe_callS2 (G.raw hb .nil) hr hk hg hm hx ha hd he hst
section
variable {K : PySem.W.Frag} {F H : Hp} {σ : L2.St} {ta tb tc te : TE} {d e : D} {r : List Sl} {DE : Ends} {tz : TS}
theorem ea_star_tup {tr : TA} {ds es : List D} (h : EvD K te σ F (.tup ds)) (hr : EvA K tr σ F es) : EvA K (StX.tStar K te tr) σ F (ds ++ es) := fun H s Q q =>
  h H s _ fun v F1 H1 x1 d1 => by
    cases d1 with
    | tup a l =>
      refine ⟨_, _, rfl, .inl (same_t x1.s a), (hr.up x1.f) H1 x1.s _ fun vs F2 H2 x2 l2 => q _ F2 H2 (x1.tr x2) ((l.up x2.f).append l2)⟩
theorem sz0 : 0 ≤ sizeLine := Nat.zero_le _
theorem sz1 : 1 ≤ sizeLine := by rw [sizeLine_eq]; decide
theorem sz2 : 2 ≤ sizeLine := by rw [sizeLine_eq]; decide
theorem sz3 : 3 ≤ sizeLine := by rw [sizeLine_eq]; decide
theorem sz4 : 4 ≤ sizeLine := by rw [sizeLine_eq]; decide
theorem sz5 : 5 ≤ sizeLine := by rw [sizeLine_eq]; decide
def onCh (f : Nat → D) : D → D
  | .str s => (match s.cps.toList with | [c] => f c | _ => .non)
  | _ => .non
def onChB (f : Nat → Bool) : D → Bool
  | .str s => (match s.cps.toList with | [c] => f c | _ => false)
  | _ => false
/-- x, y = a, b -/
theorem q_par {i j : Nat} {tr : TA} (S : Same F H) (E : EnvD K F r σ) (h : EvA K tr σ F [d, e]) (k : ∀ F' H' σ', Ext [] F H F' H' → EnvD K F' ((r.set i (.d d)).set j (.d e)) σ' → tz DE σ' H') : tSeq (tPar i j tr) tz DE σ H :=
  h H S _ fun vs F' H' x l => by
    cases l with
    | cons a t =>
      cases t with
      | cons b t =>
        cases t
        exact ⟨_, _, rfl, k F' H' _ x (EnvD.set j (EnvD.set i (E.up x.f) ⟨_, rfl, a⟩) ⟨_, rfl, b⟩)⟩
/-- what a target does with a datum: the frame behind it -/
def TgD (K : PySem.W.Frag) (g : TG) (d : D) (u : List Sl → List Sl) : Prop := ∀ F H r σ v (Q : L2.St → Hp → Prop), Same F H → EnvD K F r σ → Den K F v d → (∀ σ', EnvD K F (u r) σ' → Q σ' H) → g v σ H Q
theorem tg_name {j : Nat} : TgD K (gName j) d (fun r => r.set j (.d d)) := fun F H r σ v Q S E h k => k _ (EnvD.set j E ⟨v, rfl, h⟩)
theorem tg_two {i j : Nat} : TgD K (gTup K 2 (gCons (gName i) (gCons (gName j) gNil))) (.tup [d, e]) (fun r => (r.set i (.d d)).set j (.d e)) := fun F H r σ v Q S E h k => by
  cases h with
  | tup a l =>
    cases l with
    | cons p t =>
      cases t with
      | cons q t =>
        cases t
        exact ⟨_, _, rfl, same_t S a, rfl, _, _, rfl, _, _, rfl, rfl, k _ (EnvD.set j (EnvD.set i E ⟨_, rfl, p⟩) ⟨_, rfl, q⟩)⟩
theorem q_asgG {g : TG} {u : List Sl → List Sl} (S : Same F H) (E : EnvD K F r σ) (h : EvD K te σ F d) (t : TgD K g d u) (k : ∀ F' H' σ', Ext [] F H F' H' → EnvD K F' (u r) σ' → tz DE σ' H') : tSeq (tAsg te g) tz DE σ H :=
  h H S _ fun v F' H' x dv => t F' H' r σ v _ x.s (E.up x.f) dv fun σ' E' => k F' H' σ' x E'
/-- what is walked, in this heap -/
def EvIH (K : PySem.W.Frag) (wi : TI) (σ : L2.St) (F H : Hp) (items : List D) : Prop := ∀ R : It → Hp → Prop, (∀ J F' H', Ext [] F H F' H' → WalkD K F' J items → R J H') → wi σ H R
theorem s_forH {tb : TS} (M : List Addr) (Pv : Nat → Hp → Hp → List Sl → Prop) {items : List D} {wi : TI} {g : TG} (u : D → List Sl → List Sl) (S : Same F H) (E : EnvD K F r σ) (hi : EvIH K wi σ F H items) (hg : ∀ d, d ∈ items → TgD K g d (u d))
    (h0 : ∀ F' H', Ext [] F H F' H' → Pv 0 F' H' r)
    (hs : ∀ i d F1 H1 F2 H2 r' σ' (N : L2.St → Hp → Prop), items[i]? = some d → Ext M F H F1 H1 → Pv i F1 H1 r' → Ext [] F1 H1 F2 H2 → EnvD K F2 (u d r') σ' →
      (∀ F3 H3 r3 σ3, Ext M F2 H2 F3 H3 → EnvD K F3 r3 σ3 → Pv (i + 1) F3 H3 r3 → N σ3 H3) → tb { DE with nx := N, ct := N, bk := DE.nx } σ' H2)
    (hd : ∀ F' H' r' σ', Ext M F H F' H' → EnvD K F' r' σ' → Pv items.length F' H' r' → DE.nx σ' H') : tFor wi g tb DE σ H :=
  hi _ fun J F1 H1 x1 W1 => by
    obtain ⟨G, Y, w, hg', hy⟩ := W1
    refine ⟨fun i m σ3 H3 => m = items.length - i ∧ i ≤ items.length ∧ ∃ F3 r3, Ext M F H F3 H3 ∧ Same F1 F3 ∧ EnvD K F3 r3 σ3 ∧ Pv i F3 H3 r3, ⟨items.length, by simp, Nat.zero_le _, F1, r, x1.wide (by simp), Same.refl _, E.up x1.f, h0 F1 H1 x1⟩, ?_⟩
    rintro i m σ3 H3 ⟨rfl, hle, F3, r3, x, e, E3, p⟩
    have hG := hg' H3 (e.trans x.s)
    by_cases hlt : i < items.length
    · refine .inr ⟨w.goes i H3 hlt hG, fun σ' H' => ∃ F4 r4, Ext M F H F4 H' ∧ Same F1 F4 ∧ EnvD K F4 r4 σ' ∧ Pv (i + 1) F4 H' r4, fun σ' H' q => ⟨items.length - (i + 1), by omega, rfl, hlt, q⟩, fun v H4 y => ?_⟩
      obtain ⟨d, F2, h1, h2, h3⟩ := hy i H3 v H4 hlt (e.trans x.s) (w.yields i H3 v H4 hlt hG y)
      have x2 := Ext.uni e x.s h2
      have h3' : Den K (uni F3 F2) v d := h3.up (uni_r (x.s.trans h2.same) h2.s)
      refine hg d (List.mem_of_getElem? h1) _ H4 r3 σ3 v _ x2.s (E3.up x2.f) h3' fun σ' E' => ?_
      exact hs i d F3 H3 _ H4 r3 _ _ h1 x p x2 E' fun F5 H5 r5 σ5 x5 E5 p5 => ⟨F5, r5, (x.tl x2).trans x5, (e.trans x2.f).trans x5.f, E5, p5⟩
    · have ei : i = items.length := by omega
      subst ei
      exact .inl ⟨w.stops H3 hG, hd F3 H3 r3 σ3 x E3 p⟩
theorem s_forG {tb : TS} (M : List Addr) (Pv : Nat → Hp → Hp → List Sl → Prop) {items : List D} {wi : TI} {g : TG} (u : D → List Sl → List Sl) (S : Same F H) (E : EnvD K F r σ) (hi : EvI K wi σ F items) (hg : ∀ d, d ∈ items → TgD K g d (u d))
    (h0 : ∀ F' H', Ext [] F H F' H' → Pv 0 F' H' r)
    (hs : ∀ i d F1 H1 F2 H2 r' σ' (N : L2.St → Hp → Prop), items[i]? = some d → Ext M F H F1 H1 → Pv i F1 H1 r' → Ext [] F1 H1 F2 H2 → EnvD K F2 (u d r') σ' →
      (∀ F3 H3 r3 σ3, Ext M F2 H2 F3 H3 → EnvD K F3 r3 σ3 → Pv (i + 1) F3 H3 r3 → N σ3 H3) → tb { DE with nx := N, ct := N, bk := DE.nx } σ' H2)
    (hd : ∀ F' H' r' σ', Ext M F H F' H' → EnvD K F' r' σ' → Pv items.length F' H' r' → DE.nx σ' H') : tFor wi g tb DE σ H := s_forH M Pv u S E (hi H S) hg h0 hs hd
/-! what is worth what in this heap, nothing changed -/
def At (te : TE) (σ : L2.St) (H : Hp) (v : V) : Prop := ∀ Q : VK, Q v H → te σ H Q
theorem at_var {i : Nat} {v : V} (h : σ[i]? = some (some v)) : At (tVar i) σ H v := fun Q q => ⟨v, h, q⟩
theorem at_slot {i : Nat} {v : V} (E : EnvD K F r σ) (h : r[i]? = some (.v v)) : At (tVar i) σ H v := by
  obtain ⟨o, h1, h2⟩ := E.get h
  exact at_var (by rw [h1]; exact congrArg some h2)
theorem at_int {i : Nat} {n : Int} (E : EnvD K F r σ) (h : r[i]? = some (.d (.int n))) : At (tVar i) σ H (.int n) := by
  obtain ⟨o, h1, v, h2, h3⟩ := E.get h
  subst h2
  cases h3
  exact at_var h1
theorem at_str {i : Nat} {n : Str} (E : EnvD K F r σ) (h : r[i]? = some (.d (.str n))) : At (tVar i) σ H (.str n) := by
  obtain ⟨o, h1, v, h2, h3⟩ := E.get h
  subst h2
  cases h3
  exact at_var h1
theorem at_c {v : V} : At (tC v) σ H v := fun _ q => q
theorem at_op {rr : R2} {x y v : V} (ha : At ta σ H x) (hb : At tb σ H y) (h : ∀ Q : VK, Q v H → rr x y H Q) : At (tOp rr ta tb) σ H v := fun Q q => ha _ (hb _ (h Q q))
theorem at_add {i j : Int} (ha : At ta σ H (.int i)) (hb : At tb σ H (.int j)) : At (tOp (rAddA K) ta tb) σ H (.int (i + j)) := at_op ha hb fun Q q => .inl ⟨i, j, rfl, rfl, q⟩
theorem at_sub {i j : Int} (ha : At ta σ H (.int i)) (hb : At tb σ H (.int j)) : At (tOp (rI0 fun i j => V.int (i - j)) ta tb) σ H (.int (i - j)) := at_op ha hb fun Q q => ⟨i, j, rfl, rfl, q⟩
theorem at_ix {p : Addr} {xs : List V} {v : V} {i : Int} (h : H p = some (.lst xs)) (ha : At ta σ H (.ref p)) (hb : At tb σ H (.int i)) (e : atI xs i = some v) : At (tOp (rIxA K) ta tb) σ H v :=
  at_op ha hb fun Q q => .inl (.inl ⟨p, xs, i, v, rfl, rfl, SqL.of h, e, q⟩)
theorem at_len {p : Addr} {xs : List V} (h : H p = some (.lst xs)) (ha : At ta σ H (.ref p)) : At (tCB (rLenA K) (tCons ta tNil)) σ H (.int xs.length) := fun Q q => ha _ (.inl ⟨p, xs, rfl, .inl (SqL.of h), q⟩)
theorem eih_rng1 {m : Nat} (S : Same F H) (h : At ta σ H (.int (m : Nat))) (hm : m ≤ 1000000) : EvIH K (iRng1 (tCons ta tNil)) σ F H ((List.range m).map fun i => .int (i : Nat)) := fun R q => h _ (by
  have one : EvA K (fun _ H2 R => R [.int (m : Nat)] H2) σ F [.int (m : Nat)] := fun H2 s2 R2 q2 => q2 _ F H2 (Ext.refl s2) (.cons (.int _) .nil)
  have := ei_rng1 one (by omega) (by omega) H S R fun J F2 H2 x2 W => q J F2 H2 x2 (by rw [Int.toNat_natCast] at W; exact W)
  exact this)
theorem q_for {tb : TS} (M : List Addr) (Pv : Nat → Hp → Hp → List Sl → Prop) {items : List D} {wi : TI} {j : Nat} (S : Same F H) (E : EnvD K F r σ) (hi : EvI K wi σ F items)
    (h0 : ∀ F' H', Ext [] F H F' H' → Pv 0 F' H' r)
    (hs : ∀ i d F1 H1 F2 H2 r' σ' (N : L2.St → Hp → Prop), items[i]? = some d → Ext M F H F1 H1 → Pv i F1 H1 r' → Ext [] F1 H1 F2 H2 → EnvD K F2 (r'.set j (.d d)) σ' →
      (∀ F3 H3 r3 σ3, Ext M F2 H2 F3 H3 → EnvD K F3 r3 σ3 → Pv (i + 1) F3 H3 r3 → N σ3 H3) → tb { DE with nx := N, ct := N, bk := tz DE } σ' H2)
    (hd : ∀ F' H' r' σ', Ext M F H F' H' → EnvD K F' r' σ' → Pv items.length F' H' r' → tz DE σ' H') : tSeq (tFor wi (gName j) tb) tz DE σ H :=
  s_for (DE := { DE with nx := tz DE }) M Pv S E hi h0 hs hd
/-- a for that changes nothing but its own names -/
theorem q_look {tb : TS} {items : List D} {wi : TI} {g : TG} (u : D → List Sl → List Sl) (R : List Sl → Prop) (S : Same F H) (E : EnvD K F r σ) (hi : EvI K wi σ F items) (hg : ∀ d, d ∈ items → TgD K g d (u d)) (h0 : R r)
    (hs : ∀ d F2 H2 r' σ' (N : L2.St → Hp → Prop), d ∈ items → Same F F2 → Same F2 H2 → R r' → EnvD K F2 (u d r') σ' → (∀ F3 H3 r3 σ3, Ext [] F2 H2 F3 H3 → EnvD K F3 r3 σ3 → R r3 → N σ3 H3) → tb { DE with nx := N, ct := N, bk := tz DE } σ' H2)
    (hd : ∀ F' H' r' σ', Ext [] F H F' H' → EnvD K F' r' σ' → R r' → tz DE σ' H') : tSeq (tFor wi g tb) tz DE σ H :=
  s_forG [] (fun _ _ _ r' => R r') u S E hi hg (fun _ _ _ => h0) (fun i d F1 H1 F2 H2 r' σ' N h1 x p x2 E2 n => hs d F2 H2 r' σ' N (List.mem_of_getElem? h1) (x.f.trans x2.f) x2.s p E2 n) fun F' H' r' σ' x E' p => hd F' H' r' σ' x E' p
theorem s_look {tb : TS} {items : List D} {wi : TI} {g : TG} (u : D → List Sl → List Sl) (R : List Sl → Prop) (S : Same F H) (E : EnvD K F r σ) (hi : EvI K wi σ F items) (hg : ∀ d, d ∈ items → TgD K g d (u d)) (h0 : R r)
    (hs : ∀ d F2 H2 r' σ' (N : L2.St → Hp → Prop), d ∈ items → Same F F2 → Same F2 H2 → R r' → EnvD K F2 (u d r') σ' → (∀ F3 H3 r3 σ3, Ext [] F2 H2 F3 H3 → EnvD K F3 r3 σ3 → R r3 → N σ3 H3) → tb { DE with nx := N, ct := N, bk := DE.nx } σ' H2)
    (hd : ∀ F' H' r' σ', Ext [] F H F' H' → EnvD K F' r' σ' → R r' → DE.nx σ' H') : tFor wi g tb DE σ H :=
  s_forG [] (fun _ _ _ r' => R r') u S E hi hg (fun _ _ _ => h0) (fun i d F1 H1 F2 H2 r' σ' N h1 x p x2 E2 n => hs d F2 H2 r' σ' N (List.mem_of_getElem? h1) (x.f.trans x2.f) x2.s p E2 n) fun F' H' r' σ' x E' p => hd F' H' r' σ' x E' p
/-- d.get(k, x) -/
theorem ev_get2 {es : List (Key × D)} {k : Key} {dk dx : D} (ha : EvD K ta σ F (.dic es)) (hk : EvD K tb σ F dk) (ek : dk = kD k) (hx : EvD K tc σ F dx) : EvD K (tDGet2 ta tb tc) σ F ((valD es k).getD dx) := fun H s Q q =>
  ha H s _ fun v F1 H1 x1 d1 => by
    subst ek
    cases d1 with
    | dic a l =>
      refine ⟨_, rfl, .inl ⟨_, .inr ⟨_, x1.s _ _ a⟩⟩, (hk.up x1.f) H1 x1.s _ fun y F2 H2 x2 d2 => (hx.up (x1.f.trans x2.f)) H2 x2.s _ fun z F3 H3 x3 d3 => ?_⟩
      have ey := den_key d2
      subst ey
      refine ⟨_, .inl ⟨_, k, .inr ⟨_, x3.s _ _ ((x2.f.trans x3.f) _ _ a)⟩, rfl, rfl⟩, ?_⟩
      rcases (DenK.mono (x2.f.trans x3.f) es l).val k with ⟨v, d', h1, h2, h3⟩ | ⟨h1, h2⟩
      · rw [h1]; rw [h2] at q; exact q _ F3 H3 ((x1.tr x2).tr x3) h3
      · rw [h1]; rw [h2] at q; exact q _ F3 H3 ((x1.tr x2).tr x3) d3
/-- [f(x, y) for x in xs for y in ys if p(x, y)] -/
theorem ev_lc2 {items : List D} {ys : D → List D} {f : D → D → D} {p : D → D → Bool} {j j1 : Nat} {vs vs1 : List Nat} {tt1 : TT} {wi wi1 : TI} {N : Nat} (E : EnvD K F r σ) (hi : EvI K wi σ F items) (hn : items.length * N < sizeLine) (hN : ∀ d, d ∈ items → (ys d).length ≤ N)
    (hw : ∀ (σ' : L2.St) (x : Option V), wipe ((wipe σ' vs).set j x) vs = wipe σ' vs) (hw1 : ∀ (σ' : L2.St) (x : Option V), wipe ((wipe σ' vs1).set j1 x) vs1 = wipe σ' vs1)
    (hi1 : ∀ d F' σ', d ∈ items → Same F F' → EnvD K F' ((wipeR r vs).set j (.d d)) σ' → EvI K wi1 σ' F' (ys d))
    (ht : ∀ d e F' σ', d ∈ items → e ∈ ys d → Same F F' → EnvD K F' ((wipeR ((wipeR r vs).set j (.d d)) vs1).set j1 (.d e)) σ' → EvT K tt1 σ' F' (p d e))
    (he : ∀ d e F' σ', d ∈ items → e ∈ ys d → Same F F' → EnvD K F' ((wipeR ((wipeR r vs).set j (.d d)) vs1).set j1 (.d e)) σ' → p d e = true → EvD K te σ' F' (f d e)) :
    EvD K (tLc2 wi (gName j) tYes wi1 (gName j1) tt1 te vs vs1) σ F (.lst (items.flatMap fun d => ((ys d).filter (p d)).map (f d))) := fun H s Q q => hi H s _ fun J F1 H1 x1 W1 Dl hD => by
  obtain ⟨G, Y, w, hg, hy⟩ := W1
  let out : D → List D := fun d => ((ys d).filter (p d)).map (f d)
  have outN : ∀ d, d ∈ items → (out d).length ≤ N := fun d hd => by
    have := List.length_filter_le (p d) (ys d)
    have := hN d hd
    simp only [out, List.length_map]
    omega
  refine ⟨fun i m H' => m = items.length - i ∧ i ≤ items.length ∧ ∃ F' acc, Ext [] F1 H1 F' H' ∧ F' Dl = none ∧ H' Dl = some (.lst acc) ∧ DenL K F' acc ((items.take i).flatMap out) ∧ acc.length ≤ i * N, ⟨items.length, by simp, Nat.zero_le _, F1, [], Ext.newM x1.s hD, x1.s.free hD, upd_same, .nil, Nat.zero_le _⟩, ?_⟩
  rintro i m H' ⟨rfl, hle, F', acc, x, fD, eD, l, hac⟩
  have hG := hg H' (x.f.trans x.s)
  by_cases hlt : i < items.length
  · refine .inr ⟨w.goes i H' hlt hG, fun H' => i + 1 ≤ items.length ∧ ∃ F' acc, Ext [] F1 H1 F' H' ∧ F' Dl = none ∧ H' Dl = some (.lst acc) ∧ DenL K F' acc ((items.take (i + 1)).flatMap out) ∧ acc.length ≤ (i + 1) * N, fun H2 q => ⟨items.length - (i + 1), by omega, rfl, q⟩, fun v H'' y => ?_⟩
    obtain ⟨d, F2, h1, h2, h3⟩ := hy i H' v H'' hlt (x.f.trans x.s) (w.yields i H' v H'' hlt hG y)
    have hd : d ∈ items := List.mem_of_getElem? h1
    have x2 := Ext.uni x.f x.s h2
    have h3' : Den K (uni F' F2) v d := h3.up (uni_r (x.s.trans h2.same) h2.s)
    have fD2 : uni F' F2 Dl = none := x2.n Dl fD (by rw [eD]; simp)
    have eD2 : H'' Dl = some (.lst acc) := x2.same _ _ eD
    have E2 : EnvD K (uni F' F2) ((wipeR r vs).set j (.d d)) ((wipe σ vs).set j (some v)) := EnvD.set j ((EnvD.wipe E vs).up ((x1.f.trans x.f).trans x2.f)) ⟨v, rfl, h3'⟩
    have sF : Same F (uni F' F2) := (x1.f.trans x.f).trans x2.f
    refine ⟨hw σ _, ?_⟩
    refine hi1 d _ _ hd sF E2 H'' x2.s _ fun J1 F3 H3 x3 W3 => ?_
    obtain ⟨G1, Y1, w1, hg1, hy1⟩ := W3
    have fD3 : F3 Dl = none := x3.n Dl fD2 (by rw [eD2]; simp)
    have eD3 : H3 Dl = some (.lst acc) := x3.same _ _ eD2
    refine ⟨fun k n H4 => n = (ys d).length - k ∧ k ≤ (ys d).length ∧ ∃ F4 acc4, Ext [] F1 H1 F4 H4 ∧ Same F3 F4 ∧ F4 Dl = none ∧ H4 Dl = some (.lst acc4) ∧ DenL K F4 acc4 ((items.take i).flatMap out ++ (((ys d).take k).filter (p d)).map (f d)), ⟨(ys d).length, by simp, Nat.zero_le _, F3, acc, (x.tr x2).tr x3, Same.refl _, fD3, eD3, by simpa using l.up (x2.f.trans x3.f)⟩, ?_⟩
    rintro k n H4 ⟨rfl, hk, F4, acc4, x4, s34, fD4, eD4, l4⟩
    have hG1 := hg1 H4 (s34.trans x4.s)
    have len4 : acc4.length ≤ i * N + k := by
      have h5 := l4.length
      have h6 := l.length
      rw [List.length_append, List.length_map, ← h6] at h5
      have h7 := List.length_filter_le (p d) ((ys d).take k)
      have h8 := List.length_take_le k (ys d)
      omega
    have big : (i + 1) * N ≤ items.length * N := Nat.mul_le_mul_right _ hlt
    have big' : (i + 1) * N = i * N + N := by rw [Nat.add_mul, Nat.one_mul]
    have hNd := hN d hd
    by_cases hkt : k < (ys d).length
    · refine .inr ⟨w1.goes k H4 hkt hG1, fun H' => k + 1 ≤ (ys d).length ∧ ∃ F4 acc4, Ext [] F1 H1 F4 H' ∧ Same F3 F4 ∧ F4 Dl = none ∧ H' Dl = some (.lst acc4) ∧ DenL K F4 acc4 ((items.take i).flatMap out ++ (((ys d).take (k + 1)).filter (p d)).map (f d)), fun H2 q => ⟨(ys d).length - (k + 1), by omega, rfl, q⟩, fun v1 H5 y1 => ?_⟩
      obtain ⟨e, F5, g1, g2, g3⟩ := hy1 k H4 v1 H5 hkt (s34.trans x4.s) (w1.yields k H4 v1 H5 hkt hG1 y1)
      have he' : e ∈ ys d := List.mem_of_getElem? g1
      have x5 := Ext.uni s34 x4.s g2
      have g3' : Den K (uni F4 F5) v1 e := g3.up (uni_r (x4.s.trans g2.same) g2.s)
      have fD5 : uni F4 F5 Dl = none := x5.n Dl fD4 (by rw [eD4]; simp)
      have eD5 : H5 Dl = some (.lst acc4) := x5.same _ _ eD4
      have E5 : EnvD K (uni F4 F5) ((wipeR ((wipeR r vs).set j (.d d)) vs1).set j1 (.d e)) ((wipe ((wipe σ vs).set j (some v)) vs1).set j1 (some v1)) := EnvD.set j1 ((EnvD.wipe E2 vs1).up ((x3.f.trans s34).trans x5.f)) ⟨v1, rfl, g3'⟩
      have sF5 : Same F (uni F4 F5) := sF.trans ((x3.f.trans s34).trans x5.f)
      refine ⟨hw1 _ _, ?_⟩
      refine ht d e _ _ hd he' sF5 E5 H5 x5.s _ fun F6 H6 x6 => ?_
      have fD6 : F6 Dl = none := x6.n Dl fD5 (by rw [eD5]; simp)
      have eD6 : H6 Dl = some (.lst acc4) := x6.same _ _ eD5
      cases hp : p d e with
      | true =>
        rw [if_pos rfl]
        refine ((he d e _ _ hd he' sF5 E5 hp).up x6.f) H6 x6.s _ fun z F7 H7 x7 d7 => ?_
        have fD7 : F7 Dl = none := x7.n Dl fD6 (by rw [eD6]; simp)
        have eD7 : H7 Dl = some (.lst acc4) := x7.same _ _ eD6
        refine ⟨acc4, eD7, by omega, hkt, F7, acc4 ++ [z], Ext.mutNew (((x4.tr x5).tr x6).tr x7) hD fD7, (s34.trans x5.f).trans (x6.f.trans x7.f), fD7, upd_same, ?_⟩
        rw [take_succ' g1, List.filter_append, List.map_append, List.filter_cons, if_pos hp, ← List.append_assoc]
        exact (l4.up ((x5.f.trans x6.f).trans x7.f)).append (.cons d7 .nil)
      | false =>
        rw [if_neg (by decide)]
        refine ⟨hkt, F6, acc4, (x4.tr x5).tr x6, (s34.trans x5.f).trans x6.f, fD6, eD6, ?_⟩
        rw [take_succ' g1, List.filter_append, List.map_append, List.filter_cons, if_neg (by rw [hp]; decide)]
        show DenL K F6 acc4 (_ ++ (_ ++ []))
        rw [List.append_nil]
        exact l4.up (x5.f.trans x6.f)
    · have ek : k = (ys d).length := by omega
      subst ek
      refine .inl ⟨w1.stops H4 hG1, hlt, F4, acc4, x4, fD4, eD4, ?_, by omega⟩
      rw [take_succ' h1, List.flatMap_append, List.flatMap_cons, List.flatMap_nil, List.append_nil]
      rw [List.take_length] at l4
      exact l4
  · have ei : i = items.length := by omega
    subst ei
    refine .inl ⟨w.stops H' hG, ?_⟩
    rw [List.take_length] at l
    exact q _ _ _ (x1.tr (Ext.freeze x hD eD fD)) (.lst upd_same (l.up (same_new fD)))
end
end Nm

set_option Elab.async false
set_option linter.all false
set_option maxRecDepth 100000
set_option maxHeartbeats 1000000
namespace Nm
open PySem PySem.Spec L2
/-! ### tables as data -/
def chs (l : List Nat) : List D := l.map fun c => .str ⟨#[c]⟩
def txt (l : List Nat) : D := .str ⟨l.toArray⟩
def foE (fo : Fo) : List (Key × D) := fo.map fun p => (.inr ⟨#[p.1]⟩, txt p.2)
def maE (ma : Ma) : List (Key × D) := ma.map fun p => (.inr ⟨#[p.1]⟩, .int (p.2 : Nat))
def foD (fo : Fo) : D := .dic (foE fo)
def maD (ma : Ma) : D := .dic (maE ma)
def ruleD (fo : Fo) (ma : Ma) : D := .tup [foD fo, maD ma]
def tabD (C : Addr) (fo : Fo) (ma : Ma) : D := .obj C [("rule", ruleD fo ma)]
theorem one_eq {a b : Nat} : ((.inr ⟨#[a]⟩ : Key) = .inr ⟨#[b]⟩) ↔ a = b := by
  constructor
  · intro h
    have h := Sum.inr.inj h
    have h := congrArg Str.cps h
    have h : (#[a] : Array Nat) = #[b] := h
    have h := congrArg Array.toList h
    simpa using h
  · intro h; rw [h]
theorem valD_map {α : Type} (g : α → D) (c : Nat) : ∀ m : List (Nat × α), valD (m.map fun p => ((.inr ⟨#[p.1]⟩ : Key), g p.2)) (.inr ⟨#[c]⟩) = (lk m c).map g
  | [] => rfl
  | (a, w) :: m => by
    have ih := valD_map g c m
    unfold valD lk at ih ⊢
    by_cases e : a = c
    · subst e; simp
    · have e' : ((.inr ⟨#[a]⟩ : Key) = .inr ⟨#[c]⟩) = False := eq_false fun h => e (one_eq.mp h)
      simp only [List.map_cons, List.find?_cons, e', decide_false, e]
      exact ih
theorem valD_fo {fo : Fo} {c : Nat} : valD (foE fo) (.inr ⟨#[c]⟩) = (lk fo c).map txt := valD_map txt c fo
theorem valD_ma {ma : Ma} {c : Nat} : valD (maE ma) (.inr ⟨#[c]⟩) = (lk ma c).map fun n => .int (n : Nat) := valD_map (fun n => .int (n : Nat)) c ma
theorem isSome_fo {fo : Fo} {c : Nat} : (valD (foE fo) (.inr ⟨#[c]⟩)).isSome = (lk fo c).isSome := by rw [valD_fo]; cases lk fo c <;> rfl
theorem isSome_ma {ma : Ma} {c : Nat} : (valD (maE ma) (.inr ⟨#[c]⟩)).isSome = (lk ma c).isSome := by rw [valD_ma]; cases lk ma c <;> rfl
/-! ### promises by a relation -/
def spR (K : PySem.W.Frag) (n : Nat) (R : List D → D → Prop) : Sp := fun vs H Q _ => ∃ F ds d, Same F H ∧ DenL K F vs ds ∧ R ds d ∧ ds.length = n ∧ ∀ v F' H', Ext [] F H F' H' → Den K F' v d → Q v H'
section
variable {K : PySem.W.Frag} {vs : List V} {H F : Hp} {Q : VK} {E : XK} {R : List D → D → Prop} {n : Nat} {σ : L2.St} {ds : List D} {d : D}
theorem spR_len (h : spR K n R vs H Q E) : vs.length = n := by
  obtain ⟨F, ds, d, _, l, _, e, _⟩ := h
  rw [l.length, e]
theorem spR1 (h : spR K 1 R vs H Q E) : ∃ F v x d, vs = [v] ∧ Same F H ∧ Den K F v x ∧ R [x] d ∧ ∀ v F' H', Ext [] F H F' H' → Den K F' v d → Q v H' := by
  obtain ⟨F, ds, d, S, l, hf, hn, k⟩ := h
  match ds, l, hn with
  | [x], .cons hv .nil, _ => exact ⟨F, _, x, d, rfl, S, hv, hf, k⟩
theorem spR2 (h : spR K 2 R vs H Q E) : ∃ F v w x y d, vs = [v, w] ∧ Same F H ∧ Den K F v x ∧ Den K F w y ∧ R [x, y] d ∧ ∀ v F' H', Ext [] F H F' H' → Den K F' v d → Q v H' := by
  obtain ⟨F, ds, d, S, l, hf, hn, k⟩ := h
  match ds, l, hn with
  | [x, y], .cons hv (.cons hw .nil), _ => exact ⟨F, _, _, x, y, d, rfl, S, hv, hw, hf, k⟩
theorem spR3 (h : spR K 3 R vs H Q E) : ∃ F v w u x y z d, vs = [v, w, u] ∧ Same F H ∧ Den K F v x ∧ Den K F w y ∧ Den K F u z ∧ R [x, y, z] d ∧ ∀ v F' H', Ext [] F H F' H' → Den K F' v d → Q v H' := by
  obtain ⟨F, ds, d, S, l, hf, hn, k⟩ := h
  match ds, l, hn with
  | [x, y, z], .cons hv (.cons hw (.cons hu .nil)), _ => exact ⟨F, _, _, _, x, y, z, d, rfl, S, hv, hw, hu, hf, k⟩
theorem ev_callR {ta : TA} (ha : EvA K ta σ F ds) (hf : R ds d) (hn : ds.length = n) : EvD K (tCall (spR K n R) [] E ta) σ F d := fun H s Q q =>
  ha H s _ fun vs F1 H1 x1 l1 => ⟨F1, ds, d, x1.s, by rw [List.append_nil]; exact l1, hf, hn, fun v F2 H2 x2 d2 => q v F2 H2 (x1.tr x2) d2⟩
theorem ev_callQR {te : TE} {tr : TA} {C : Addr} {gs : List (Str × D)} (hf : EvD K te σ F (.obj C gs)) (ha : EvA K tr σ F ds) (he : R (.obj C gs :: ds) d) (hn : (D.obj C gs :: ds).length = n) :
    EvD K (tCallQ C (spR K n R) E te tr) σ F d := fun H s Q q =>
  hf H s _ fun v F1 H1 x1 d1 => by
    have d1' := d1
    cases d1 with
    | obj a l =>
      refine ⟨_, rfl, (ha.up x1.f) H1 x1.s _ fun vs F2 H2 x2 l2 => ⟨⟨_, _, x2.s _ _ (x2.f _ _ a)⟩, F2, _, d, x2.s, .cons (d1'.up x2.f) l2, he, hn, fun w F3 H3 x3 d3 => q w F3 H3 ((x1.tr x2).tr x3) d3⟩⟩
/-- a drop -/
theorem q_drop {te : TE} {tz : TS} {DE : Ends} (S : Same F H) (h : EvD K te σ F d) (k : ∀ F' H', Ext [] F H F' H' → tz DE σ H') : tSeq (tDrop te) tz DE σ H := h H S _ fun _ F' H' x _ => k F' H' x
/-- x in (1, 2, 3) -/
theorem rv_in_ints {i : Int} {ns : List Int} : RvD K (rInA K) (.int i) (.tup (ns.map D.int)) (.bl (ns.any (· == i))) := fun F H x y s hx hy Q q => by
  cases hx
  cases hy with
  | tup r l =>
    rw [denL_ints l] at r
    refine .inr (.inl ⟨_, _, rfl, .inr (same_t s r), rfl, ?_, ?_⟩)
    · rw [List.all_map]; exact List.all_eq_true.mpr fun _ _ => rfl
    · have e : inV (.int i) (ns.map V.int) = ns.any (· == i) := by unfold inV; rw [List.any_map]; rfl
      show Q (.bl (inV (.int i) (ns.map V.int))) H
      rw [e]
      exact q _ F H (Ext.refl s) (.bl _)
/-- __init__ by a relation -/
def spIR (K : PySem.W.Frag) (C : Addr) (n : Nat) (R : List D → List (Str × D) → Prop) : Sp := fun vs H Q _ => ∃ F x dx ws ds gs, vs = .ref x :: ws ∧ Same F H ∧ H x = some (.ins C dx []) ∧ F x = none ∧ DenL K F ws ds ∧ ds.length = n ∧ R ds gs ∧
  ∀ fs F' H', Ext [x] F H F' H' → F' x = none → H' x = some (.ins C dx fs) → DenF K F' fs gs → Q .non H'
theorem spIR_len {C : Addr} {R : List D → List (Str × D) → Prop} (h : spIR K C n R vs H Q E) : vs.length = n + 1 := by
  obtain ⟨F, x, dx, ws, ds, gs, rfl, _, _, _, l, e, _⟩ := h
  rw [List.length_cons, l.length, e]
theorem ev_makeR {C : Addr} {tr : TA} {R : List D → List (Str × D) → Prop} {gs : List (Str × D)} (ha : EvA K tr σ F ds) (hf : R ds gs) (hn : ds.length = n) : EvD K (tMake C (spIR K C n R) [] E tr) σ F (.obj C gs) := fun H s Q q =>
  ha H s _ fun vs F1 H1 x1 l1 x dx hx hdx ne => by
    have y1 : Ext [] F1 H1 F1 (upd H1 dx (.own x)) := Ext.newM x1.s hdx
    have hx' : upd H1 dx (.own x) x = none := by rw [upd_ne (Ne.symm ne)]; exact hx
    have y2 : Ext [] F1 (upd H1 dx (.own x)) F1 (upd (upd H1 dx (.own x)) x (.ins C dx [])) := Ext.newM y1.s hx'
    refine ⟨F1, x, dx, vs, ds, gs, by simp, y2.s, upd_same, x1.s.free hx, l1, hn, hf, fun fs F2 H2 x2 fx hx2 l2 => ⟨rfl, ?_⟩⟩
    have z : Ext [] F1 H1 F2 H2 := Ext.forget (y1.tr y2) x2 hx
    have z2 := Ext.freeze z hx hx2 fx
    exact q _ _ _ (x1.tr z2) (.obj upd_same (DenF.mono (same_new fx) gs l2))
theorem ev_tupC {a : Addr} {xs : List V} {ds : List D} (h : ∀ H, SqT K H a xs) (l : DenL K F xs ds) : EvD K (tC (.ref a)) σ F (.tup ds) := ev_c (.tup (h F) l)
variable {ta tb : TE}
theorem txt_len (w : List Nat) : (⟨w.toArray⟩ : Str).length = w.length := by simp [Str.length]
theorem wipe2 {i j : Nat} (h : i ≠ j) (σ' : L2.St) (x : Option V) : wipe ((wipe σ' [i, j]).set i x) [i, j] = wipe σ' [i, j] := by
  show ((((σ'.set j none).set i none).set i x).set j none).set i none = (σ'.set j none).set i none
  rw [List.set_set, List.set_comm none x (Ne.symm h), List.set_set, List.set_comm none none (Ne.symm h), List.set_set, List.set_comm none none h]
theorem lk_self {α : Type} : ∀ {m : List (Nat × α)} {p : Nat × α}, (m.map (·.1)).Nodup → p ∈ m → lk m p.1 = some p.2
  | (a, w) :: m, p, nd, h => by
    rw [List.map_cons, List.nodup_cons] at nd
    unfold lk
    rcases List.mem_cons.mp h with rfl | h
    · simp
    · have ne : a ≠ p.1 := fun e => nd.1 (by rw [e]; exact List.mem_map.mpr ⟨p, h, rfl⟩)
      rw [List.find?_cons]
      simp only [ne, decide_false]
      exact lk_self nd.2 h
theorem chs_str (l : List Nat) : chs l = (l.map fun c => (⟨#[c]⟩ : Str)).map D.str := by unfold chs; rw [List.map_map]; rfl
theorem chs_app (a b : List Nat) : chs (a ++ b) = chs a ++ chs b := by unfold chs; rw [List.map_append]
theorem chs_len (l : List Nat) : (chs l).length = l.length := by unfold chs; rw [List.length_map]
theorem join_flat (ws : List (List Nat)) : Txt.join Str.empty (ws.map fun w => (⟨w.toArray⟩ : Str)) = ⟨ws.flatten.toArray⟩ := by
  apply str_ext
  rw [join_toList, List.map_map]
  have : (fun y : Str => y.cps.toList) ∘ (fun w : List Nat => (⟨w.toArray⟩ : Str)) = id := by funext w; rfl
  rw [this, List.map_id]
theorem sum_len (ws : List (List Nat)) : ((ws.map fun w => (⟨w.toArray⟩ : Str)).map (·.length)).sum = ws.flatten.length := by
  rw [List.length_flatten, List.map_map]
  congr 1
theorem one_flat (l : List Nat) : (l.map fun c => [c]).flatten = l := by
  induction l with
  | nil => rfl
  | cons c l ih => rw [List.map_cons, List.flatten_cons, ih]; rfl
/-- "".join(words) -/
theorem ev_joinW {ws : List (List Nat)} {ds : List D} (h1 : EvD K ta σ F (.str Str.empty)) (h2 : EvD K tb σ F (.lst ds)) (e : ds = ws.map txt) (hz : ws.flatten.length ≤ 16777216) : EvD K (tM1 (rJoin K) ta tb) σ F (txt ws.flatten) := by
  subst e
  have e2 : ws.map txt = (ws.map fun w => (⟨w.toArray⟩ : Str)).map D.str := by rw [List.map_map]; rfl
  rw [e2] at h2
  have h := ev_join h1 h2 (by rw [sum_len]; show _ + _ * 0 ≤ _; omega)
  rw [join_flat] at h
  exact h
theorem ev_joinC {l : List Nat} {ds : List D} (h1 : EvD K ta σ F (.str Str.empty)) (h2 : EvD K tb σ F (.lst ds)) (e : ds = chs l) (hz : l.length ≤ 16777216) : EvD K (tM1 (rJoin K) ta tb) σ F (txt l) := by
  have h := ev_joinW (ws := l.map fun c => [c]) h1 h2 (by rw [e, List.map_map]; rfl) (by rw [one_flat]; exact hz)
  rw [one_flat] at h
  exact h
end
end Nm

set_option Elab.async false
set_option linter.all false
set_option maxRecDepth 100000
set_option maxHeartbeats 1000000
namespace Nm
open PySem PySem.Spec L2
section
variable {K : PySem.W.Frag} {F H : Hp} {σ : L2.St} {ta tb tm tv te : TE} {d : D} {r : List Sl} {DE : Ends} {b p : Addr} {n c i j : Nat} {R : D → Prop} {E : XK}
theorem Ext.drop {M M' : List Addr} {F1 H1 F2 H2 : Hp} (x : Ext [] F H F1 H1) (y : Ext M F1 H1 F2 H2) (h : ∀ a ∈ M, a ∈ M' ∨ H a = none) : Ext M' F H F2 H2 :=
  ⟨x.f.trans y.f, fun a o m e => y.h a o (fun z => (h a z).elim m (fun q => by rw [q] at e; cases e)) (x.same a o e), y.s, fun a f k => y.n a (x.n a f k) (x.k a k), fun a k => y.k a (x.k a k)⟩
theorem BagAt.set {o u : HO} (w : BagAt F H b n) (ne : b ≠ p) : BagAt F (upd H p u) b n := by
  obtain ⟨x, y, z, o, h⟩ := w
  exact ⟨x, y, z, ⟨o.f, by rw [upd_ne ne]; exact o.h⟩, h⟩
theorem BagAt.ext {M : List Addr} {F1 H1 : Hp} (w : BagAt F H b n) (x : Ext M F H F1 H1) (h : b ∉ M) : BagAt F1 H1 b n := by
  obtain ⟨p, q, r, o, k⟩ := w
  exact ⟨p, q, r, o.ext x h, k⟩
theorem Own.put {o u : HO} {q : Addr} (w : Own F H q o) (ne : q ≠ p) : Own F (upd H p u) q o := ⟨w.f, by rw [upd_ne ne]; exact w.h⟩
/-- an if whose test draws -/
theorem s_ifB {tu tw : TS} (S : Same F H) (w : BagAt F H b (n + c)) (h : EvB K b c te σ F (fun d => ∃ bb, d = .bl bb)) (h1 : ∀ F' H', Ext [b] F H F' H' → BagAt F' H' b n → tu DE σ H') (h2 : ∀ F' H', Ext [b] F H F' H' → BagAt F' H' b n → tw DE σ H') : tIfS (tTest te) tu tw DE σ H :=
  h H n S w _ fun v d F' H' x w' r dv => by
    obtain ⟨bb, rfl⟩ := r
    cases dv
    refine ⟨bb, rfl, ?_⟩
    cases bb with
    | true => exact h1 F' H' x w'
    | false => exact h2 F' H' x w'
theorem q_ifB {tu tw tz : TS} (S : Same F H) (w : BagAt F H b (n + c)) (h : EvB K b c te σ F (fun d => ∃ bb, d = .bl bb)) (h1 : ∀ F' H', Ext [b] F H F' H' → BagAt F' H' b n → tu { DE with nx := tz DE } σ H') (h2 : ∀ F' H', Ext [b] F H F' H' → BagAt F' H' b n → tw { DE with nx := tz DE } σ H') : tSeq (tIfS (tTest te) tu tw) tz DE σ H := s_ifB (DE := { DE with nx := tz DE }) S w h h1 h2
/-- d[k] = drawn -/
theorem s_dputB {kvs : List (Key × V)} {x : Str} (S : Same F H) (EV : EnvD K F r σ) (w : BagAt F H b (n + c)) (h : EvB K b c tv σ F R) (hp : r[i]? = some (.v (.ref p))) (hy : r[j]? = some (.d (.str x))) (o : Own F H p (.dK kvs)) (hl : kvs.length < sizeLine) (ne : p ≠ b)
    (k : ∀ v d F' H', R d → Den K F' v d → Ext [b] F H F' H' → BagAt F' H' b n → Own F' H' p (.dK kvs) → DE.nx σ (upd H' p (.dK (putK kvs (.inr x) v)))) : sDPut (tVar i) (tVar j) tv DE σ H :=
  h H n S w _ fun v d F' H' x1 w' rd dv => by
    obtain ⟨o1, g1, g2⟩ := EV.get hp
    have g2 : o1 = some (.ref p) := g2
    subst g2
    obtain ⟨o2, g3, y, g4, g5⟩ := EV.get hy
    subst g4
    cases g5
    have o' : Own F' H' p (.dK kvs) := o.ext x1 (by simpa using ne)
    exact ⟨_, g1, _, g3, p, _, rfl, .inl ⟨kvs, .inr x, o'.h, rfl, hl, rfl⟩, k v d F' H' rd dv x1 w' o'⟩
theorem putK_new {κ : Type} [DecidableEq κ] {kvs : List (κ × V)} {k : κ} {v : V} (h : ∀ p ∈ kvs, p.1 ≠ k) : putK kvs k v = kvs ++ [(k, v)] := by
  unfold putK
  rw [if_neg]
  intro z
  obtain ⟨p, hp, e⟩ := List.any_eq_true.mp z
  exact h p hp (of_decide_eq_true e)
theorem ones' {P : Nat → Prop} : ∀ {es : List D}, (∀ e ∈ es, ∃ c, e = .str ⟨#[c]⟩ ∧ P c) → ∃ w, es = chs w ∧ ∀ c ∈ w, P c
  | [], _ => ⟨[], rfl, by simp⟩
  | e :: es, h => by
    obtain ⟨c, rfl, hc⟩ := h e (by simp)
    obtain ⟨w, rfl, hw⟩ := ones' (P := P) (es := es) fun e he => h e (List.mem_cons_of_mem _ he)
    exact ⟨c :: w, rfl, fun c' hc' => by
      rcases List.mem_cons.mp hc' with rfl | h
      · exact hc
      · exact hw c' h⟩
theorem sum_one : ∀ w : List Nat, ((w.map fun c => (⟨#[c]⟩ : Str)).map (·.length)).sum = w.length
  | [] => rfl
  | c :: w => by
    have := sum_one w
    simp only [List.map_cons, List.sum_cons, this, List.length_cons]
    show 1 + _ = _
    omega
theorem eb_joinC {P : List Nat → Prop} (h1 : EvD K ta σ F (.str Str.empty)) (h2 : EvB K b c tb σ F (fun d => ∃ w, d = .lst (chs w) ∧ P w ∧ w.length ≤ 1000000)) : EvB K b c (tM1 (rJoin K) ta tb) σ F (fun d => ∃ w, d = txt w ∧ P w) :=
  eb_join h1 h2 fun d ⟨w, e, hp, hz⟩ => by
    refine ⟨w.map fun c => ⟨#[c]⟩, by rw [e, chs_str], ?_, w, ?_, hp⟩
    · rw [sum_one]
      show _ + _ * 0 ≤ _
      omega
    · have := join_flat (w.map fun c => [c])
      rw [one_flat, List.map_map] at this
      exact congrArg D.str this
/-- "".join([text[take(..)] for k in ..]) -/
theorem eb_word {z : Str} {m lo N ci : Nat} {wi : TI} (EV : EnvD K F r σ) (hi : (wipeR r [j])[i]? = some (.v (.ref b))) (hij : i ≠ j) (hw : EvBI K b ci wi σ F (fun ds => lo ≤ ds.length ∧ ds.length ≤ N)) (hN : N < 1000000) (h1 : EvD K ta σ F (.str Str.empty))
    (ha : ∀ F' σ' d, Same F F' → EnvD K F' ((wipeR r [j]).set j (.d d)) σ' → EvD K tb σ' F' (.str z)) (hm : ∀ F' σ' d, Same F F' → EnvD K F' ((wipeR r [j]).set j (.d d)) σ' → EvD K tm σ' F' (.int (m : Nat))) (h0 : 0 < m) (hz : m = z.length) (hz2 : z.length ≤ 100000) :
    EvB K b (ci + N * 1) (tM1 (rJoin K) ta (tLc wi (gName j) tYes (tOp (rIxA K) tb (tCall (spTake K) [] E (tCons (tVar i) (tCons tm tNil)))) [j])) σ F (fun d => ∃ w, d = txt w ∧ lo ≤ w.length ∧ w.length ≤ N ∧ ∀ c ∈ w, c ∈ z.cps.toList) := by
  refine eb_joinC (P := fun w => lo ≤ w.length ∧ w.length ≤ N ∧ ∀ c ∈ w, c ∈ z.cps.toList) h1 (eb_lc (RE := fun _ e => ∃ c, e = .str ⟨#[c]⟩ ∧ c ∈ z.cps.toList) EV hw (fun ds h => h.2) (by rw [sizeLine_eq]; omega) (wipe1 j) (fun ds d F' σ' _ _ s E' => eb_pick_str E' ?_ (ha F' σ' d s E') (hm F' σ' d s E') h0 hz hz2) ?_)
  · rw [List.getElem?_set_ne (Ne.symm hij)]; exact hi
  · intro ds es hd hl hre
    obtain ⟨w, rfl, hw⟩ := ones' (P := fun c => c ∈ z.cps.toList) (es := es) fun e he => by
      obtain ⟨k, hk⟩ := List.mem_iff_getElem?.mp he
      have hlt : k < ds.length := by rw [← hl]; exact (List.getElem?_eq_some_iff.mp hk).1
      exact hre k _ e (List.getElem?_eq_getElem hlt) hk
    rw [chs_len] at hl
    exact ⟨w, rfl, ⟨by omega, by omega, hw⟩, by omega⟩
theorem q_pairAsg {x y : V} {g : TG} {tz : TS} (ha : At ta σ H x) (hb : At tb σ H y) (k : ∀ t, H t = none → g (.ref t) σ (upd H t (.tup [x, y])) (tz DE)) : tSeq (tAsg (tTup (tCons ta (tCons tb tNil))) g) tz DE σ H :=
  ha _ (hb _ ⟨sz2, k⟩)
theorem g_swap {to1 ti1 to2 ti2 : TE} {t p : Addr} {x y : V} {xs : List V} {i j : Nat} {Q : L2.St → Hp → Prop} (ht : H t = some (.tup [x, y])) (h1 : At to1 σ H (.ref p)) (h2 : At ti1 σ H (.int (i : Nat))) (hp : H p = some (.lst xs)) (hi : i < xs.length)
    (h3 : ∀ H, At to2 σ H (.ref p)) (h4 : ∀ H, At ti2 σ H (.int (j : Nat))) (hj : j < xs.length) (k : Q σ (upd H p (.lst ((xs.set i x).set j y)))) : gTup K 2 (gCons (gSub to1 ti1 rSetL) (gCons (gSub to2 ti2 rSetL) gNil)) (.ref t) σ H Q := by
  refine ⟨t, _, rfl, SqT.of ht, rfl, _, _, rfl, ?_⟩
  refine h1 _ (h2 _ ⟨p, xs, _, i, rfl, rfl, hp, Evl.ixN_nat hi, ?_⟩)
  refine ⟨_, _, rfl, ?_⟩
  refine h3 _ _ (h4 _ _ ⟨p, _, _, j, rfl, rfl, upd_same, Evl.ixN_nat (by rw [List.length_set]; exact hj), rfl, ?_⟩)
  rw [upd_upd]
  exact k
/-! ### drawn rules -/
def key7 : List Nat := [65, 49, 66, 50, 95, 90, 57]
def sig7 : List Nat := [97, 97, 98, 99, 39, 58, 94]
def mrk4 : List Nat := [39, 58, 94, 126]
structure Drawn (fo : Fo) (ma : Ma) : Prop where
  fk : (fo.map (·.1)).Sublist key7
  fw : ∀ p ∈ fo, 1 ≤ p.2.length ∧ p.2.length ≤ 3 ∧ ∀ c ∈ p.2, c ∈ sig7
  mq : (ma.map (·.1)).Sublist mrk4
  mc : ∀ p ∈ ma, p.2 = 1 ∨ p.2 = 2 ∨ p.2 = 3
def foV (fo : Fo) : List (Key × V) := fo.map fun p => (.inr ⟨#[p.1]⟩, .str ⟨p.2.toArray⟩)
def maV (ma : Ma) : List (Key × V) := ma.map fun p => (.inr ⟨#[p.1]⟩, .int (p.2 : Nat))
theorem den_foV : ∀ fo : Fo, DenK K F (foV fo) (foE fo)
  | [] => .nil
  | p :: fo => .cons (.str _) (den_foV fo)
theorem den_maV : ∀ ma : Ma, DenK K F (maV ma) (maE ma)
  | [] => .nil
  | p :: ma => .cons (.int _) (den_maV ma)
theorem sub_succ {xs key : List Nat} {i c : Nat} (h : xs.Sublist (key.take i)) (hc : key[i]? = some c) : (xs ++ [c]).Sublist (key.take (i + 1)) ∧ xs.Sublist (key.take (i + 1)) := by
  rw [take_succ' hc]
  exact ⟨h.append (List.Sublist.refl _), h.trans (List.sublist_append_left _ _)⟩
theorem sub_new {xs key : List Nat} {i c : Nat} (nd : key.Nodup) (h : xs.Sublist (key.take i)) (hc : key[i]? = some c) : c ∉ xs := fun hx => by
  have h1 : c ∈ key.take i := h.subset hx
  obtain ⟨k, hk⟩ := List.mem_iff_getElem?.mp h1
  have hk2 := (List.getElem?_eq_some_iff.mp hk).1
  rw [List.length_take] at hk2
  rw [List.getElem?_take_of_lt (by omega)] at hk
  have hi := (List.getElem?_eq_some_iff.mp hc).1
  have e1 := (List.getElem?_eq_some_iff.mp hc).2
  obtain ⟨hk3, e2⟩ := List.getElem?_eq_some_iff.mp hk
  exact (List.pairwise_iff_getElem.mp nd) k i hk3 hi (by omega) (e2.trans e1.symm)
theorem newKey {α : Type} (g : α → V) {m : List (Nat × α)} {c : Nat} (h : c ∉ m.map (·.1)) : ∀ p ∈ (m.map fun p => ((.inr ⟨#[p.1]⟩ : Key), g p.2)), p.1 ≠ .inr ⟨#[c]⟩ := fun p hp z => by
  obtain ⟨q, hq, rfl⟩ := List.mem_map.mp hp
  exact h (List.mem_map.mpr ⟨q, hq, one_eq.mp z⟩)
end
end Nm

set_option Elab.async false
set_option linter.all false
set_option maxRecDepth 100000
set_option maxHeartbeats 1000000
namespace Nm
open PySem PySem.Spec L2
/-! ### lists that are new and not shared: they may still be changed -/
def EvL (K : PySem.W.Frag) (te : TE) (σ : L2.St) (F : Hp) (ds : List D) : Prop := ∀ H, Same F H → ∀ Q : VK, (∀ p xs F' H', H p = none → Ext [] F H F' H' → Own F' H' p (.lst xs) → DenL K F' xs ds → Q (.ref p) H') → te σ H Q
section
variable {K : PySem.W.Frag} {F F' H : Hp} {σ : L2.St} {te ta tb : TE} {r : List Sl} {DE : Ends} {tz : TS} {d : D} {ds : List D} {p : Addr}
theorem EvL.toD (h : EvL K te σ F ds) : EvD K te σ F (.lst ds) := fun H s Q q => h H s Q fun p xs F' H' hp x o l => q _ _ _ (Ext.freeze x hp o.h o.f) (.lst upd_same (l.up (same_new o.f)))
theorem el_is {es : List D} (h : EvL K te σ F ds) (e : ds = es) : EvL K te σ F es := e ▸ h
theorem Ext.back {M : List Addr} {F1 H1 : Hp} (x : Ext M F H F1 H1) (h : H1 p = none) : H p = none := by
  cases e : H p with
  | none => rfl
  | some o => exact absurd h (x.k p (by rw [e]; simp))
theorem el_lst {tr : TA} (h : EvA K tr σ F ds) (hl : ds.length ≤ sizeLine) : EvL K (tLst tr) σ F ds := fun H s Q q =>
  h H s _ fun vs F1 H1 x1 d1 => ⟨by rw [d1.length]; exact hl, fun p hp => q p vs F1 _ (x1.back hp) (x1.tr (Ext.newM x1.s hp)) ⟨x1.s.free hp, upd_same⟩ d1⟩
theorem wipe_get (σ : L2.St) (i : Nat) : ∀ vs : List Nat, (wipe σ vs)[i]? = if i ∈ vs then (if i < σ.length then some none else none) else σ[i]?
  | [] => by simp [wipe]
  | v :: vs => by
    unfold wipe
    rw [List.getElem?_set, wipe_length, wipe_get σ i vs]
    by_cases e : v = i
    · subst e; simp
    · have e' : ¬ i = v := fun z => e z.symm
      simp [e, e']
theorem wipe_set {σ : L2.St} {j : Nat} {x : Option V} {vs : List Nat} (h : j ∈ vs) : wipe (σ.set j x) vs = wipe σ vs := by
  apply List.ext_getElem?
  intro i
  rw [wipe_get, wipe_get, List.length_set]
  by_cases e : i ∈ vs
  · simp [e]
  · have : j ≠ i := fun z => e (z ▸ h)
    simp [e, List.getElem?_set_ne this]
theorem wipe_wipe (σ : L2.St) (vs : List Nat) : wipe (wipe σ vs) vs = wipe σ vs := by
  apply List.ext_getElem?
  intro i
  rw [wipe_get, wipe_get, wipe_length]
  by_cases e : i ∈ vs <;> simp [e]
/-- a target within a comprehension -/
def TgW (K : PySem.W.Frag) (g : TG) (d : D) (u : List Sl → List Sl) (vs : List Nat) : Prop := ∀ F H r σ v (Q : L2.St → Hp → Prop), Same F H → EnvD K F r σ → Den K F v d → (∀ σ', EnvD K F (u r) σ' → wipe σ' vs = wipe σ vs → Q σ' H) → g v σ H Q
theorem tw_name {j : Nat} {vs : List Nat} (h : j ∈ vs) : TgW K (gName j) d (fun r => r.set j (.d d)) vs := fun F H r σ v Q S E h' k => k _ (EnvD.set j E ⟨v, rfl, h'⟩) (wipe_set h)
theorem tw_two {i j : Nat} {vs : List Nat} {e : D} (h1 : i ∈ vs) (h2 : j ∈ vs) : TgW K (gTup K 2 (gCons (gName i) (gCons (gName j) gNil))) (.tup [d, e]) (fun r => (r.set i (.d d)).set j (.d e)) vs := fun F H r σ v Q S E h k => by
  cases h with
  | tup a l =>
    cases l with
    | cons p t =>
      cases t with
      | cons q t =>
        cases t
        exact ⟨_, _, rfl, same_t S a, rfl, _, _, rfl, _, _, rfl, rfl, k _ (EnvD.set j (EnvD.set i E ⟨_, rfl, p⟩) ⟨_, rfl, q⟩) (by rw [wipe_set h2, wipe_set h1])⟩
/-- [f(x) for target in items if p(x)] -/
theorem el_lcG {items : List D} {f : D → D} {pp : D → Bool} {vs : List Nat} {tt : TT} {wi : TI} {g : TG} (u : D → List Sl → List Sl) (E : EnvD K F r σ) (hi : EvI K wi σ F items) (hn : items.length < sizeLine) (hg : ∀ d, d ∈ items → TgW K g d (u d) vs)
    (ht : ∀ d F' σ', d ∈ items → Same F F' → EnvD K F' (u d (wipeR r vs)) σ' → EvT K tt σ' F' (pp d))
    (he : ∀ d F' σ', d ∈ items → Same F F' → EnvD K F' (u d (wipeR r vs)) σ' → pp d = true → EvD K te σ' F' (f d)) :
    EvL K (tLc wi g tt te vs) σ F ((items.filter pp).map f) := fun H s Q q => hi H s _ fun J F1 H1 x1 W1 Dl hD => by
  obtain ⟨G, Y, w, hG, hy⟩ := W1
  refine lc_it w (fun i H' => ∃ F' acc, Ext [] F1 H1 F' H' ∧ F' Dl = none ∧ H' Dl = some (.lst acc) ∧ DenL K F' acc (((items.take i).filter pp).map f)) ?_ ?_ ?_ ?_
  · exact ⟨F1, [], Ext.newM x1.s hD, x1.s.free hD, upd_same, .nil⟩
  · rintro i H' _ ⟨F', acc, x, _⟩
    exact hG H' (x.f.trans x.s)
  · rintro i v H' H'' hlt ⟨F', acc, x, fD, eD, l⟩ y
    obtain ⟨d, F2, h1, h2, h3⟩ := hy i H' v H'' hlt (x.f.trans x.s) y
    have hd : d ∈ items := List.mem_of_getElem? h1
    have x2 := Ext.uni x.f x.s h2
    have h3' : Den K (uni F' F2) v d := h3.up (uni_r (x.s.trans h2.same) h2.s)
    have fD2 : uni F' F2 Dl = none := x2.n Dl fD (by rw [eD]; simp)
    have eD2 : H'' Dl = some (.lst acc) := x2.same _ _ eD
    have sF : Same F (uni F' F2) := (x1.f.trans x.f).trans x2.f
    refine hg d hd _ H'' _ _ v _ x2.s ((EnvD.wipe E vs).up sF) h3' fun σ2 E2 hw2 => ⟨by rw [hw2, wipe_wipe], ?_⟩
    refine ht d _ _ hd sF E2 H'' x2.s _ fun F3 H3 x3 => ?_
    have fD3 : F3 Dl = none := x3.n Dl fD2 (by rw [eD2]; simp)
    have eD3 : H3 Dl = some (.lst acc) := x3.same _ _ eD2
    cases hp : pp d with
    | true =>
      rw [if_pos rfl]
      refine ((he d _ _ hd sF E2 hp).up x3.f) H3 x3.s _ fun z F4 H4 x4 d4 => ?_
      have fD4 : F4 Dl = none := x4.n Dl fD3 (by rw [eD3]; simp)
      have eD4 : H4 Dl = some (.lst acc) := x4.same _ _ eD3
      refine ⟨acc, eD4, ?_, F4, acc ++ [z], Ext.mutNew (((x.tr x2).tr x3).tr x4) hD fD4, fD4, upd_same, ?_⟩
      · have := l.length
        rw [List.length_map] at this
        have h5 := List.length_filter_le pp (items.take i)
        have h6 := List.length_take_le i items
        omega
      · rw [take_succ' h1, List.filter_append, List.map_append, List.filter_cons, if_pos hp]
        exact (l.up ((x2.f.trans x3.f).trans x4.f)).append (.cons d4 .nil)
    | false =>
      rw [if_neg (by decide)]
      refine ⟨F3, acc, (x.tr x2).tr x3, fD3, eD3, ?_⟩
      rw [take_succ' h1, List.filter_append, List.map_append, List.filter_cons, if_neg (by rw [hp]; decide)]
      show DenL K F3 acc (_ ++ [])
      rw [List.append_nil]
      exact l.up (x2.f.trans x3.f)
  · rintro H' ⟨F', acc, x, fD, eD, l⟩
    rw [List.take_length] at l
    exact q Dl acc F' H' (x1.back hD) (x1.tr x) ⟨fD, eD⟩ l
theorem el_lcY {items : List D} {f : D → D} {vs : List Nat} {wi : TI} {g : TG} (u : D → List Sl → List Sl) (E : EnvD K F r σ) (hi : EvI K wi σ F items) (hn : items.length < sizeLine) (hg : ∀ d, d ∈ items → TgW K g d (u d) vs)
    (he : ∀ d F' σ', d ∈ items → Same F F' → EnvD K F' (u d (wipeR r vs)) σ' → EvD K te σ' F' (f d)) :
    EvL K (tLc wi g tYes te vs) σ F (items.map f) := by
  have h := el_lcG (pp := fun _ => true) u E hi hn hg (fun _ _ _ _ _ _ => et_yes) fun d F' σ' h1 h2 h3 _ => he d F' σ' h1 h2 h3
  rwa [List.filter_eq_self.mpr (fun _ _ => rfl)] at h
/-! ### a promise of a new list -/
def spFL (K : PySem.W.Frag) (n : Nat) (R : List D → List D → Prop) : Sp := fun vs H Q _ => ∃ F ds es, Same F H ∧ DenL K F vs ds ∧ R ds es ∧ ds.length = n ∧ ∀ p xs F' H', H p = none → Ext [] F H F' H' → Own F' H' p (.lst xs) → DenL K F' xs es → Q (.ref p) H'
theorem spFL_len {n : Nat} {R : List D → List D → Prop} {vs : List V} {Q : VK} {E : XK} (h : spFL K n R vs H Q E) : vs.length = n := by
  obtain ⟨F, ds, d, _, l, _, e, _⟩ := h
  rw [l.length, e]
theorem el_call {n : Nat} {R : List D → List D → Prop} {tr : TA} {E : XK} {es : List D} (ha : EvA K tr σ F ds) (hf : R ds es) (hn : ds.length = n) : EvL K (tCall (spFL K n R) [] E tr) σ F es := fun H s Q q =>
  ha H s _ fun vs F1 H1 x1 l1 => ⟨F1, ds, es, x1.s, by rw [List.append_nil]; exact l1, hf, hn, fun p xs F2 H2 hp x2 o l => q p xs F2 H2 (x1.back hp) (x1.tr x2) o l⟩
theorem s_retL (S : Same F H) (h : EvL K te σ F ds) (k : ∀ p xs F' H', H p = none → Ext [] F H F' H' → Own F' H' p (.lst xs) → DenL K F' xs ds → DE.rt (.ref p) H') : tRet te DE σ H := h H S _ k
/-- x = a new list, kept as one's own -/
theorem q_asgL {j : Nat} (S : Same F H) (E : EnvD K F r σ) (h : EvL K te σ F ds) (k : ∀ p xs F' H' σ', H p = none → Ext [] F H F' H' → Own F' H' p (.lst xs) → DenL K F' xs ds → EnvD K F' (r.set j (.v (.ref p))) σ' → tz DE σ' H') : tSeq (tAsg te (gName j)) tz DE σ H :=
  h H S _ fun p xs F' H' hp x o l => k p xs F' H' _ hp x o l (EnvD.set (s := .v (.ref p)) j (E.up x.f) rfl)
/-! ### lending -/
theorem lend {o : HO} (w : Own F H p o) (S : Same F H) : Same (upd F p o) H := fun a u h => by
  by_cases z : a = p
  · subst z; rw [upd_same] at h; rw [← h]; exact w.h
  · rw [upd_ne z] at h; exact S a u h
def del (F : Hp) (p : Addr) : Hp := fun a => if a = p then none else F a
theorem del_ne {a : Addr} (h : a ≠ p) : del F p a = F a := if_neg h
theorem Ext.thaw {o : HO} {F1 H1 : Hp} (w : Own F H p o) (S : Same F H) (x : Ext [] (upd F p o) H F1 H1) : Ext [] F H (del F1 p) H1 ∧ Own (del F1 p) H1 p o := by
  refine ⟨⟨fun a u h => ?_, x.h, fun a u h => ?_, fun a h k => ?_, x.k⟩, if_pos rfl, ?_⟩
  · have z : a ≠ p := fun z => by rw [z, w.f] at h; cases h
    rw [del_ne z]
    exact x.f a u (by rw [upd_ne z]; exact h)
  · by_cases z : a = p
    · subst z; unfold del at h; rw [if_pos rfl] at h; cases h
    · rw [del_ne z] at h; exact x.s a u h
  · by_cases z : a = p
    · subst z; exact if_pos rfl
    · rw [del_ne z]; exact x.n a (by rw [upd_ne z]; exact h) k
  · exact x.s _ _ (x.f _ _ upd_same)
/-- the slot seen as data -/
theorem EnvD.see : ∀ {r : List Sl} {σ : L2.St} {i : Nat} {v : V} {d : D}, EnvD K F r σ → σ[i]? = some (some v) → Den K F v d → EnvD K F (r.set i (.d d)) σ
  | _, _, _, _, _, .nil, _, _ => .nil
  | _, _, 0, _, _, .cons _ t, h, e => by
    simp at h
    subst h
    exact .cons ⟨_, rfl, e⟩ t
  | _, _, i + 1, _, _, .cons q t, h, e => .cons q (EnvD.see t (by simpa using h) e)
theorem EnvD.seeV {i : Nat} (E : EnvD K F r σ) (h : r[i]? = some (.v (.ref p))) (e : Den K F (.ref p) d) : EnvD K F (r.set i (.d d)) σ := by
  obtain ⟨o, h1, h2⟩ := E.get h
  have h2 : o = some (.ref p) := h2
  subst h2
  exact E.see h1 e
/-- a test that looks into a list of one's own -/
theorem et_lend {i : Nat} {xs : List V} {tt : TT} {b : Bool} (S : Same F H) (E : EnvD K F r σ) (hi : r[i]? = some (.v (.ref p))) (w : Own F H p (.lst xs)) (l : DenL K F xs ds) (h : ∀ F', Same F F' → EnvD K F' (r.set i (.d (.lst ds))) σ → EvT K tt σ F' b)
    {Q : Bool → Hp → Prop} (k : ∀ F' H', Ext [] F H F' H' → Own F' H' p (.lst xs) → Q b H') : tt σ H Q := by
  have g : Same F (upd F p (.lst xs)) := same_new w.f
  refine h _ g ((E.up g).seeV hi (.lst upd_same (l.up g))) H (lend w S) Q fun F1 H1 x => ?_
  obtain ⟨h1, h2⟩ := Ext.thaw w S x
  exact k _ _ h1 h2
/-- frozen for good -/
theorem Own.freeze {o : HO} (w : Own F H p o) (S : Same F H) : Same (upd F p o) H ∧ Same F (upd F p o) := ⟨lend w S, same_new w.f⟩
/-- l.append(x) -/
theorem s_app {i : Nat} {xs : List V} (S : Same F H) (E : EnvD K F r σ) (hp : r[i]? = some (.v (.ref p))) (w : Own F H p (.lst xs)) (h : EvD K te σ F d) (hz : xs.length < 100000)
    (k : ∀ v F' H', Ext [] F H F' H' → Own F' H' p (.lst xs) → Den K F' v d → DE.nx σ (upd H' p (.lst (xs ++ [v])))) : tDrop (tBM K "list" rAppend (tVar i) (tCons te tNil)) DE σ H := by
  obtain ⟨o, h1, h2⟩ := E.get hp
  have h2 : o = some (.ref p) := h2
  subst h2
  refine ⟨_, h1, .inl ⟨rfl, xs, SqL.of w.h⟩, h H S _ fun v F' H' x dv => ?_⟩
  have w' := w.ext0 x
  exact ⟨p, xs, v, rfl, rfl, w'.h, Nat.lt_of_lt_of_le hz (by rw [sizeLine_eq]; decide), k v F' H' x w' dv⟩
theorem q_app {i : Nat} {xs : List V} (S : Same F H) (E : EnvD K F r σ) (hp : r[i]? = some (.v (.ref p))) (w : Own F H p (.lst xs)) (h : EvD K te σ F d) (hz : xs.length < 100000)
    (k : ∀ v F' H', Ext [] F H F' H' → Own F' H' p (.lst xs) → Den K F' v d → tz DE σ (upd H' p (.lst (xs ++ [v])))) : tSeq (tDrop (tBM K "list" rAppend (tVar i) (tCons te tNil))) tz DE σ H := s_app (DE := { DE with nx := tz DE }) S E hp w h hz k
end
end Nm

set_option Elab.async false
set_option linter.all false
set_option maxRecDepth 100000
set_option maxHeartbeats 1000000
namespace Nm
open PySem PySem.Spec L2
/-! ### sorted signs, pairs by which a table leads from word to word -/
def sortC (ks : List Nat) : List Nat := (sortS (ks.map fun c => (⟨#[c]⟩ : Str))).map fun s => s.cps.toList.headD 0
theorem sortC_map (ks : List Nat) : (sortC ks).map (fun c => (⟨#[c]⟩ : Str)) = sortS (ks.map fun c => (⟨#[c]⟩ : Str)) := by
  unfold sortC
  rw [List.map_map]
  conv => rhs; rw [← List.map_id (sortS _)]
  apply List.map_congr_left
  intro s hs
  obtain ⟨c, _, rfl⟩ := List.mem_map.mp ((sortS_perm _).subset hs)
  rfl
theorem sortC_mem {ks : List Nat} {c : Nat} (h : c ∈ sortC ks) : c ∈ ks := by
  unfold sortC at h
  obtain ⟨s, hs, rfl⟩ := List.mem_map.mp h
  obtain ⟨c, hc, rfl⟩ := List.mem_map.mp ((sortS_perm _).subset hs)
  exact hc
theorem sortC_len (ks : List Nat) : (sortC ks).length = ks.length := by
  unfold sortC
  rw [List.length_map, (sortS_perm _).length_eq, List.length_map]
def fks (fo : Fo) : List Nat := sortC (fo.map (·.1))
def mks (ma : Ma) : List Nat := sortC (ma.map (·.1))
def ltC (a b : Nat) : Bool := decide ([a] < [b])
def mm (ma : Ma) : List (Nat × Nat) := (mks ma).flatMap fun a => ((mks ma).filter fun b => ltC a b && !decide (lk ma a = lk ma b)).map fun b => (a, b)
def prF (fo : Fo) : List (List Nat × List Nat) := (fks fo).map fun c => ([c], foldS fo c)
def prM (ma : Ma) : List (List Nat × List Nat) := (mm ma).map fun p => ([p.1, p.2], [p.2, p.1])
def prs (fo : Fo) (ma : Ma) : List (List Nat × List Nat) := prF fo ++ prM ma
def pairD (p : List Nat × List Nat) : D := .tup [txt p.1, txt p.2]
def isOne (fo : Fo) (ma : Ma) (p : List Nat × List Nat) : Bool := decide (key fo ma p.1 = key fo ma p.2)
def fails (fo : Fo) (ma : Ma) (fo' : Fo) (ma' : Ma) : List (List Nat × List Nat) := (prs fo ma).filter fun p => !isOne fo' ma' p
theorem fks_len (fo : Fo) : (fks fo).length = fo.length := by unfold fks; rw [sortC_len, List.length_map]
theorem mks_len (ma : Ma) : (mks ma).length = ma.length := by unfold mks; rw [sortC_len, List.length_map]
theorem fks_mem {fo : Fo} {c : Nat} (h : c ∈ fks fo) : ∃ w, (c, w) ∈ fo := by
  obtain ⟨p, hp, rfl⟩ := List.mem_map.mp (sortC_mem h)
  exact ⟨p.2, hp⟩
theorem mks_mem {ma : Ma} {c : Nat} (h : c ∈ mks ma) : ∃ w, (c, w) ∈ ma := by
  obtain ⟨p, hp, rfl⟩ := List.mem_map.mp (sortC_mem h)
  exact ⟨p.2, hp⟩
theorem mm_mem {ma : Ma} {p : Nat × Nat} (h : p ∈ mm ma) : p.1 ∈ mks ma ∧ p.2 ∈ mks ma := by
  unfold mm at h
  obtain ⟨a, ha, h⟩ := List.mem_flatMap.mp h
  obtain ⟨b, hb, rfl⟩ := List.mem_map.mp h
  exact ⟨ha, (List.mem_filter.mp hb).1⟩
theorem flatMap_len {α β : Type} (f : α → List β) (n : Nat) : ∀ l : List α, (∀ a ∈ l, (f a).length ≤ n) → (l.flatMap f).length ≤ l.length * n
  | [], _ => by simp
  | a :: l, h => by
    have h1 := h a (by simp)
    have h2 := flatMap_len f n l fun b hb => h b (List.mem_cons_of_mem _ hb)
    rw [List.flatMap_cons, List.length_append, List.length_cons, Nat.add_mul, Nat.one_mul]
    omega
theorem mm_len (ma : Ma) : (mm ma).length ≤ ma.length * ma.length := by
  unfold mm
  have := flatMap_len (fun a => ((mks ma).filter fun b => ltC a b && !decide (lk ma a = lk ma b)).map fun b => (a, b)) ma.length (mks ma) fun a _ => by
    rw [List.length_map]
    have := List.length_filter_le (fun b => ltC a b && !decide (lk ma a = lk ma b)) (mks ma)
    rw [mks_len] at this
    exact this
  rw [mks_len] at this
  exact this
theorem prs_ok {sg : Nat → Bool} {fo : Fo} {ma : Ma} (ok : okTab sg fo ma) {p : List Nat × List Nat} (h : p ∈ prs fo ma) : (∀ c ∈ p.1, sg c = true) ∧ (∀ c ∈ p.2, sg c = true) ∧ 1 ≤ p.1.length ∧ p.1.length ≤ 2 ∧ 1 ≤ p.2.length ∧ p.2.length ≤ 3 := by
  unfold prs at h
  rcases List.mem_append.mp h with h | h
  · unfold prF at h
    obtain ⟨c, hc, rfl⟩ := List.mem_map.mp h
    obtain ⟨w, hw⟩ := fks_mem hc
    have hs := ok.fs _ hw
    have := foldS_ok ok hs
    refine ⟨fun d hd => by simp at hd; subst hd; exact hs, fun d hd => (this.2.2 d hd).1, by simp, by simp, this.1, this.2.1⟩
  · unfold prM at h
    obtain ⟨q, hq, rfl⟩ := List.mem_map.mp h
    obtain ⟨h1, h2⟩ := mm_mem hq
    obtain ⟨w1, g1⟩ := mks_mem h1
    obtain ⟨w2, g2⟩ := mks_mem h2
    have s1 := (ok.ms _ g1).1
    have s2 := (ok.ms _ g2).1
    refine ⟨fun d hd => ?_, fun d hd => ?_, by simp, by simp, by simp, by simp⟩
    · simp at hd; rcases hd with rfl | rfl <;> assumption
    · simp at hd; rcases hd with rfl | rfl <;> assumption
theorem dec_txt {a b : List Nat} : decide ((⟨a.toArray⟩ : Str) = ⟨b.toArray⟩) = decide (a = b) := by
  by_cases h : a = b
  · subst h; simp
  · have : ¬ ((⟨a.toArray⟩ : Str) = ⟨b.toArray⟩) := fun z => h (by
      have := congrArg (fun s : Str => s.cps.toList) z
      simpa using this)
    rw [decide_eq_false h, decide_eq_false this]
theorem str_two (a b : Nat) : (⟨#[a]⟩ : Str) ++ (⟨#[b]⟩ : Str) = ⟨#[a, b]⟩ := by
  apply str_ext
  show (#[a] ++ #[b]).toList = _
  simp
section
variable {K : PySem.W.Frag} {F H : Hp} {σ : L2.St} {te : TE}
theorem rv_lt_str {i j : Str} : RvD K (rLtA K) (.str i) (.str j) (.bl (decide (i.cps.toList < j.cps.toList))) := rv_cmp_str
theorem ev_sortedF {fo : Fo} (h : EvD K te σ F (foD fo)) (hl : fo.length < 64) : EvD K (tCB (rSortedA K) (tCons te tNil)) σ F (.lst (chs (fks fo))) := by
  refine ev_is (ev_cb (ea_cons h ea_nil) (rc_sorted_dic (es := foE fo) (ks := (fo.map (·.1)).map fun c => (⟨#[c]⟩ : Str)) ?_ (by rw [List.length_map, List.length_map]; exact hl))) ?_
  · unfold foE; rw [List.map_map, List.map_map, List.map_map]; rfl
  · rw [← sortC_map, ← chs_str]; rfl
theorem ev_sortedM {ma : Ma} (h : EvD K te σ F (maD ma)) (hl : ma.length < 64) : EvD K (tCB (rSortedA K) (tCons te tNil)) σ F (.lst (chs (mks ma))) := by
  refine ev_is (ev_cb (ea_cons h ea_nil) (rc_sorted_dic (es := maE ma) (ks := (ma.map (·.1)).map fun c => (⟨#[c]⟩ : Str)) ?_ (by rw [List.length_map, List.length_map]; exact hl))) ?_
  · unfold maE; rw [List.map_map, List.map_map, List.map_map]; rfl
  · rw [← sortC_map, ← chs_str]; rfl
def onPair (f : List Nat → List Nat → D) : D → D
  | .tup [.str s, .str t] => f s.cps.toList t.cps.toList
  | _ => .non
def onPairB (f : List Nat → List Nat → Bool) : D → Bool
  | .tup [.str s, .str t] => f s.cps.toList t.cps.toList
  | _ => false
end
end Nm

set_option Elab.async false
set_option linter.all false
set_option maxRecDepth 100000
set_option maxHeartbeats 1000000
namespace Nm
open PySem PySem.Spec L2
/-! ### how long repr is, what can be compared -/
theorem textFrom_le : ∀ (ts : List Str) (k : Nat) (acc : Str), (textFrom k acc ts).length ≤ acc.length + piled ts
  | [], k, acc => by simp [textFrom, piled]
  | t :: ts, k, acc => by
    unfold textFrom
    have ih := textFrom_le ts (k + 1) (acc ++ (if k > 0 then ", " else "" : String) ++ t)
    rw [strLen_append, strLen_append] at ih
    rw [piled_cons]
    have : (((if k > 0 then ", " else "") : String) : Str).length ≤ 2 := by
      split
      · exact Nat.le_refl 2
      · exact Nat.zero_le 2
    omega
theorem listText_le (ts : List Str) : (listText ts).length ≤ piled ts + 2 := by
  unfold listText
  rw [strLen_append]
  have := textFrom_le ts 0 "["
  have e1 : (("[" : String) : Str).length = 1 := rfl
  have e2 : (("]" : String) : Str).length = 1 := rfl
  omega
theorem tupleText_le (ts : List Str) : (tupleText ts).length ≤ piled ts + 4 := by
  unfold tupleText
  rw [strLen_append, strLen_append]
  have e1 : (("(" : String) : Str).length = 1 := rfl
  have e2 : (((if ts.length == 1 then ",)" else ")") : String) : Str).length ≤ 2 := by
    split
    · exact Nat.le_refl 2
    · exact Nat.le_succ 1
  have e3 : (Str.join ", " ts).length ≤ piled ts := by
    cases ts with
    | nil => exact Nat.le_refl 0
    | cons t r =>
      have := join_length_add (t :: r) (by simp)
      omega
  omega
mutual
/-- a bound for repr -/
def wt : D → Nat
  | .str z => 10 * z.length + 2
  | .lst ds => wtL ds + 4
  | .tup ds => wtL ds + 4
  | d => (toPy d).shown.length
def wtL : List D → Nat
  | [] => 0
  | d :: ds => (wt d + 2) + wtL ds
end
mutual
def dp : D → Nat
  | .lst ds => dpL ds + 1
  | .tup ds => dpL ds + 1
  | _ => 0
def dpL : List D → Nat
  | [] => 0
  | d :: ds => max (dp d) (dpL ds)
end
mutual
/-- texts, lists and tuples of them -/
def txtD : D → Bool
  | .non => true
  | .bl _ => true
  | .str z => PyData.strOk z
  | .lst ds => txtDL ds
  | .tup ds => txtDL ds
  | _ => false
def txtDL : List D → Bool
  | [] => true
  | d :: ds => txtD d && txtDL ds
end
mutual
theorem plain_of : ∀ d : D, txtD d = true → plain d = true
  | .non, _ => by unfold plain; rfl
  | .bl _, _ => by unfold plain; rfl
  | .str _, _ => by unfold plain; rfl
  | .int _, h => by unfold txtD at h; cases h
  | .dic _, h => by unfold txtD at h; cases h
  | .obj _ _, h => by unfold txtD at h; cases h
  | .ty _, h => by unfold txtD at h; cases h
  | .cls _, h => by unfold txtD at h; cases h
  | .lst ds, h => by unfold txtD at h; unfold plain; exact plain_ofL ds h
  | .tup ds, h => by unfold txtD at h; unfold plain; exact plain_ofL ds h
theorem plain_ofL : ∀ ds : List D, txtDL ds = true → plainL ds = true
  | [], _ => by unfold plainL; rfl
  | d :: ds, h => by
    unfold txtDL at h
    rw [Bool.and_eq_true] at h
    unfold plainL
    rw [plain_of d h.1, plain_ofL ds h.2]; rfl
end
theorem okCodes {z : Str} (h : PyData.strOk z = true) : ∀ c ∈ z.cps.toList, c < 16 ^ 8 := fun c hc => by
  unfold PyData.strOk at h
  rw [← Array.all_toList, List.all_eq_true] at h
  have := of_decide_eq_true (h c hc)
  have e : (16 : Nat) ^ 8 = 4294967296 := by decide
  omega
mutual
theorem show_of : ∀ d : D, txtD d = true → (toPy d).showable = true ∧ (toPy d).canLay0 = true ∧ (toPy d).depth = dp d ∧ (toPy d).shown.length ≤ wt d
  | .non, _ => by unfold toPy; simp only [PyData.showable, PyData.canLay0, PyData.depth, dp]; exact ⟨trivial, trivial, trivial, by unfold wt toPy; exact Nat.le_refl _⟩
  | .bl _, _ => by unfold toPy; simp only [PyData.showable, PyData.canLay0, PyData.depth, dp]; exact ⟨trivial, trivial, trivial, by unfold wt toPy; exact Nat.le_refl _⟩
  | .str z, h => by
    unfold txtD at h
    unfold toPy
    simp only [PyData.showable, PyData.canLay0, PyData.depth, dp, PyData.shown, wt]
    exact ⟨trivial, h, trivial, PySem.StrLaws.reprText_len z (okCodes h)⟩
  | .int _, h => by unfold txtD at h; cases h
  | .dic _, h => by unfold txtD at h; cases h
  | .obj _ _, h => by unfold txtD at h; cases h
  | .ty _, h => by unfold txtD at h; cases h
  | .cls _, h => by unfold txtD at h; cases h
  | .lst ds, h => by
    unfold txtD at h
    obtain ⟨h1, h2, h3, h4⟩ := show_ofL ds h
    unfold toPy
    simp only [PyData.showable, PyData.canLay0, PyData.depth, dp, PyData.shown, wt, h3]
    refine ⟨h1, h2, trivial, ?_⟩
    have := listText_le (PyData.shownAll (toPyL ds))
    omega
  | .tup ds, h => by
    unfold txtD at h
    obtain ⟨h1, h2, h3, h4⟩ := show_ofL ds h
    unfold toPy
    simp only [PyData.showable, PyData.canLay0, PyData.depth, dp, PyData.shown, wt, h3]
    refine ⟨h1, h2, trivial, ?_⟩
    have := tupleText_le (PyData.shownAll (toPyL ds))
    omega
theorem show_ofL : ∀ ds : List D, txtDL ds = true → PyData.showableAll (toPyL ds) = true ∧ PyData.canLayAll0 (toPyL ds) = true ∧ PyData.depthAll (toPyL ds) = dpL ds ∧ piled (PyData.shownAll (toPyL ds)) ≤ wtL ds
  | [], _ => by unfold toPyL; simp only [PyData.showableAll, PyData.canLayAll0, PyData.depthAll, dpL, PyData.shownAll, piled_nil, wtL]; exact ⟨trivial, trivial, trivial, Nat.le_refl _⟩
  | d :: ds, h => by
    unfold txtDL at h
    rw [Bool.and_eq_true] at h
    obtain ⟨a1, a2, a3, a4⟩ := show_of d h.1
    obtain ⟨h1, h2, h3, h4⟩ := show_ofL ds h.2
    unfold toPyL
    simp only [PyData.showableAll, PyData.canLayAll0, PyData.depthAll, dpL, PyData.shownAll, piled_cons, wtL, a1, a2, a3, h1, h2, h3]
    exact ⟨rfl, rfl, trivial, by omega⟩
end
theorem okR_txt {d : D} (h : txtD d = true) (h1 : dp d ≤ 40) (h2 : wt d ≤ 16777216) : okR d = true := by
  obtain ⟨a1, a2, a3, a4⟩ := show_of d h
  unfold okR shownD
  rw [plain_of d h, a1, a3, decide_eq_true h1, decide_eq_true (by omega)]
  rfl
section
variable {K : PySem.W.Frag}
theorem shaped_of {d : D} (h : txtD d = true) (h1 : dp d ≤ 64) : SeqAt.shaped (toPy d) = true := by
  obtain ⟨a1, a2, a3, a4⟩ := show_of d h
  unfold SeqAt.shaped
  rw [a2, a3, decide_eq_true h1]; rfl
theorem rv_ne_self {d : D} (h : txtD d = true) (h1 : dp d ≤ 64) : RvD K (rNeA K) d d (.bl false) := fun F H x y s hx hy Q q => by
  refine .inr ⟨_, _, den_dp s d hx (plain_of d h), den_dp s d hy (plain_of d h), shaped_of h h1, shaped_of h h1, ?_⟩
  rw [SeqAt.eqv_refl _ (show_of d h).2.1]
  exact q _ F H (Ext.refl s) (.bl _)
theorem rv_eq_self {d : D} (h : txtD d = true) (h1 : dp d ≤ 64) : RvD K (rEqA K) d d (.bl true) := fun F H x y s hx hy Q q => by
  refine .inr ⟨_, _, den_dp s d hx (plain_of d h), den_dp s d hy (plain_of d h), shaped_of h h1, shaped_of h h1, ?_⟩
  rw [SeqAt.eqv_refl _ (show_of d h).2.1]
  exact q _ F H (Ext.refl s) (.bl _)
end
end Nm

set_option Elab.async false
set_option linter.all false
set_option maxRecDepth 100000
set_option maxHeartbeats 1000000
namespace Nm
open PySem PySem.Spec L2
section
variable {K : PySem.W.Frag} {F H : Hp} {σ : L2.St} {te ta tb : TE} {r : List Sl} {DE : Ends} {tz : TS} {d e : D} {b p : Addr} {R : List Sl → Prop}
/-- what the law's script is -/
def spLaw (K : PySem.W.Frag) : Sp := fun vs H Q _ => ∃ (a : Addr) (ns : List Int), vs = [.ref a] ∧ SqL K H a (ns.map V.int) ∧ ns.length ≤ 63 ∧ ∀ H', Q (.bl true) H'
theorem spLaw_len {vs : List V} {Q : VK} {E : XK} (h : spLaw K vs H Q E) : vs.length = 1 := by
  obtain ⟨a, ns, rfl, _⟩ := h
  rfl
/-- for at in range(max(lo, min(hi, len(script)))): bag = _law_bag(script, at); .. -/
theorem q_cells {body : TS} {a : Addr} {ns : List Int} {j t : Nat} {lo hi : Int} {E : XK} (S : Same F H) (EV : EnvD K F r σ) (sq : SqL K F a (ns.map V.int)) (hlen : ns.length ≤ 63) (hlo : 0 ≤ lo ∧ lo ≤ 100) (hhi : 0 ≤ hi ∧ hi ≤ 100) (h0 : ∀ r, R r → r[0]? = some (.v (.ref a))) (hlj : ∀ r, R r → j < r.length) (hj : j ≠ 0) (hr : R r)
    (hb : ∀ (m : Nat) F2 H2 b r' σ' (N : L2.St → Hp → Prop), Same F F2 → Same F2 H2 → R r' → BagAt F2 H2 b 1000000000 → EnvD K F2 ((r'.set j (.d (.int (m : Nat)))).set t (.v (.ref b))) σ' → (∀ F3 H3 r3 σ3, Ext [b] F2 H2 F3 H3 → EnvD K F3 r3 σ3 → R r3 → N σ3 H3) → body { DE with nx := N, ct := N, bk := tz DE } σ' H2)
    (hd : ∀ F' H' r' σ', Same F F' → Same F' H' → EnvD K F' r' σ' → R r' → tz DE σ' H') :
    tSeq (tFor (iRng1 (tCons (tCB rMax2 (tCons (tC (.int lo)) (tCons (tCB rMin2 (tCons (tC (.int hi)) (tCons (tCB (rLenA K) (tCons (tVar 0) tNil)) tNil))) tNil))) tNil)) (gName j) (tSeq (tAsg (tCall (spBag K) [] E (tCons (tVar 0) (tCons (tVar j) tNil))) (gName t)) body)) tz DE σ H := by
  have lenS : EvD K (tCB (rLenA K) (tCons (tVar 0) tNil)) σ F (.int (ns.length : Int)) := fun H4 s4 Q4 q4 => by
    obtain ⟨o, g1, g2⟩ := EV.get (h0 r hr)
    have g2 : o = some (.ref a) := g2
    subst g2
    exact ⟨.ref a, g1, .inl ⟨a, _, rfl, .inl (same_l s4 sq), by rw [List.length_map]; exact q4 _ F H4 (Ext.refl s4) (.int _)⟩⟩
  have rng := ei_rng1 (K := K) (ea_cons (ev_cb (ea_cons (ev_c (.int lo)) (ea_cons (ev_cb (ea_cons (ev_c (.int hi)) (ea_cons lenS ea_nil)) rc_min2) ea_nil)) rc_max2) ea_nil) (by split <;> split <;> omega) (by split <;> split <;> omega)
  refine q_for [] (fun _ _ _ r' => R r') S EV rng (fun _ _ _ => hr) ?_ (fun F' H' r' σ' x E' p => hd F' H' r' σ' x.f x.s E' p)
  rintro i d F1 H1 F2 H2 r' σ' N hdd x1 hr' x2 E2 kN
  obtain ⟨m, rfl, hm⟩ : ∃ m : Nat, d = .int (m : Nat) ∧ m ≤ 1000 := by
    rw [List.getElem?_map] at hdd
    obtain ⟨m, h1, h2⟩ := Option.map_eq_some_iff.mp hdd
    have h3 := (List.getElem?_eq_some_iff.mp h1).1
    have e := (List.getElem?_eq_some_iff.mp h1).2
    rw [List.getElem_range] at e
    rw [List.length_range] at h3
    refine ⟨m, h2.symm, ?_⟩
    have : (if (if (ns.length : Int) < hi then (ns.length : Int) else hi) > lo then (if (ns.length : Int) < hi then (ns.length : Int) else hi) else lo) ≤ 100 := by split <;> split <;> omega
    omega
  refine q_bag x2.s E2 (by rw [List.getElem?_set_ne hj]; exact h0 r' hr') (by rw [List.getElem?_set_self (hlj r' hr')]) hm (same_l (x1.f.trans x2.f) sq) fun b H3 σ3 hb' x3 w3 E3 => ?_
  exact hb m F2 H3 b r' σ3 N (x1.f.trans x2.f) x3.s hr' w3 E3 fun F4 H4 r4 σ4 x4 E4 h4 => kN F4 H4 r4 σ4 (Ext.forget x3 x4 hb') E4 h4
/-- a for whose body draws at most c numbers -/
theorem s_turns {body : TS} {items : List D} {wi : TI} {j n : Nat} (c : Nat) (S : Same F H) (EV : EnvD K F r σ) (w : BagAt F H b (n + items.length * c)) (hi : EvI K wi σ F items) (hr : R r)
    (hs : ∀ d F2 H2 r' σ' m (N : L2.St → Hp → Prop), d ∈ items → Same F F2 → Same F2 H2 → R r' → BagAt F2 H2 b (m + c) → EnvD K F2 (r'.set j (.d d)) σ' → (∀ F3 H3 r3 σ3, Ext [b] F2 H2 F3 H3 → BagAt F3 H3 b m → EnvD K F3 r3 σ3 → R r3 → N σ3 H3) → body { DE with nx := N, ct := N, bk := DE.nx } σ' H2)
    (hd : ∀ F' H' r' σ', Ext [b] F H F' H' → BagAt F' H' b n → EnvD K F' r' σ' → R r' → DE.nx σ' H') : tFor wi (gName j) body DE σ H := by
  refine s_for [b] (fun i F' H' r' => R r' ∧ BagAt F' H' b (n + (items.length - i) * c)) S EV hi (fun F' H' x => ⟨hr, w.ext0 x⟩) ?_ ?_
  · rintro i d F1 H1 F2 H2 r' σ' N hdd x1 ⟨hr', w1⟩ x2 E2 kN
    have hlt : i < items.length := (List.getElem?_eq_some_iff.mp hdd).1
    have e : (items.length - i) * c = (items.length - (i + 1)) * c + c := by
      have : items.length - i = (items.length - (i + 1)) + 1 := by omega
      rw [this, Nat.add_mul, Nat.one_mul]
    refine hs d F2 H2 r' σ' (n + (items.length - (i + 1)) * c) N (List.mem_of_getElem? hdd) (x1.f.trans x2.f) x2.s hr' ((w1.ext0 x2).less (by omega)) E2 fun F3 H3 r3 σ3 x3 w3 E3 h3 => kN F3 H3 r3 σ3 x3 E3 ⟨h3, w3⟩
  · rintro F' H' r' σ' x E' ⟨h1, h2⟩
    exact hd F' H' r' σ' x (h2.less (by omega)) E' h1
theorem q_turns {body : TS} {items : List D} {wi : TI} {j n : Nat} (c : Nat) (S : Same F H) (EV : EnvD K F r σ) (w : BagAt F H b (n + items.length * c)) (hi : EvI K wi σ F items) (hr : R r)
    (hs : ∀ d F2 H2 r' σ' m (N : L2.St → Hp → Prop), d ∈ items → Same F F2 → Same F2 H2 → R r' → BagAt F2 H2 b (m + c) → EnvD K F2 (r'.set j (.d d)) σ' → (∀ F3 H3 r3 σ3, Ext [b] F2 H2 F3 H3 → BagAt F3 H3 b m → EnvD K F3 r3 σ3 → R r3 → N σ3 H3) → body { DE with nx := N, ct := N, bk := tz DE } σ' H2)
    (hd : ∀ F' H' r' σ', Ext [b] F H F' H' → BagAt F' H' b n → EnvD K F' r' σ' → R r' → tz DE σ' H') : tSeq (tFor wi (gName j) body) tz DE σ H := s_turns (DE := { DE with nx := tz DE }) c S EV w hi hr hs hd
/-! worth in this heap -/
def EvDH (K : PySem.W.Frag) (te : TE) (σ : L2.St) (F H : Hp) (d : D) : Prop := ∀ Q : VK, (∀ v F' H', Ext [] F H F' H' → Den K F' v d → Q v H') → te σ H Q
theorem EvD.here (h : EvD K te σ F d) (S : Same F H) : EvDH K te σ F H d := h H S
theorem At.here {v : V} (h : At te σ H v) (S : Same F H) (dv : Den K F v d) : EvDH K te σ F H d := fun Q q => h Q (q v F H (Ext.refl S) dv)
theorem at_ixT {v : V} {ds : List D} {i : Nat} (h : At ta σ H v) (S : Same F H) (dv : Den K F v (.tup ds)) (e : ds[i]? = some d) : ∃ w, At (tOp (rIxA K) ta (tC (.int (i : Nat)))) σ H w ∧ Den K F w d := by
  cases dv with
  | tup a l =>
    obtain ⟨w, h1, h2⟩ := l.get e
    exact ⟨w, at_op h at_c fun Q q => .inl (.inr (.inl ⟨_, _, _, _, rfl, rfl, same_t S a, atI_nat h1, q⟩)), h2⟩
theorem edh_tup2 {v w : V} (ha : At ta σ H v) (hb : At tb σ H w) (S : Same F H) (dv : Den K F v d) (dw : Den K F w e) : EvDH K (tTup (tCons ta (tCons tb tNil))) σ F H (.tup [d, e]) := fun Q q =>
  ha _ (hb _ ⟨sz2, fun p hp => q _ _ _ (Ext.new S hp) (.tup (SqT.of upd_same) (.cons (dv.up (Ext.new (o := .tup [v, w]) S hp).f) (.cons (dw.up (Ext.new (o := .tup [v, w]) S hp).f) .nil)))⟩)
theorem q_appH {i : Nat} {xs : List V} (E : EnvD K F r σ) (hp : r[i]? = some (.v (.ref p))) (w : Own F H p (.lst xs)) (h : EvDH K te σ F H d) (hz : xs.length < 100000)
    (k : ∀ v F' H', Ext [] F H F' H' → Own F' H' p (.lst xs) → Den K F' v d → tz DE σ (upd H' p (.lst (xs ++ [v])))) : tSeq (tDrop (tBM K "list" rAppend (tVar i) (tCons te tNil))) tz DE σ H := by
  obtain ⟨o, h1, h2⟩ := E.get hp
  have h2 : o = some (.ref p) := h2
  subst h2
  refine ⟨_, h1, .inl ⟨rfl, xs, SqL.of w.h⟩, h _ fun v F' H' x dv => ?_⟩
  have w' := w.ext0 x
  exact ⟨p, xs, v, rfl, rfl, w'.h, Nat.lt_of_lt_of_le hz (by rw [sizeLine_eq]; decide), k v F' H' x w' dv⟩
theorem s_appH {i : Nat} {xs : List V} (E : EnvD K F r σ) (hp : r[i]? = some (.v (.ref p))) (w : Own F H p (.lst xs)) (h : EvDH K te σ F H d) (hz : xs.length < 100000)
    (k : ∀ v F' H', Ext [] F H F' H' → Own F' H' p (.lst xs) → Den K F' v d → DE.nx σ (upd H' p (.lst (xs ++ [v])))) : tDrop (tBM K "list" rAppend (tVar i) (tCons te tNil)) DE σ H := q_appH (tz := fun D σ H => DE.nx σ H) (DE := DE) E hp w h hz k
/-- x = [drawn, ..], kept as one's own -/
theorem q_asgLB {tr : TA} {j n c : Nat} {SS : List D → Prop} (S : Same F H) (E : EnvD K F r σ) (w : BagAt F H b (n + c)) (h : EvBA K b c tr σ F SS) (hl : ∀ ds, SS ds → ds.length ≤ sizeLine)
    (k : ∀ p xs ds F' H' σ', SS ds → H p = none → b ≠ p → Ext [b] F H F' H' → BagAt F' H' b n → Own F' H' p (.lst xs) → DenL K F' xs ds → EnvD K F' (r.set j (.v (.ref p))) σ' → tz DE σ' H') : tSeq (tAsg (tLst tr) (gName j)) tz DE σ H :=
  h H n S w _ fun vs ds F1 H1 x1 w1 r1 d1 => ⟨by rw [d1.length]; exact hl ds r1, fun p hp => by
    have bp : b ≠ p := fun z => w1.ne (by rw [z]; exact hp)
    exact k p vs ds F1 _ _ r1 (x1.back hp) bp (x1.tl (Ext.newM x1.s hp)) (w1.set (o := .tup []) bp) ⟨x1.s.free hp, upd_same⟩ d1 (EnvD.set (s := .v (.ref p)) j (E.up x1.f) rfl)⟩
end
end Nm
namespace Nm
open PySem PySem.Spec L2
section
variable {K : PySem.W.Frag} {F H : Hp} {σ : L2.St} {te ta tb : TE} {r : List Sl} {DE : Ends} {tz : TS} {d e : D} {b p : Addr} {ds : List D}
theorem Ext.dropM {M M' : List Addr} {F1 H1 F2 H2 : Hp} (x : Ext M F H F1 H1) (y : Ext M' F1 H1 F2 H2) (h : ∀ a ∈ M', a ∈ M ∨ H a = none) : Ext M F H F2 H2 :=
  ⟨x.f.trans y.f, fun a o m e => y.h a o (fun z => (h a z).elim m (fun q => by rw [q] at e; cases e)) (x.h a o m e), y.s, fun a f k => y.n a (x.n a f k) (x.k a k), fun a k => y.k a (x.k a k)⟩
theorem q_ifLend {i : Nat} {xs : List V} {tt : TT} {tu tw : TS} {bb : Bool} (S : Same F H) (E : EnvD K F r σ) (hi : r[i]? = some (.v (.ref p))) (w : Own F H p (.lst xs)) (l : DenL K F xs ds) (h : ∀ F', Same F F' → EnvD K F' (r.set i (.d (.lst ds))) σ → EvT K tt σ F' bb)
    (h1 : bb = true → ∀ F' H', Ext [] F H F' H' → Own F' H' p (.lst xs) → tu { DE with nx := tz DE } σ H') (h2 : bb = false → ∀ F' H', Ext [] F H F' H' → Own F' H' p (.lst xs) → tw { DE with nx := tz DE } σ H') : tSeq (tIfS tt tu tw) tz DE σ H :=
  et_lend S E hi w l h fun F' H' x o => by
    cases bb with
    | true => exact h1 rfl F' H' x o
    | false => exact h2 rfl F' H' x o
theorem wtL_cons (d : D) (ds : List D) : wtL (d :: ds) = (wt d + 2) + wtL ds := by simp only [wtL]
theorem txtDL_cons (d : D) (ds : List D) : txtDL (d :: ds) = (txtD d && txtDL ds) := by simp only [txtDL]
theorem dpL_cons (d : D) (ds : List D) : dpL (d :: ds) = max (dp d) (dpL ds) := by simp only [dpL]
theorem wt_pair (p : List Nat × List Nat) : wt (pairD p) = 10 * p.1.length + 10 * p.2.length + 12 := by
  unfold pairD txt
  simp only [wt, wtL, txt_len]
  omega
theorem pairs_wt : ∀ ps : List (List Nat × List Nat), (∀ p ∈ ps, p.1.length ≤ 40 ∧ p.2.length ≤ 40) → wtL (ps.map pairD) ≤ ps.length * 1000
  | [], _ => by simp [wtL]
  | p :: ps, h => by
    have ih := pairs_wt ps fun q hq => h q (List.mem_cons_of_mem _ hq)
    obtain ⟨h1, h2⟩ := h p (by simp)
    rw [List.map_cons, List.length_cons, Nat.add_mul, Nat.one_mul, wtL_cons, wt_pair]
    omega
theorem strOk_of {l : List Nat} (h : ∀ c ∈ l, c < 1114112) : PyData.strOk ⟨l.toArray⟩ = true := by
  unfold PyData.strOk
  rw [← Array.all_toList, List.all_eq_true]
  exact fun c hc => decide_eq_true (h c hc)
theorem pairs_txt : ∀ ps : List (List Nat × List Nat), (∀ p ∈ ps, (∀ c ∈ p.1, c < 1114112) ∧ ∀ c ∈ p.2, c < 1114112) → txtDL (ps.map pairD) = true
  | [], _ => by simp only [List.map_nil, txtDL]
  | p :: ps, h => by
    have ih := pairs_txt ps fun q hq => h q (List.mem_cons_of_mem _ hq)
    obtain ⟨h1, h2⟩ := h p (by simp)
    have e : txtD (pairD p) = true := by
      unfold pairD txt
      simp only [txtD, txtDL, strOk_of h1, strOk_of h2, Bool.and_true]
    rw [List.map_cons, txtDL_cons, ih, e]
    rfl
theorem pairs_dp : ∀ ps : List (List Nat × List Nat), dpL (ps.map pairD) ≤ 1
  | [] => by simp only [List.map_nil, dpL]; exact Nat.zero_le _
  | p :: ps => by
    have ih := pairs_dp ps
    have e : dp (pairD p) = 1 := by
      unfold pairD txt
      simp only [dp, dpL]
      rfl
    rw [List.map_cons, dpL_cons, e]
    omega
theorem pairs_ok {ps : List (List Nat × List Nat)} (h : ∀ p ∈ ps, (p.1.length ≤ 40 ∧ p.2.length ≤ 40) ∧ (∀ c ∈ p.1, c < 1114112) ∧ ∀ c ∈ p.2, c < 1114112) (hl : ps.length ≤ 10000) : txtD (.lst (ps.map pairD)) = true ∧ dp (.lst (ps.map pairD)) ≤ 2 ∧ wt (.lst (ps.map pairD)) ≤ 16777216 := by
  have h1 := pairs_wt ps fun p hp => (h p hp).1
  have h2 := pairs_txt ps fun p hp => (h p hp).2
  have h3 := pairs_dp ps
  refine ⟨by unfold txtD; exact h2, by unfold dp; omega, by unfold wt; omega⟩
end
end Nm

set_option Elab.async false
set_option linter.all false
set_option maxRecDepth 100000
set_option maxHeartbeats 1000000
/-! Sets of texts that can be walked; set(list of texts), sorted of such a set, sorted of texts of any number. -/
namespace Nm
open PySem PySem.Spec L2 PyProof.Rows
def SetX (P : Program) (w : World) (h : Heap) (a : Addr) (l : List Str) : Prop :=
  ∃ D : Froz.SD, h.get? a = some (Froz.sObj "set" D) ∧ Froz.TxOk P w D l ∧ l.Nodup ∧ Ris D.2.2.place.toList ∧ (w.params.followText "set-order" = true ∨ D.2.2.led = true)
theorem tail_walk {ep : Nat} {es : Array (Int × Value)} {t : SetTable} {b : Bool} (r : Ris t.place.toList) : Ris (Froz.tailTx ep es t b).2.2.place.toList ∧ (Froz.tailTx ep es t b).2.2.led = t.led := by
  unfold Froz.tailTx
  by_cases c : (!b && t.tooFull) = true
  · rw [if_pos c]; exact ⟨relayAll_ris _ _ _, relayAll_led _ _ _⟩
  · rw [if_neg c]; exact ⟨r, rfl⟩
theorem add_walk {h : Int} {v : Value} {D : Froz.SD} (r : Ris D.2.2.place.toList) : Ris (Froz.addTx h v D).2.2.place.toList ∧ (Froz.addTx h v D).2.2.led = D.2.2.led := by
  have r1 := layNew_ris D.2.2 D.1 h v r
  have l1 := layNew_led D.2.2 D.1 h v
  unfold Froz.addTx
  by_cases c : (layNew D.2.2 D.1 h v).2.1.plain = true
  · rw [if_pos c]
    obtain ⟨g1, g2⟩ := tail_walk (ep := D.2.1) (es := (layNew D.2.2 D.1 h v).1) (t := { (layNew D.2.2 D.1 h v).2.1 with plain := false }) (b := (layNew D.2.2 D.1 h v).2.2.1) r1
    exact ⟨g1, g2.trans l1⟩
  · rw [if_neg c]
    obtain ⟨g1, g2⟩ := tail_walk (ep := D.2.1) (es := (layNew D.2.2 D.1 h v).1) (t := (layNew D.2.2 D.1 h v).2.1) (b := (layNew D.2.2 D.1 h v).2.2.1) r1
    exact ⟨g1, g2.trans l1⟩
section
variable {P : Program} {w : World} {A : Around} {E : Value → Shared → Prop} {s : Shared} {a : Addr} {l : List Str}
theorem SetX.keep {h h' : Heap} (R : SetX P w h a l) (k : ∀ o, h.get? a = some o → h'.get? a = some o) : SetX P w h' a l := by
  obtain ⟨D, ho, r⟩ := R
  exact ⟨D, k _ ho, r⟩
theorem setX_add {k : Str} {u : Tok} {Q : Bool → Shared → Prop} (R : SetX P w s.heap a l) (hb : l.length + 1 < scanBound)
    (hQ : ∀ h' l' b, Heap.SameBut a s.heap h' → SetX P w h' a l' → (∀ z, z ∈ l' ↔ z ∈ l ∨ z = k) → l'.length ≤ l.length + 1 → Q b { s with heap := h' }) :
    wpAny (model P w) A (setAddHashed a (.str k u) (hashStr w k)) Q E s := by
  obtain ⟨⟨es, ep, t⟩, ho, F, nd, r, hl⟩ := R
  by_cases hk : k ∈ l
  · have hel : ElemsOf (strKind P w) es.toList := F.el
    have hf : t.fits es.size = true := F.fit
    have hsz : es.size = l.length := F.sz
    obtain ⟨e, he, q⟩ := (F.mem k).mp hk
    unfold setAddHashed setAddHashedIn
    refine wpAny_holding (wpAny_bind (wpAny_setState_of ho rfl hf ?_))
    dsimp only
    rw [byScan_of rfl (by omega) hel]
    simp only [↓reduceIte]
    unfold setAddByScan
    refine wpAny_bind (wpAny_bind (wpAny_rule (wpAny_bind (wpAny_setScan_of (knd := strKind P w) (k := k) (Froz.is_str k u) ho rfl hf hel ?_))))
    cases fi : List.findIdx? (fun e => (strKind P w).is k e.2) es.toList with
    | none =>
      have c := List.findIdx?_eq_none_iff.mp fi e he
      rw [q] at c
      cases c
    | some j =>
      dsimp only
      exact wpAny_pure (wpAny_pure (hQ s.heap l false (Heap.SameBut.refl a s.heap) ⟨(es, ep, t), ho, F, nd, r, hl⟩ (fun z => ⟨.inl, fun h => h.elim id fun e => e ▸ hk⟩) (Nat.le_succ _)))
  · refine Froz.add_x ho F hk hb (hQ _ (k :: l) true (Heap.SameBut.update s.heap a _) ⟨_, Froz.get_upd _ ho rfl, Froz.add_ok u F, List.nodup_cons.mpr ⟨hk, nd⟩, (add_walk r).1, hl.imp id fun z => (add_walk r).2.trans z⟩ (fun z => ?_) (Nat.le_refl _))
    rw [List.mem_cons]
    exact Or.comm
end
end Nm

set_option Elab.async false
set_option linter.all false
set_option maxRecDepth 100000
set_option maxHeartbeats 3200000
namespace Nm
open PySem PySem.Spec L2 PyProof.Rows
abbrev newSet (w : World) : Obj := { cls := .type "set", dict := none, data := .set #[] 0 (.fresh 0 0 (!w.params.followText "set-order")) }
section
variable {P : Program} {w : World} {A : Around} {E : Value → Shared → Prop} {s : Shared}
theorem setX_new {h : Heap} {a : Addr} (ho : h.get? a = some (newSet w)) : SetX P w h a [] := by
  refine ⟨(#[], 0, .fresh 0 0 (!w.params.followText "set-order")), ho, Froz.TxOk.nil rfl, List.nodup_nil, List.Pairwise.nil, ?_⟩
  show _ ∨ (!w.params.followText "set-order") = true
  cases w.params.followText "set-order"
  · exact .inr rfl
  · exact .inl rfl
/-- what is walked goes into the set -/
theorem setX_loop {I : Addr} {fp wr : List Addr} {G : Array GenState → Array GenState → Prop} {n : Nat} {Pv : Nat → Value → Prop} {St : Nat → Shared → Prop} {R : Result → Shared → Prop}
    (W : WalksS P w A.in1 I fp wr G n Pv St) {S : Addr} (hS : S ∉ fp) {ks : List Str} (hn : n = ks.length) (hb : ks.length + 1 < scanBound) (hv : ∀ i v, Pv i v → ∃ k t, ks[i]? = some k ∧ v = .str k t) :
    ∀ (m i : Nat) (s : Shared) (l : List Str), n - i = m → i ≤ n → St i s → SetX P w s.heap S l → (∀ z, z ∈ l ↔ z ∈ ks.take i) → l.length ≤ i →
      (∀ s' l', Moved (S :: wr) G s s' → SetX P w s'.heap S l' → (∀ z, z ∈ l' ↔ z ∈ ks) → R (.ok (.ret .none)) s') →
      codeAny (model P w) A (.builtin "set.update.loop" ⟨[.ref S, .ref I], []⟩) R s
  | 0, i, s, l, hm, hi, st, hx, hl, hz, k => by
    have hSw : S ∉ wr := fun h => hS (W.sub _ h)
    have ei : i = n := by omega
    subst ei
    refine codeAny_builtin F.entry_set_update_loop ?_
    rw [Around.under_plainId F.plain_set_update_loop _]
    show wpAny _ A.in1 (pyNext (.ref I) >>= _) _ _ s
    refine wpAny_bind (W.done s _ _ st fun s' mv => wpAny_pure (k s' l (mv.mono fun b hb => List.mem_cons_of_mem _ hb) (hx.keep fun o e => mv.heap S o hSw e) fun z => ?_))
    rw [hl z, List.take_of_length_le (by omega)]
  | m + 1, i, s, l, hm, hi, st, hx, hl, hz, k => by
    have hSw : S ∉ wr := fun h => hS (W.sub _ h)
    have sub : ∀ b ∈ wr, b ∈ S :: wr := fun b hb => List.mem_cons_of_mem _ hb
    have lt : i < n := by omega
    refine codeAny_builtin F.entry_set_update_loop ?_
    rw [Around.under_plainId F.plain_set_update_loop _]
    show wpAny _ A.in1 (pyNext (.ref I) >>= _) _ _ s
    refine wpAny_bind (W.item i s _ _ lt st fun v s1 pv st1 mv => ?_)
    obtain ⟨x, t, hx1, rfl⟩ := hv i v pv
    show wpAny _ A.in1 (holding [Value.str x t] (setAdd S (.str x t)) >>= _) _ _ s1
    refine wpAny_bind (wpAny_holding ?_)
    unfold setAdd
    refine wpAny_holding (wpAny_bind ((strKind P w).pyHash (k := x) (Froz.is_str x t) ?_))
    refine setX_add (s := { s1 with toks := s1.toks + 1 }) (hx.keep fun o e => mv.heap S o hSw e) (by omega) fun h' l' b sb hx' hl' hz' => ?_
    refine wpAny_pure ⟨plainId_quiet F.plain_set_update_loop _, setX_loop W hS hn hb hv m (i + 1) _ l' (by omega) lt (W.frame _ s1 _ _ st1 (Nat.le_succ _) fun b hb o e => ?_) hx' (fun z => ?_) (by omega) fun s2 l2 mv2 hx2 hl2 => ?_⟩
    · show h'.get? b = some o
      rw [sb.2 b fun h => hS (h ▸ hb)]; exact e
    · rw [hl' z, hl z, take_succ' hx1, List.mem_append, List.mem_singleton]
    · refine k s2 l2 (Moved.trans W.gtrans ((mv.mono sub).then_heap (Nat.le_succ _) fun b o hb e => ?_) mv2) hx2 hl2
      show h'.get? b = some o
      rw [sb.2 b fun h => hb (h ▸ List.mem_cons_self)]; exact e
theorem strs_get : ∀ {us : List Value} {ks : List Str}, StrsAre us ks → ∀ (i : Nat) (v : Value), us[i]? = some v → ∃ k t, ks[i]? = some k ∧ v = .str k t
  | _, _, h, i, v, e => by
    induction h generalizing i with
    | nil => simp at e
    | cons k t r ih =>
      cases i with
      | zero => simp at e; exact ⟨k, t, rfl, e.symm⟩
      | succ i => simpa using ih i (by simpa using e)
/-- set(xs), xs a list of texts -/
theorem run_set_list {l : Addr} {items : Array Value} {ks : List Str} {Q : Value → Shared → Prop} (hh : A.handled = none) (hl : s.heap.IsList l items) (hk : StrsAre items.toList ks) (hb : ks.length + 1 < scanBound)
    (h : ∀ (h' : Heap) (tk : Nat) (ds : List Str), SetX P w h' s.heap.objs.size ds → (∀ z, z ∈ ds ↔ z ∈ ks) → (∀ b o, s.heap.get? b = some o → h'.get? b = some o) → Q (.ref s.heap.objs.size) { s with heap := h', toks := tk }) :
    wpAny (model P w) A (call (.type "set") [.ref l]) Q E s := by
  have isz : items.size = ks.length := by
    have q := hk.length
    rw [Array.length_toList] at q
    exact q
  obtain ⟨c, tl, hmro⟩ := F.called_set.mro
  have m1 := F.called_set.made
  have m2 := F.called_set.sub
  refine wpAny_call (codeAny_of_tree ?_)
  show wpAny _ _ (callAny (.type "set") _) _ _ _
  refine wpAny_pure ⟨Code.quiet_builtin _ (by decide +kernel), codeAny_builtin F.entry_type_call ?_⟩
  rw [Around.under_plain (weight_type_call_type "set" [.ref l] []) rfl]
  have m3 := F.called_set.notType
  have m4 := F.called_set.canCreate
  have m5 := F.typeCall_set_1 (.ref l)
  repeat (any_goals (first | assumption | wp_step))
  refine codeAny_mono (code_set_led1 (.ref l) (E := E) (Q₁ := fun x s1 => x = .ref s.heap.objs.size ∧ s1 = { s with heap := s.heap.push (newSet w) }) ⟨rfl, rfl⟩) fun r s1 hr => ?_
  cases r with
  | error e => exact hr
  | ok fl =>
    cases fl with
    | ret x =>
      obtain ⟨rfl, rfl⟩ := hr
      have at1 : (s.heap.push (newSet w)).get? s.heap.objs.size = some (newSet w) := Heap.get?_push_size _ rfl
      have ty1 : Shared.TypeIs { s with heap := s.heap.push (newSet w) } (.ref s.heap.objs.size) "set" := ⟨_, at1, rfl⟩
      have m6 := F.called_set.init.lookup
      have m7 := F.called_set.init.bind (.ref s.heap.objs.size)
      repeat (any_goals (first | assumption | wp_step))
      refine codeAny_mono (codeAny_call_builtin (R := wants (fun r s2 => r = .none ∧ ∃ h' tk ds, s2 = { s with heap := h', toks := tk } ∧ SetX P w h' s.heap.objs.size ds ∧ (∀ z, z ∈ ds ↔ z ∈ ks) ∧ (∀ b o, s.heap.get? b = some o → h'.get? b = some o)) E) F.called_set.init.plain F.entry_set_init (check_set_init_1 ty1 ?_)) fun r2 s2 hr2 => ?_
      · obtain ⟨⟨ocls, odict, odata, oslots⟩, hol, hcl, nl, hdl⟩ := hl
        simp only at hcl hdl
        subst hcl; subst hdl
        have hol1 : (s.heap.push (newSet w)).get? l = some { cls := .type "list", dict := odict, data := .seq items nl, slots := oslots } := Heap.get?_push_of_some _ hol
        have m8 := F.sub_list_set
        have m9 := F.sub_list_frozenset
        have m10 : (Value.type "list" == Value.type "dict") = false := by decide
        have hl1 : (s.heap.push (newSet w)).IsList l items := ⟨_, hol1, rfl, nl, rfl⟩
        unfold Builtin.«set.__init__» noKeywords Builtin.Frozenset.updateFrom
        generalize hPI : pyIter = PI
        wp_walk
        subst hPI
        refine wpAny_pyIter_list hl1 (wpAny_bind (wpAny_runValue ?_))
        have lS : l < s.heap.objs.size := Heap.lt_size hol
        have h3 : A.in1.in1.in1.handled = none := by simp [hh]
        have z1 : (s.heap.push (newSet w)).objs.size = s.heap.objs.size + 1 := Heap.size_push ..
        have ne1 : l ≠ (s.heap.push (newSet w)).objs.size := by rw [z1]; exact Nat.ne_of_lt (Nat.lt_succ_of_lt lS)
        have nf : s.heap.objs.size ∉ [(s.heap.push (newSet w)).objs.size, l] := by
          rw [z1]
          simp only [List.mem_cons, List.not_mem_nil, or_false, not_or]
          exact ⟨Nat.ne_of_lt (Nat.lt_succ_self _), Nat.ne_of_gt lS⟩
        refine setX_loop ((Walks.list h3 _ l ne1 items).toS) nf isz hb (fun i v hv => strs_get hk i v (by rw [Array.getElem?_toList]; exact hv)) (items.size - 0) 0 _ [] (by omega) (Nat.zero_le _) ⟨⟨_, Heap.get?_push_size _ rfl, rfl, rfl⟩, hl1.push _⟩ (setX_new (Heap.get?_push_of_some _ at1)) (fun z => by simp) (Nat.le_refl _) fun s' ds mv hx hd => ?_
        obtain ⟨h', g', d', tk', os'⟩ := s'
        have e1 : g' = s.gens := mv.gens
        have e2 : d' = s.drawn := mv.drawn
        have e3 : os' = s.os := mv.os
        subst e1; subst e2; subst e3
        show wpAny _ _ _ _ _ _
        refine wpAny_pure ?_
        show wpAny _ _ (ret Value.none) _ _ _
        refine wpAny_pure ⟨rfl, h', tk', ds, rfl, hx, hd, fun b o e => ?_⟩
        have lb : b < s.heap.objs.size := Heap.lt_size e
        refine mv.heap b o ?_ (Heap.get?_push_of_some _ (Heap.get?_push_of_some _ e))
        rw [z1]
        simp only [List.mem_cons, List.not_mem_nil, or_false, not_or]
        exact ⟨Nat.ne_of_lt lb, Nat.ne_of_lt (Nat.lt_succ_of_lt lb)⟩
      · cases r2 with
        | error e => exact hr2
        | ok fl2 =>
          cases fl2 with
          | ret r =>
            obtain ⟨rfl, h', tk, ds, rfl, hx, hd, hk'⟩ := hr2
            repeat (any_goals (first | assumption | wp_step))
            exact h _ _ _ hx hd hk'
          | _ => exact hr2.elim
    | _ => exact hr.elim
end
end Nm

set_option Elab.async false
set_option linter.all false
set_option maxRecDepth 100000
set_option maxHeartbeats 1000000
namespace Nm
open PySem PySem.Spec L2 PyProof.Rows
theorem perm_of_sub {α : Type} [DecidableEq α] : ∀ {l m : List α}, l.Nodup → (∀ z ∈ l, z ∈ m) → l.length = m.length → l.Perm m
  | [], m, _, _, h => by
    have : m = [] := List.length_eq_zero_iff.mp h.symm
    subst this; exact List.Perm.refl _
  | x :: l, m, nd, hs, h => by
    rw [List.nodup_cons] at nd
    have hx : x ∈ m := hs x List.mem_cons_self
    have p := List.perm_cons_erase hx
    have len := p.length_eq
    rw [List.length_cons] at len h
    refine (List.Perm.cons x (perm_of_sub (m := m.erase x) nd.2 (fun z hz => ?_) (by omega))).trans p.symm
    have ne : z ≠ x := fun e => nd.1 (e ▸ hz)
    exact (List.mem_erase_of_ne ne).mpr (hs z (List.mem_cons_of_mem _ hz))
theorem nodup_perm {α : Type} [DecidableEq α] {l m : List α} (h1 : l.Nodup) (h2 : m.Nodup) (h : ∀ z, z ∈ l ↔ z ∈ m) : l.Perm m := by
  have le : ∀ {l m : List α}, l.Nodup → (∀ z ∈ l, z ∈ m) → l.length ≤ m.length := by
    intro l
    induction l with
    | nil => intro m _ _; exact Nat.zero_le _
    | cons x l ih =>
      intro m nd hs
      rw [List.nodup_cons] at nd
      have p := List.perm_cons_erase (hs x List.mem_cons_self)
      have len := p.length_eq
      rw [List.length_cons] at len ⊢
      have := ih (m := m.erase x) nd.2 fun z hz => (List.mem_erase_of_ne (fun e : z = x => nd.1 (e ▸ hz))).mpr (hs z (List.mem_cons_of_mem _ hz))
      omega
  exact perm_of_sub h1 (fun z hz => (h z).mp hz) (Nat.le_antisymm (le h1 fun z hz => (h z).mp hz) (le h2 fun z hz => (h z).mpr hz))
/-- each once -/
def dd : List Str → List Str
  | [] => []
  | x :: l => if x ∈ l then dd l else x :: dd l
theorem dd_mem : ∀ {l : List Str} {z : Str}, z ∈ dd l ↔ z ∈ l
  | [], z => Iff.rfl
  | x :: l, z => by
    unfold dd
    by_cases h : x ∈ l
    · rw [if_pos h, dd_mem, List.mem_cons]
      exact ⟨.inr, fun k => k.elim (fun e => e ▸ h) id⟩
    · rw [if_neg h, List.mem_cons, List.mem_cons, dd_mem]
theorem dd_nodup : ∀ l : List Str, (dd l).Nodup
  | [] => List.nodup_nil
  | x :: l => by
    unfold dd
    by_cases h : x ∈ l
    · rw [if_pos h]; exact dd_nodup l
    · rw [if_neg h, List.nodup_cons]; exact ⟨fun z => h (dd_mem.mp z), dd_nodup l⟩
theorem dd_len : ∀ l : List Str, (dd l).length ≤ l.length
  | [] => Nat.le_refl _
  | x :: l => by
    have := dd_len l
    unfold dd
    split <;> simp only [List.length_cons] <;> omega
/-- sorted(set(l)) -/
def setS (l : List Str) : List Str := sortS (dd l)
theorem setS_mem {l : List Str} {z : Str} : z ∈ setS l ↔ z ∈ l := by
  unfold setS
  rw [(sortS_perm _).mem_iff, dd_mem]
theorem setS_nodup (l : List Str) : (setS l).Nodup := (sortS_perm _).nodup_iff.mpr (dd_nodup l)
theorem setS_len (l : List Str) : (setS l).length ≤ l.length := by
  unfold setS
  rw [(sortS_perm _).length_eq]
  exact dd_len l
theorem setS_congr {l m : List Str} (h : ∀ z, z ∈ l ↔ z ∈ m) : setS l = setS m := by
  refine sort_unique ?_ (sortS_pair _) (sortS_pair _)
  exact nodup_perm (setS_nodup l) (setS_nodup m) fun z => by rw [setS_mem, setS_mem, h z]
theorem setS_is {ys ds ks : List Str} (p : ys.Perm ds) (nd : ds.Nodup) (h : ∀ z, z ∈ ds ↔ z ∈ ks) (hs : sortedS ys = true) : ys = setS ks := by
  unfold setS
  refine sortedS_is (p.trans (nodup_perm nd (dd_nodup ks) fun z => by rw [h z, dd_mem])) hs
section
variable {P : Program} {w : World} {A : Around} {E : Value → Shared → Prop} {s : Shared} {a : Addr} {l : List Str}
theorem SetX.nodup {h : Heap} (R : SetX P w h a l) : l.Nodup := R.elim fun _ r => r.2.2.1
/-- sorted(set) -/
theorem run_sorted_set {Q : Value → Shared → Prop} (R : SetX P w s.heap a l) (hh : A.handled = none) (hb : l.length < scanBound) (hz : l.length ≤ sizeLine)
    (hQ : ∀ s' p (out : Array Value) (c : Nat) (ys : List Str), (∀ b o, s.heap.get? b = some o → s'.heap.get? b = some o) → s'.gens = s.gens → s'.os = s.os → s.heap.objs.size ≤ p →
      s'.heap.get? p = some (seqObj "list" out c) → StrsAre out.toList ys → ys.Perm l → sortedS ys = true → Q (.ref p) s') :
    wpAny (model P w) A (call (.builtin "sorted") [.ref a]) Q E s := by
  obtain ⟨⟨es, ep, t⟩, ho, Fx, nd, r, hl⟩ := R
  have esz : es.size = l.length := Fx.sz
  refine Calls.call_function_entry kind_sorted plain_sorted entry_sorted (args_sorted1 _) ?_
  unfold Builtin.«sorted»
  refine wpAny_bind (m := checkCount "sorted" 1 1 _) (wpAny_pure (wpAny_bind (collect_set (A := A.in1) hh ⟨_, ho, rfl, rfl⟩ Fx.fit (by show es.size < scanBound; omega) r hl fun s1 vs k1 z1 g1 o1 pm => ?_)))
  have vl : vs.length = l.length := by rw [pm.length_eq, List.length_map, Array.length_toList]; exact esz
  have all : ∀ v ∈ vs, ∃ x t, v = Value.str x t := fun v hv => by
    obtain ⟨e, he, rfl⟩ := List.mem_map.mp (pm.mem_iff.mp hv)
    obtain ⟨⟨k, hk, _⟩, _⟩ := Fx.el e he
    obtain ⟨t, q⟩ := Value.isStrOf_shape hk
    exact ⟨k, t, q⟩
  have hS := strsAre_map vs all
  have pl : (vs.map strOf).Perm l := by
    refine (perm_of_sub nd (fun z hz => ?_) (by rw [List.length_map, vl])).symm
    obtain ⟨e, he, hk⟩ := (Fx.mem z).mp hz
    obtain ⟨t, q⟩ := Value.isStrOf_shape hk
    exact List.mem_map.mpr ⟨e.2, pm.mem_iff.mpr (List.mem_map.mpr ⟨e, he, rfl⟩), by rw [q]; rfl⟩
  refine wpAny_bind (wpAny_newList ?_ (by rw [vl]; exact hz))
  have oL : (s1.heap.push (seqObj "list" vs.toArray 0)).get? s1.heap.objs.size = some (seqObj "list" vs.toArray 0) := Heap.get?_push_size _ rfl
  refine wpAny_bind (wpAny_holding (wpAny_call_entry slot_list_sort ⟨_, oL, rfl⟩ entry_list_sort (list_sort_treeKAny strKind_oneLt oL hS.keysOf (fun v1 v2 rest e => keyKind_strs (by rw [← e]; exact hS)) (by rw [vl]; exact hz) fun st' hp hs => ⟨_, rfl, ?_⟩) (args_list_sort _)))
  obtain ⟨ys, a1, a2, a3⟩ := sorted_out_str hS hp hs
  obtain ⟨c, hc⟩ := sortedHeap_at (vs := vs) (out := ((arrOf st').map (·.2))) oL
  refine wpAny_pure ⟨_, rfl, hQ _ s1.heap.objs.size _ c ys (fun b u e => ?_) g1 o1 z1 hc a1 (a2.trans pl) a3⟩
  have q := k1 b u e
  have lt := Heap.lt_size q
  show (sortedHeap (s1.heap.push (seqObj "list" vs.toArray 0)) s1.heap.objs.size vs _).get? b = some u
  rw [sortedHeap_old (Nat.ne_of_lt lt) (by rw [size_push']; exact Nat.lt_succ_of_lt lt)]
  exact Heap.get?_push_of_some _ q
end
/-! ### the rules -/
def SetXO (P : Program) (w : World) (a : Addr) (l : List Str) : HO := .ext fun h => SetX P w h a l
theorem setXO_new {P : Program} {w : World} {H : Hp} {h : Heap} {a : Addr} {l : List Str} (R : SetX P w h a l) : ObjOk P w H h a (SetXO P w a l) := by
  have ⟨D, ho, _⟩ := R
  exact ⟨R, ⟨_, ho⟩, fun h1 h2 p k => p.keep k⟩
theorem setXO_get {X : Cx} {pins : List (Addr × Obj)} {σ : L2.St} {H : Hp} {s : Shared} {a : Addr} {l : List Str} (I : L2.Inv X pins σ H s) (ha : H a = some (SetXO X.prog X.w a l)) : SetX X.prog X.w s.heap a l := (I.hok a _ ha).1
/-- set(xs) of a list of texts -/
def rSetX (P : Program) (w : World) (K : PySem.W.Frag) : List V → Hp → VK → Prop := fun xs H Q => ∃ (l : Addr) (ks : List Str), xs = [.ref l] ∧ SqL K H l (ks.map V.str) ∧ ks.length + 1 < scanBound ∧
  ∀ p ds, ds.Nodup → (∀ z, z ∈ ds ↔ z ∈ ks) → H p = none → Q (.ref p) (upd H p (SetXO P w p ds))
theorem c_setX {X : Cx} (hc : X.calm = true) : CallR X (.type "set") (rSetX X.prog X.w X.K) := by
  intro pins s σ H xs us Q I r h
  obtain ⟨l, ks, rfl, hs, hb, q⟩ := h
  obtain ⟨its, rv, hl, _⟩ := I.list hs
  rw [Vals.ref1 r]
  refine run_set_list (I.ok.hd hc) hl.isList (by simpa using rv.strs) hb fun h' tk ds hx hd hk => ?_
  exact ⟨.ref _, upd H s.heap.objs.size (SetXO X.prog X.w s.heap.objs.size ds), I.laid (t' := tk) hk (Nat.le_refl _) (setXO_new hx), rfl, q _ ds hx.nodup hd (I.hok.fresh (Nat.le_refl _))⟩
def rSortedX (P : Program) (w : World) : List V → Hp → VK → Prop := fun xs H Q => ∃ (a : Addr) (l : List Str), xs = [.ref a] ∧ H a = some (SetXO P w a l) ∧ l.length < scanBound ∧
  ∀ ys p, ys.Perm l → sortedS ys = true → H p = none → Q (.ref p) (upd H p (.lst (ys.map V.str)))
theorem c_sortedX {X : Cx} (hc : X.calm = true) : CallR X (.builtin "sorted") (rSortedX X.prog X.w) := by
  intro pins s σ H xs us Q I r h
  obtain ⟨a, l, rfl, ha, hb, q⟩ := h
  have hz : l.length ≤ sizeLine := by
    have : scanBound = 4096 := rfl
    rw [sizeLine_eq]; omega
  rw [Vals.ref1 r]
  refine run_sorted_set (setXO_get I ha) (I.ok.hd hc) hb hz fun s' p out c ys k g o hp hg hi pm hs => ?_
  have hlen : (ys.map V.str).length ≤ sizeLine := by rw [List.length_map, pm.length_eq]; exact hz
  have hn : H p = none := I.hok.fresh hp
  exact ⟨.ref p, upd H p (.lst (ys.map V.str)), I.call' (ch := []) o (Un.laid k hp hn) (I.hok.laid k hp (o := .lst (ys.map V.str)) ⟨hlen, out.toList, c, vals_of_strs hi, by simpa using hg⟩) (by rw [g]; exact I.bare) (fun _ z => nomatch z), rfl, q ys p pm hs hn⟩
/-- sorted(xs) of texts, any number of them -/
def rSortedN (K : PySem.W.Frag) : List V → Hp → VK → Prop := fun xs H Q => ∃ (a : Addr) (ks : List Str), xs = [.ref a] ∧ SqL K H a (ks.map V.str) ∧
  ∀ ys p, ys.Perm ks → sortedS ys = true → H p = none → Q (.ref p) (upd H p (.lst (ys.map V.str)))
theorem c_sortedN {X : Cx} : CallR X (.builtin "sorted") (rSortedN X.K) := by
  intro pins s σ H xs us Q I r h
  obtain ⟨a, ks, rfl, hs, q⟩ := h
  obtain ⟨its, rv, hl, hz⟩ := I.list hs
  rw [Vals.ref1 r]
  have len0 := rv.length
  refine sorted_strsAny hl.isList rv.strs (by rw [← len0]; exact hz) fun out ys h1 h2 h3 => ?_
  obtain ⟨ep, he⟩ := sortedAll_at s.heap its out
  have hlen : (ys.map V.str).length ≤ sizeLine := by rw [List.length_map, h2.length_eq]; rw [List.length_map] at hz; exact hz
  exact ⟨.ref _, upd H (s.heap.objs.size + 1) (.lst (ys.map V.str)), I.laid (t' := s.toks) (fun _ _ => sortedAll_old) (Nat.le_succ _) ⟨hlen, out.toList, ep, vals_of_strs h1, he⟩, rfl, q ys _ h2 h3 (I.hok.fresh (Nat.le_succ _))⟩
section
variable {K : PySem.W.Frag} {F H : Hp} {σ : L2.St} {ta : TA} {P : Program} {w : World}
/-- sorted(set(xs)) -/
theorem el_sortset {ks : List Str} {ds : List D} (h : EvA K ta σ F [.lst ds]) (e : ds = ks.map D.str) (hb : ks.length < 4000) : EvL K (tCB (rSortedX P w) (tCons (tCB (rSetX P w K) ta) tNil)) σ F ((setS ks).map D.str) := fun H s Q q => h H s _ fun vs F1 H1 x1 l => by
  subst e
  have sb : scanBound = 4096 := rfl
  cases l with
  | cons a t =>
    cases t
    cases a with
    | lst r l =>
      rw [denL_strs l] at r
      refine ⟨_, ks, rfl, SqL.of (x1.s _ _ r), by omega, fun p ds nd hd hp => ?_⟩
      have len : ds.length ≤ ks.length := by
        have := (nodup_perm nd (dd_nodup ks) fun z => by rw [hd z, dd_mem]).length_eq
        have h2 := dd_len ks
        omega
      refine ⟨p, ds, rfl, upd_same, by omega, fun ys p2 pm hs hp2 => ?_⟩
      have x2 := Ext.newM (o := SetXO P w p ds) x1.s hp
      have x3 := Ext.newM (o := .lst (ys.map V.str)) x2.s hp2
      rw [setS_is pm nd hd hs] at x3 ⊢
      exact q p2 _ F1 _ ((x1.tr x2).back hp2) ((x1.tr x2).tr x3) ⟨x2.s.free hp2, upd_same⟩ (DenL.strs _)
theorem el_sortedN {ks : List Str} {ds : List D} (h : EvA K ta σ F [.lst ds]) (e : ds = ks.map D.str) : EvL K (tCB (rSortedN K) ta) σ F ((sortS ks).map D.str) := fun H s Q q => h H s _ fun vs F1 H1 x1 l => by
  subst e
  cases l with
  | cons a t =>
    cases t
    cases a with
    | lst r l =>
      rw [denL_strs l] at r
      refine ⟨_, ks, rfl, SqL.of (x1.s _ _ r), fun ys p pm hs hp => ?_⟩
      have x2 := Ext.newM (o := .lst (ys.map V.str)) x1.s hp
      rw [sortedS_is pm hs] at x2 ⊢
      exact q p _ F1 _ (x1.back hp) (x1.tr x2) ⟨x1.s.free hp, upd_same⟩ (DenL.strs _)
end
end Nm

set_option Elab.async false
set_option linter.all false
set_option maxRecDepth 100000
set_option maxHeartbeats 1000000
/-! zip of two texts, drawn by an enumerate. -/
namespace Nm
open PySem PySem.Spec L2 PyProof.Rows
def SgnAt (x : Str) (i : Nat) (v : Value) : Prop := ∃ c u, x.cps[i]? = some c ∧ v = .str ⟨#[c]⟩ u
section
variable {prog : Program} {w : World} {A : Around} {E : Value → Shared → Prop} {s : Shared}
theorem drawsStr (hh : A.handled = none) (it : Addr) (x : Str) (t : Tok) : Draws prog w A it [it] x.cps.size (SgnAt x) (fun i h => h.IsStrIter it (strIterType x) x t i) := by
  unfold strIterType
  cases x.cps.all (· < 128)
  · exact Draws.strWide hh it x t
  · exact Draws.strAscii hh it x t
theorem wp_alive {M : Model} {a : Addr} {Q : Option Obj → Shared → Prop} (h : Q (s.heap.get? a) s) : wpAny M A (loadIfAlive a) Q E s := fun Γ p _ => by
  unfold loadIfAlive
  rw [Sem.wp_loadIfAlive]
  exact wpAny_pure (M := M) (A := A) (E := E) h Γ p ‹_›
abbrev ZipAt (h : Heap) (z TI TO : Addr) (f0 f1 : Value) : Prop :=
  h.get? z = some { cls := .type "zip", dict := none, data := .fields #[f0, f1, .bool false, .ref TI, .ref TO], slots := #[] }
def Own0 (f0 f1 : Value) : Prop := (f0 = .none ∨ ∃ a : Addr, f0 = rawInt a) ∧ ∃ q, f1 = .bool q
theorem own_free {z TI TO : Addr} {f0 f1 : Value} {Q : Bool → Shared → Prop} (hz : ZipAt s.heap z TI TO f0 f1) (h0 : Own0 f0 f1)
    (hQ : ∀ r h' g1, ZipAt h' z TI TO f0 g1 → Own0 f0 g1 → Heap.SameBut z s.heap h' → Q r { s with heap := h' }) : wpAny (model prog w) A (Builtin.SmallTypes.ownedTupleIsFree (.ref z)) Q E s := by
  unfold Builtin.SmallTypes.ownedTupleIsFree
  obtain ⟨h0, q, rfl⟩ := h0
  refine wpAny_bind (wpAny_field hz rfl (x := f0) rfl ?_)
  rcases h0 with rfl | ⟨a, rfl⟩
  · exact wpAny_pure (hQ true _ _ hz ⟨.inl rfl, q, rfl⟩ (Heap.SameBut.refl _ _))
  · show wpAny _ _ (loadIfAlive (a : Int).toNat >>= _) _ _ _
    refine wpAny_bind (wp_alive ?_)
    cases s.heap.get? (a : Int).toNat with
    | none =>
      show wpAny _ _ (pure true) _ _ _
      exact wpAny_pure (hQ true _ _ hz ⟨.inr ⟨a, rfl⟩, q, rfl⟩ (Heap.SameBut.refl _ _))
    | some o =>
      show wpAny _ _ (field (.ref z) 1 >>= _) _ _ _
      refine wpAny_bind (wpAny_field hz rfl (x := .bool q) rfl ?_)
      cases q with
      | true =>
        show wpAny _ _ (pure false) _ _ _
        exact wpAny_pure (hQ false _ _ hz ⟨.inr ⟨a, rfl⟩, true, rfl⟩ (Heap.SameBut.refl _ _))
      | false =>
        show wpAny _ _ (setField (.ref z) 1 (.bool true) >>= fun _ => pure false) _ _ _
        refine wpAny_bind (wpAny_setField_rec hz (by simp) fun h1 hz1 hs1 => ?_)
        exact wpAny_pure (hQ false h1 (.bool true) hz1 ⟨.inr ⟨a, rfl⟩, true, rfl⟩ hs1)
structure Apart (z TI TO i1 i2 : Addr) : Prop where
  a1 : TI ≠ z
  a2 : TO ≠ z
  a3 : i1 ≠ z
  a4 : i2 ≠ z
  a5 : TI ≠ TO
  a6 : TI ≠ i1
  a7 : TI ≠ i2
  a8 : TO ≠ i1
  a9 : TO ≠ i2
  b1 : i1 ≠ i2
/-- what a zip of two texts is -/
structure ZipS (h : Heap) (z TI TO i1 i2 : Addr) (x y : Str) (tx ty : Tok) (k : Nat) : Prop where
  z : ∃ f0 f1, ZipAt h z TI TO f0 f1 ∧ Own0 f0 f1
  ti : IsPair h TI (.ref i1) (.ref i2)
  to : ∃ a b, IsPair h TO a b
  h1 : h.IsStrIter i1 (strIterType x) x tx k
  h2 : h.IsStrIter i2 (strIterType y) y ty k
theorem ZipS.keep {h h' : Heap} {z TI TO i1 i2 : Addr} {x y : Str} {tx ty : Tok} {k : Nat} (Z : ZipS h z TI TO i1 i2 x y tx ty k) (e : ∀ b, b ∈ [z, TI, TO, i1, i2] → ∀ o, h.get? b = some o → h'.get? b = some o) : ZipS h' z TI TO i1 i2 x y tx ty k := by
  obtain ⟨⟨f0, f1, hz, own⟩, ti, ⟨a, b, to⟩, h1, h2⟩ := Z
  obtain ⟨o1, e1, r1⟩ := h1
  obtain ⟨o2, e2, r2⟩ := h2
  exact ⟨⟨f0, f1, e z (by simp) _ hz, own⟩, e TI (by simp) _ ti, ⟨a, b, e TO (by simp) _ to⟩, ⟨o1, e i1 (by simp) _ e1, r1⟩, ⟨o2, e i2 (by simp) _ e2, r2⟩⟩
theorem ext_str {h h' : Heap} {a b : Addr} {ty : String} {x : Str} {t : Tok} {i : Nat} (y : h.IsStrIter a ty x t i) (hs : Heap.SameBut b h h') (ne : a ≠ b) : h'.IsStrIter a ty x t i := y.extBut hs.extBut ne
/-- one turn of the zip -/
theorem zipS_item {z TI TO i1 i2 : Addr} {x y : Str} {tx ty : Tok} {k : Nat} {Q : Value → Shared → Prop} (hh : A.handled = none) (D : Apart z TI TO i1 i2) (Z : ZipS s.heap z TI TO i1 i2 x y tx ty k) (hx : k < x.cps.size) (hy : k < y.cps.size)
    (hQ : ∀ h' T tk u v, ZipS h' z TI TO i1 i2 x y tx ty (k + 1) → SgnAt x k u → SgnAt y k v → s.heap.objs.size ≤ T → IsPair h' T u v → (∀ c o, c ∉ [z, TO, i1, i2] → s.heap.get? c = some o → h'.get? c = some o) → Q (.ref T) { s with heap := h', toks := tk }) :
    wpAny (model prog w) A (Builtin.«zip.__next__» ⟨[.ref z], []⟩) (fun fin s' => ∃ v, fin = .done (.ret v) ∧ Q v s') E s := by
  obtain ⟨hp, g, d, tk0, os⟩ := s
  obtain ⟨⟨f0, f1, hz, own⟩, hTI, ⟨a, b, hTO⟩, h1, h2⟩ := Z
  show wpAny _ _ (field (.ref z) 2 >>= _) _ _ _
  refine wpAny_bind (wpAny_field hz rfl (x := .bool false) rfl ?_)
  show wpAny _ _ (field (.ref z) 3 >>= _) _ _ _
  refine wpAny_bind (wpAny_field hz rfl (x := .ref TI) rfl (wpAny_bind (wpAny_seqItems hTI rfl ?_)))
  show wpAny _ _ (Builtin.SmallTypes.ownedTupleIsFree (.ref z) >>= _) _ _ _
  refine wpAny_bind (own_free hz own fun r h1' g1 hz1 own1 sb1 => ?_)
  replace sb1 : Heap.SameBut z hp h1' := sb1
  have sz1 : h1'.objs.size = hp.objs.size := sb1.1
  have hTO1 : IsPair h1' TO a b := sb1.extBut _ _ D.a2 hTO
  have hTI1 : IsPair h1' TI (.ref i1) (.ref i2) := sb1.extBut _ _ D.a1 hTI
  have e1 := ext_str h1 sb1 D.a3
  have e2 := ext_str h2 sb1 D.a4
  cases r with
  | true =>
    simp only [if_true]
    refine wpAny_bind (wpAny_rule (wpAny_bind (wpAny_field hz1 rfl (x := .ref TO) rfl ?_)))
    refine wpAny_bind (wpAny_setField_rec hz1 (by simp) fun h3 hz3 sb3 => ?_)
    replace hz3 : ZipAt h3 z TI TO .ellipsis g1 := hz3
    replace sb3 : Heap.SameBut z h1' h3 := sb3
    refine wpAny_bind ?_
    simp only [List.zipIdx_cons, List.zipIdx_nil, List.forIn_cons, List.forIn_nil]
    refine wpAny_bind (wpAny_bind (wpAny_onRaise ?_))
    show wpAny _ _ (Builtin.SmallTypes.nextOf (.ref i1) >>= _) _ _ _
    refine wpAny_bind ((drawsStr hh i1 x tx).item k _ _ _ hx (ext_str e1 sb3 D.a3) fun u h4 tk4 hu st4 sb4 => wpAny_pure ?_)
    replace sb4 : Heap.SameBut i1 h3 h4 := sb4
    have hTO4 : IsPair h4 TO a b := sb4.extBut _ _ D.a8 (sb3.extBut _ _ D.a2 hTO1)
    refine wpAny_bind (wpAny_seqItems hTO4 rfl (wpAny_bind (wpAny_updateSeq_pair hTO4 fun h5 hTO5 sb5 => ?_)))
    replace hTO5 : IsPair h5 TO u b := hTO5
    replace sb5 : Heap.SameBut TO h4 h5 := sb5
    refine wpAny_bind (wpAny_letGo (wpAny_pure ?_))
    refine wpAny_bind (wpAny_bind (wpAny_onRaise ?_))
    show wpAny _ _ (Builtin.SmallTypes.nextOf (.ref i2) >>= _) _ _ _
    refine wpAny_bind ((drawsStr hh i2 y ty).item k _ _ _ hy (ext_str (ext_str (ext_str e2 sb3 D.a4) sb4 D.b1.symm) sb5 D.a9.symm) fun v h6 tk6 hv st6 sb6 => wpAny_pure ?_)
    replace sb6 : Heap.SameBut i2 h5 h6 := sb6
    have hTO6 : IsPair h6 TO u b := sb6.extBut _ _ D.a9 hTO5
    refine wpAny_bind (wpAny_seqItems hTO6 rfl (wpAny_bind (wpAny_updateSeq_pair hTO6 fun h7 hTO7 sb7 => ?_)))
    replace hTO7 : IsPair h7 TO u v := hTO7
    replace sb7 : Heap.SameBut TO h6 h7 := sb7
    refine wpAny_bind (wpAny_letGo (wpAny_pure (wpAny_pure ?_)))
    refine wpAny_bind (wpAny_seqItems hTO7 rfl (wpAny_bind (wpAny_newTuple ?_)))
    have sz7 : h7.objs.size = hp.objs.size := by rw [sb7.1, sb6.1, sb5.1, sb4.1, sb3.1, sz1]
    have hz7 : ZipAt h7 z TI TO .ellipsis g1 := sb7.extBut _ _ D.a2.symm (sb6.extBut _ _ D.a4.symm (sb5.extBut _ _ D.a2.symm (sb4.extBut _ _ D.a3.symm hz3)))
    show wpAny _ _ (Builtin.SmallTypes.ownedTupleHandOut (.ref z) (.ref h7.objs.size) >>= _) _ _ _
    refine wpAny_bind ?_
    unfold Builtin.SmallTypes.ownedTupleHandOut
    have hz8 : ZipAt (h7.push { cls := .type "tuple", data := .seq #[u, v] }) z TI TO .ellipsis g1 := Heap.get?_push_of_some _ hz7
    refine wpAny_bind (wpAny_setField_rec hz8 (by simp) fun h9 hz9 sb9 => ?_)
    replace hz9 : ZipAt h9 z TI TO (rawInt h7.objs.size) g1 := hz9
    refine wpAny_setField_rec hz9 (by simp) fun ha hza sba => ?_
    replace hza : ZipAt ha z TI TO (rawInt h7.objs.size) (.bool false) := hza
    have up : ∀ c o, c ≠ z → h7.get? c = some o → ha.get? c = some o := fun c o c1 e => sba.extBut _ _ c1 (sb9.extBut _ _ c1 (Heap.get?_push_of_some _ e))
    have zlt : z < h7.objs.size := Heap.lt_size hz7
    have hTa : IsPair ha h7.objs.size u v := sba.extBut _ _ (Nat.ne_of_gt zlt) (sb9.extBut _ _ (Nat.ne_of_gt zlt) (Heap.get?_push_size _ rfl))
    have far : ∀ c o, c ≠ z → c ≠ TO → c ≠ i1 → c ≠ i2 → hp.get? c = some o → h7.get? c = some o := fun c o c1 c2 c3 c4 e => sb7.extBut _ _ c2 (sb6.extBut _ _ c4 (sb5.extBut _ _ c2 (sb4.extBut _ _ c3 (sb3.extBut _ _ c1 (sb1.extBut _ _ c1 e)))))
    refine wpAny_pure ⟨_, rfl, hQ ha h7.objs.size tk6 u v ⟨⟨_, _, hza, .inr ⟨_, rfl⟩, false, rfl⟩, up _ _ D.a1 (far _ _ D.a1 D.a5 D.a6 D.a7 hTI), ⟨u, v, up _ _ D.a2 hTO7⟩, ?_, ?_⟩ hu hv (by rw [sz7]; exact Nat.le_refl _) hTa fun c o hc e => ?_⟩
    · obtain ⟨o, q, r⟩ := ext_str (ext_str (ext_str st4 sb5 D.a8.symm) sb6 D.b1) sb7 D.a8.symm
      exact ⟨o, up _ _ D.a3 q, r⟩
    · obtain ⟨o, q, r⟩ := ext_str st6 sb7 D.a9.symm
      exact ⟨o, up _ _ D.a4 q, r⟩
    · simp only [List.mem_cons, List.not_mem_nil, or_false, not_or] at hc
      exact up _ _ hc.1 (far c o hc.1 hc.2.1 hc.2.2.1 hc.2.2.2 e)
  | false =>
    simp only [Bool.false_eq_true, if_false]
    refine wpAny_bind ?_
    simp only [List.forIn_toArray, List.forIn_cons, List.forIn_nil]
    refine wpAny_bind (wpAny_bind (wpAny_holding ?_))
    show wpAny _ _ (Builtin.SmallTypes.nextOf (.ref i1) >>= _) _ _ _
    refine wpAny_bind ((drawsStr hh i1 x tx).item k _ _ _ hx e1 fun u h4 tk4 hu st4 sb4 => wpAny_pure ?_)
    replace sb4 : Heap.SameBut i1 h1' h4 := sb4
    refine wpAny_pure ?_
    refine wpAny_bind (wpAny_bind (wpAny_holding ?_))
    show wpAny _ _ (Builtin.SmallTypes.nextOf (.ref i2) >>= _) _ _ _
    refine wpAny_bind ((drawsStr hh i2 y ty).item k _ _ _ hy (ext_str e2 sb4 D.b1.symm) fun v h6 tk6 hv st6 sb6 => wpAny_pure ?_)
    replace sb6 : Heap.SameBut i2 h4 h6 := sb6
    refine wpAny_pure (wpAny_pure ?_)
    refine wpAny_bind (wpAny_newTuple ?_ (by show 2 ≤ sizeLine; exact sz2))
    have sz6 : h6.objs.size = hp.objs.size := by rw [sb6.1, sb4.1, sz1]
    have up : ∀ c o, h6.get? c = some o → (h6.push { cls := .type "tuple", data := .seq #[u, v] }).get? c = some o := fun c o e => Heap.get?_push_of_some _ e
    have far : ∀ c o, c ≠ i1 → c ≠ i2 → h1'.get? c = some o → h6.get? c = some o := fun c o c3 c4 e => sb6.extBut _ _ c4 (sb4.extBut _ _ c3 e)
    refine wpAny_pure ⟨_, rfl, hQ _ h6.objs.size tk6 u v ⟨⟨_, _, up _ _ (far _ _ D.a3.symm D.a4.symm hz1), own1⟩, up _ _ (far _ _ D.a6 D.a7 hTI1), ⟨a, b, up _ _ (far _ _ D.a8 D.a9 hTO1)⟩, ?_, ?_⟩ hu hv (by rw [sz6]; exact Nat.le_refl _) (Heap.get?_push_size _ rfl) fun c o hc e => ?_⟩
    · obtain ⟨o, q, r⟩ := ext_str st4 sb6 D.b1
      exact ⟨o, up _ _ q, r⟩
    · obtain ⟨o, q, r⟩ := st6
      exact ⟨o, up _ _ q, r⟩
    · simp only [List.mem_cons, List.not_mem_nil, or_false, not_or] at hc
      exact up _ _ (far c o hc.2.2.1 hc.2.2.2 (sb1.extBut _ _ hc.1 e))
/-- the end of the zip -/
theorem zipS_end {z TI TO i1 i2 : Addr} {x y : Str} {tx ty : Tok} {k : Nat} {Q : Fin → Shared → Prop} (hh : A.handled = none) (D : Apart z TI TO i1 i2) (Z : ZipS s.heap z TI TO i1 i2 x y tx ty k) (hend : k = x.cps.size ∨ (k < x.cps.size ∧ k = y.cps.size))
    (hE : ∀ h' e tk, (∀ c o, c ∉ [z, TO, i1, i2] → s.heap.get? c = some o → h'.get? c = some o) → (∃ o, h'.get? e = some o ∧ o.cls = .type "StopIteration") → E (.ref e) { s with heap := h', toks := tk }) :
    wpAny (model prog w) A (Builtin.«zip.__next__» ⟨[.ref z], []⟩) Q E s := by
  obtain ⟨hp, g, d, tk0, os⟩ := s
  obtain ⟨⟨f0, f1, hz, own⟩, hTI, ⟨a, b, hTO⟩, h1, h2⟩ := Z
  show wpAny _ _ (field (.ref z) 2 >>= _) _ _ _
  refine wpAny_bind (wpAny_field hz rfl (x := .bool false) rfl ?_)
  show wpAny _ _ (field (.ref z) 3 >>= _) _ _ _
  refine wpAny_bind (wpAny_field hz rfl (x := .ref TI) rfl (wpAny_bind (wpAny_seqItems hTI rfl ?_)))
  show wpAny _ _ (Builtin.SmallTypes.ownedTupleIsFree (.ref z) >>= _) _ _ _
  refine wpAny_bind (own_free hz own fun r h1' g1 hz1 own1 sb1 => ?_)
  replace sb1 : Heap.SameBut z hp h1' := sb1
  have hTO1 : IsPair h1' TO a b := sb1.extBut _ _ D.a2 hTO
  have e1 := ext_str h1 sb1 D.a3
  have e2 := ext_str h2 sb1 D.a4
  cases r with
  | true =>
    simp only [if_true]
    refine wpAny_bind (wpAny_rule (wpAny_bind (wpAny_field hz1 rfl (x := .ref TO) rfl ?_)))
    refine wpAny_bind (wpAny_setField_rec hz1 (by simp) fun h3 hz3 sb3 => ?_)
    replace hz3 : ZipAt h3 z TI TO .ellipsis g1 := hz3
    replace sb3 : Heap.SameBut z h1' h3 := sb3
    refine wpAny_bind ?_
    simp only [List.zipIdx_cons, List.zipIdx_nil, List.forIn_cons, List.forIn_nil]
    refine wpAny_bind (wpAny_bind (wpAny_onRaise ?_))
    show wpAny _ _ (Builtin.SmallTypes.nextOf (.ref i1) >>= _) _ _ _
    rcases hend with rfl | ⟨hx, rfl⟩
    · refine wpAny_bind ((drawsStr hh i1 x tx).done _ _ _ (ext_str e1 sb3 D.a3) fun h4 e sb4 he => ?_)
      obtain ⟨oe, hoe, hce⟩ := he
      replace sb4 : Heap.ExtBut i1 h3 h4 := sb4
      have hz4 : ZipAt h4 z TI TO .ellipsis g1 := sb4 _ _ D.a3.symm hz3
      have hez : e ≠ z := fun q => by subst q; rw [hz4] at hoe; cases hoe; simp at hce
      refine wpAny_setField_rec hz4 (by simp) fun h5 _ sb5 => hE h5 e tk0 (fun c o hc q => ?_) ⟨oe, sb5.extBut _ _ hez hoe, hce⟩
      simp only [List.mem_cons, List.not_mem_nil, or_false, not_or] at hc
      exact sb5.extBut _ _ hc.1 (sb4 _ _ hc.2.2.1 (sb3.extBut _ _ hc.1 (sb1.extBut _ _ hc.1 q)))
    · refine wpAny_bind ((drawsStr hh i1 x tx).item _ _ _ _ hx (ext_str e1 sb3 D.a3) fun u h4 tk4 hu st4 sb4 => wpAny_pure ?_)
      replace sb4 : Heap.SameBut i1 h3 h4 := sb4
      have hTO4 : IsPair h4 TO a b := sb4.extBut _ _ D.a8 (sb3.extBut _ _ D.a2 hTO1)
      refine wpAny_bind (wpAny_seqItems hTO4 rfl (wpAny_bind (wpAny_updateSeq_pair hTO4 fun h5 hTO5 sb5 => ?_)))
      replace sb5 : Heap.SameBut TO h4 h5 := sb5
      refine wpAny_bind (wpAny_letGo (wpAny_pure ?_))
      refine wpAny_bind (wpAny_bind (wpAny_onRaise ?_))
      show wpAny _ _ (Builtin.SmallTypes.nextOf (.ref i2) >>= _) _ _ _
      refine wpAny_bind ((drawsStr hh i2 y ty).done _ _ _ (ext_str (ext_str (ext_str e2 sb3 D.a4) sb4 D.b1.symm) sb5 D.a9.symm) fun h6 e sb6 he => ?_)
      obtain ⟨oe, hoe, hce⟩ := he
      replace sb6 : Heap.ExtBut i2 h5 h6 := sb6
      have hz6 : ZipAt h6 z TI TO .ellipsis g1 := sb6 _ _ D.a4.symm (sb5.extBut _ _ D.a2.symm (sb4.extBut _ _ D.a3.symm hz3))
      have hez : e ≠ z := fun q => by subst q; rw [hz6] at hoe; cases hoe; simp at hce
      refine wpAny_setField_rec hz6 (by simp) fun h7 _ sb7 => hE h7 e _ (fun c o hc q => ?_) ⟨oe, sb7.extBut _ _ hez hoe, hce⟩
      simp only [List.mem_cons, List.not_mem_nil, or_false, not_or] at hc
      exact sb7.extBut _ _ hc.1 (sb6 _ _ hc.2.2.2 (sb5.extBut _ _ hc.2.1 (sb4.extBut _ _ hc.2.2.1 (sb3.extBut _ _ hc.1 (sb1.extBut _ _ hc.1 q)))))
  | false =>
    simp only [Bool.false_eq_true, if_false]
    refine wpAny_bind ?_
    simp only [List.forIn_toArray, List.forIn_cons, List.forIn_nil]
    refine wpAny_bind (wpAny_bind (wpAny_holding ?_))
    show wpAny _ _ (Builtin.SmallTypes.nextOf (.ref i1) >>= _) _ _ _
    rcases hend with rfl | ⟨hx, rfl⟩
    · refine wpAny_bind ((drawsStr hh i1 x tx).done _ _ _ e1 fun h4 e sb4 he => hE h4 e tk0 (fun c o hc q => ?_) he)
      replace sb4 : Heap.ExtBut i1 h1' h4 := sb4
      simp only [List.mem_cons, List.not_mem_nil, or_false, not_or] at hc
      exact sb4 _ _ hc.2.2.1 (sb1.extBut _ _ hc.1 q)
    · refine wpAny_bind ((drawsStr hh i1 x tx).item _ _ _ _ hx e1 fun u h4 tk4 hu st4 sb4 => wpAny_pure ?_)
      replace sb4 : Heap.SameBut i1 h1' h4 := sb4
      refine wpAny_pure ?_
      refine wpAny_bind (wpAny_bind (wpAny_holding ?_))
      show wpAny _ _ (Builtin.SmallTypes.nextOf (.ref i2) >>= _) _ _ _
      refine wpAny_bind ((drawsStr hh i2 y ty).done _ _ _ (ext_str e2 sb4 D.b1.symm) fun h6 e sb6 he => hE h6 e _ (fun c o hc q => ?_) he)
      replace sb6 : Heap.ExtBut i2 h4 h6 := sb6
      simp only [List.mem_cons, List.not_mem_nil, or_false, not_or] at hc
      exact sb6 _ _ hc.2.2.2 (sb4.extBut _ _ hc.2.2.1 (sb1.extBut _ _ hc.1 q))
end
end Nm

set_option Elab.async false
set_option linter.all false
set_option maxRecDepth 100000
set_option maxHeartbeats 1000000
namespace Nm
open PySem PySem.Spec L2 PyProof.Rows
section
variable {prog : Program} {w : World} {A : Around} {E : Value → Shared → Prop} {s : Shared}
theorem nextZ_item {z TI TO i1 i2 : Addr} {x y : Str} {tx ty : Tok} {k : Nat} {Q : Value → Shared → Prop} (hh : A.handled = none) (D : Apart z TI TO i1 i2) (Z : ZipS s.heap z TI TO i1 i2 x y tx ty k) (hx : k < x.cps.size) (hy : k < y.cps.size)
    (hQ : ∀ h' T tk u v, ZipS h' z TI TO i1 i2 x y tx ty (k + 1) → SgnAt x k u → SgnAt y k v → s.heap.objs.size ≤ T → IsPair h' T u v → (∀ c o, c ∉ [z, TO, i1, i2] → s.heap.get? c = some o → h'.get? c = some o) → Q (.ref T) { s with heap := h', toks := tk }) :
    wpAny (model prog w) A (Builtin.SmallTypes.nextOf (.ref z)) Q E s := by
  have hT : s.TypeIs (.ref z) "zip" := by
    obtain ⟨f0, f1, hz, _⟩ := Z.z
    exact ⟨_, hz, rfl⟩
  unfold Builtin.SmallTypes.nextOf
  exact wpAny_bind (wpAny_callSpecial?_slot (name := Str.ofString "__next__") hT F.slot_zip_next (wpAny_call_entry F.slot_zip_next hT F.entry_zip_next (zipS_item (by simpa using hh) D Z hx hy fun h' T tk u v a1 a2 a3 a4 a5 a6 => wpAny_pure (hQ h' T tk u v a1 a2 a3 a4 a5 a6)) (F.args_zip_next_1 _)))
theorem nextZ_end {z TI TO i1 i2 : Addr} {x y : Str} {tx ty : Tok} {k : Nat} {Q : Value → Shared → Prop} (hh : A.handled = none) (D : Apart z TI TO i1 i2) (Z : ZipS s.heap z TI TO i1 i2 x y tx ty k) (hend : k = x.cps.size ∨ (k < x.cps.size ∧ k = y.cps.size))
    (hE : ∀ h' e tk, (∀ c o, c ∉ [z, TO, i1, i2] → s.heap.get? c = some o → h'.get? c = some o) → (∃ o, h'.get? e = some o ∧ o.cls = .type "StopIteration") → E (.ref e) { s with heap := h', toks := tk }) :
    wpAny (model prog w) A (Builtin.SmallTypes.nextOf (.ref z)) Q E s := by
  have hT : s.TypeIs (.ref z) "zip" := by
    obtain ⟨f0, f1, hz, _⟩ := Z.z
    exact ⟨_, hz, rfl⟩
  unfold Builtin.SmallTypes.nextOf
  exact wpAny_bind (wpAny_callSpecial?_slot (name := Str.ofString "__next__") hT F.slot_zip_next (wpAny_call_entry F.slot_zip_next hT F.entry_zip_next (zipS_end (by simpa using hh) D Z hend hE) (F.args_zip_next_1 _)))
theorem enumZ_item {e z TI TO i1 i2 : Addr} {x y : Str} {tx ty : Tok} {i : Nat} {old : Value} {Q : Option Value → Shared → Prop} (hh : A.handled = none) (D : Apart z TI TO i1 i2) (he : IsEnum s.heap e z i old) (Z : ZipS s.heap z TI TO i1 i2 x y tx ty i) (hef : e ∉ [z, TI, TO, i1, i2]) (hx : i < x.cps.size) (hy : i < y.cps.size)
    (hQ : ∀ h1 h' T R tk tk1 u v, SgnAt x i u → SgnAt y i v → s.heap.objs.size ≤ T → IsPair h1 T u v → (∀ c o, c ∉ [z, TO, i1, i2] → s.heap.get? c = some o → h1.get? c = some o) → R = h1.objs.size → (∀ c o, c ≠ e → h1.get? c = some o → h'.get? c = some o) →
      IsEnumOut h' e z ((i : Int) + 1) (.ref T) R → ZipS h' z TI TO i1 i2 x y tx ty (i + 1) → h'.get? R = some { cls := .type "tuple", data := .seq #[.int i tk1, .ref T] } → e < R → Q (some (.ref R)) { s with heap := h', toks := tk }) :
    wpAny (model prog w) A (pyNext (.ref e)) Q E s := by
  have hT : s.TypeIs (.ref e) "enumerate" := ⟨_, he, rfl⟩
  unfold pyNext
  refine wpAny_bind (wpAny_attempt (wpAny_callSpecial?_slot (name := Str.ofString "__next__") hT F.slot_enumerate_next (wpAny_call_entry F.slot_enumerate_next hT F.entry_enumerate_next ?_ (F.args_enumerate_next_1 _))))
  obtain ⟨hp, g, d, tk0, os⟩ := s
  have ne : ∀ c, c ∈ [z, TI, TO, i1, i2] → c ≠ e := fun c hc q => hef (q ▸ hc)
  have ne2 : e ∉ [z, TO, i1, i2] := fun q => hef (by
    simp only [List.mem_cons, List.not_mem_nil, or_false] at q ⊢
    rcases q with q | q | q | q
    · exact .inl q
    · exact .inr (.inr (.inl q))
    · exact .inr (.inr (.inr (.inl q)))
    · exact .inr (.inr (.inr (.inr q))))
  show wpAny _ _ (field (.ref e) 2 >>= _) _ _ _
  refine wpAny_bind (wpAny_field he rfl (x := .ref z) rfl ?_)
  refine wpAny_bind (nextZ_item (by simpa using hh) D Z hx hy fun h1 T tk u v Z1 hu hv hT1 hp1 far => ?_)
  have he1 : IsEnum h1 e z i old := far e _ ne2 he
  show wpAny _ _ (field (.ref e) 3 >>= _) _ _ ⟨h1, g, d, tk, os⟩
  refine wpAny_bind (wpAny_field he1 rfl (x := rawInt i) rfl ?_)
  show wpAny _ _ (field (.ref e) 4 >>= _) _ _ ⟨h1, g, d, tk, os⟩
  refine wpAny_bind (wpAny_field he1 rfl (x := .none) rfl ?_)
  show wpAny _ _ (mkInt i >>= _) _ _ ⟨h1, g, d, tk, os⟩
  refine wpAny_bind (wpAny_mkInt ?_)
  show wpAny _ _ (setField (.ref e) 3 (rawInt ((i : Int) + 1)) >>= _) _ _ ⟨h1, g, d, tk + 1, os⟩
  refine wpAny_bind (wpAny_setField_rec he1 (by simp) fun h2 he2 sb2 => ?_)
  replace sb2 : Heap.SameBut e h1 h2 := sb2
  replace he2 : IsEnum h2 e z ((i : Int) + 1) old := he2
  show wpAny _ _ (setField (.ref e) 4 .none >>= _) _ _ ⟨h2, g, d, tk + 1, os⟩
  refine wpAny_bind (wpAny_setField_rec he2 (by simp) fun h3 he3 sb3 => ?_)
  replace sb3 : Heap.SameBut e h2 h3 := sb3
  replace he3 : IsEnum h3 e z ((i : Int) + 1) old := he3
  show wpAny _ _ (newTuple [.int i tk, .ref T] >>= _) _ _ ⟨h3, g, d, tk + 1, os⟩
  refine wpAny_bind (wpAny_newTuple ?_)
  have he4 : IsEnum (h3.push { cls := .type "tuple", data := .seq #[.int i tk, .ref T] }) e z ((i : Int) + 1) old := Heap.get?_push_of_some _ he3
  have sz3 : h3.objs.size = h1.objs.size := by rw [sb3.1, sb2.1]
  have elt : e < h3.objs.size := Heap.lt_size he3
  show wpAny _ _ (Builtin.SmallTypes.ownedTupleIsFree (.ref e) >>= _) _ _ ⟨h3.push { cls := .type "tuple", data := .seq #[.int i tk, .ref T] }, g, d, tk + 1, os⟩
  refine wpAny_bind ?_
  unfold Builtin.SmallTypes.ownedTupleIsFree
  refine wpAny_bind (wpAny_field he4 rfl (x := .none) rfl (wpAny_pure ?_))
  simp only [if_true]
  refine wpAny_bind (wpAny_rule (wpAny_bind (wpAny_field he4 rfl (x := old) rfl ?_)))
  refine wpAny_bind (wpAny_setField_rec he4 (by simp) fun h5 he5 sb5 => ?_)
  replace sb5 : Heap.SameBut e _ h5 := sb5
  replace he5 : IsEnum h5 e z ((i : Int) + 1) (.ref T) := he5
  show wpAny _ _ (Builtin.SmallTypes.ownedTupleHandOut (.ref e) (.ref h3.objs.size) >>= _) _ _ ⟨h5, g, d, tk + 1, os⟩
  refine wpAny_bind ?_
  unfold Builtin.SmallTypes.ownedTupleHandOut
  refine wpAny_bind (wpAny_setField_rec he5 (by simp) fun h6 he6 sb6 => ?_)
  replace sb6 : Heap.SameBut e h5 h6 := sb6
  replace he6 : IsEnumOut h6 e z ((i : Int) + 1) (.ref T) h3.objs.size := he6
  refine wpAny_setField_rec he6 (by simp) fun h7 he7 sb7 => ?_
  replace sb7 : Heap.SameBut e h6 h7 := sb7
  replace he7 : IsEnumOut h7 e z ((i : Int) + 1) (.ref T) h3.objs.size := he7
  have up : ∀ c o, c ≠ e → (h3.push { cls := .type "tuple", data := .seq #[.int i tk, .ref T] }).get? c = some o → h7.get? c = some o := fun c o hc q => sb7.extBut _ _ hc (sb6.extBut _ _ hc (sb5.extBut _ _ hc q))
  have up1 : ∀ c o, c ≠ e → h1.get? c = some o → h7.get? c = some o := fun c o hc q => up c o hc (Heap.get?_push_of_some _ (sb3.extBut _ _ hc (sb2.extBut _ _ hc q)))
  refine wpAny_bind (wpAny_letGo (wpAny_pure ⟨_, rfl, wpAny_pure (hQ h1 h7 T h3.objs.size (tk + 1) tk u v hu hv hT1 hp1 far sz3 up1 he7 (Z1.keep fun b hb o q => up1 b o (ne b hb) q) (up _ _ (Nat.ne_of_gt elt) (Heap.get?_push_size _ rfl)) elt)⟩))
theorem enumZ_end {e z TI TO i1 i2 : Addr} {x y : Str} {tx ty : Tok} {i : Nat} {old : Value} {Q : Option Value → Shared → Prop} (hh : A.handled = none) (D : Apart z TI TO i1 i2) (he : IsEnum s.heap e z i old) (Z : ZipS s.heap z TI TO i1 i2 x y tx ty i) (hend : i = x.cps.size ∨ (i < x.cps.size ∧ i = y.cps.size))
    (hQ : ∀ h' tk, (∀ c o, c ∉ [z, TO, i1, i2] → s.heap.get? c = some o → h'.get? c = some o) → Q none { s with heap := h', toks := tk }) : wpAny (model prog w) A (pyNext (.ref e)) Q E s := by
  have hT : s.TypeIs (.ref e) "enumerate" := ⟨_, he, rfl⟩
  unfold pyNext
  refine wpAny_bind (wpAny_attempt (wpAny_callSpecial?_slot (name := Str.ofString "__next__") hT F.slot_enumerate_next (wpAny_call_entry F.slot_enumerate_next hT F.entry_enumerate_next ?_ (F.args_enumerate_next_1 _))))
  show wpAny _ _ (field (.ref e) 2 >>= _) _ _ _
  refine wpAny_bind (wpAny_field he rfl (x := .ref z) rfl ?_)
  refine wpAny_bind (nextZ_end (by simpa using hh) D Z hend fun h' ex tk far hx => ?_)
  obtain ⟨o, ho, hc⟩ := hx
  refine wpAny_bind (wpAny_isInstance (T := "StopIteration") (b := true) ⟨o, ho, hc⟩ isSubtype_stop ?_)
  exact wpAny_pure (hQ _ _ far)
end
end Nm

set_option Elab.async false
set_option linter.all false
set_option maxRecDepth 100000
set_option maxHeartbeats 2000000
namespace Nm
open PySem PySem.Spec L2 PyProof.Rows
abbrev sIt (x : Str) (t : Tok) : Obj := { cls := .type (strIterType x), data := .fields #[.str x t, .int 0 0] }
abbrev zh2 (h : Heap) (x y : Str) (t u : Tok) : Heap := (h.push (sIt x t)).push (sIt y u)
abbrev zh3 (h : Heap) (x y : Str) (t u : Tok) : Heap := (zh2 h x y t u).push { cls := .type "tuple", data := .seq #[.ref h.objs.size, .ref (h.push (sIt x t)).objs.size] }
abbrev zh4 (h : Heap) (x y : Str) (t u : Tok) : Heap := (zh3 h x y t u).push { cls := .type "tuple", data := .seq #[.none, .none] }
abbrev zh5 (h : Heap) (x y : Str) (t u : Tok) : Heap := (zh4 h x y t u).push { cls := .type "zip", data := .fields #[.none, .bool false, .bool false, .ref (zh2 h x y t u).objs.size, .ref (zh3 h x y t u).objs.size] }
theorem meets_zipS (x y : Str) (t u : Tok) : Meets (Builtin.«zip.__new__» ⟨[.type "zip", .str x t, .str y u], []⟩) (fun _ R s => R (.ok (.ret (.ref (zh4 s.heap x y t u).objs.size))) { s with heap := zh5 s.heap x y t u }) :=
  .of_wp fun prog w A R s h => by
    obtain ⟨hp, g, d, tk, os⟩ := s
    have hsub := sub_zip
    wp_walk using wpAny_pyIter_strU, wpAny_pyIter_strU
    exact ⟨_, rfl, h⟩
theorem meets_enumZ (z : Addr) (TI TO : Addr) : Meets (Builtin.«enumerate.__new__» ⟨[.type "enumerate", .ref z], []⟩) (fun _ R s => IsZip s.heap z TI TO .none ∧ R (.ok (.ret (.ref s.heap.objs.size))) { s with heap := s.heap.push { cls := .type "enumerate", data := .fields #[.none, .bool false, .ref z, rawInt 0, .none, .none] } }) :=
  .of_wp fun prog w A R s h => by
    obtain ⟨hp, g, d, tk, os⟩ := s
    obtain ⟨hz, h⟩ := h
    have hz' : IsZip (Shared.heap ⟨hp, g, d, tk, os⟩) z TI TO .none := hz
    have hsub := sub_enumerate
    wp_walk
    refine wpAny_stack_any fun st => wpAny_pure ?_
    split
    · rename_i c _ _ _ _ _
      cases (c == Value.type "enumerate")
      · wp_walk using wpAny_pyIter_zip hz'
        exact ⟨_, rfl, h⟩
      · wp_walk using wpAny_pyIter_zip hz'
        exact ⟨_, rfl, h⟩
    · wp_walk using wpAny_pyIter_zip hz'
      exact ⟨_, rfl, h⟩
section
variable {prog : Program} {w : World} {A : Around} {E : Value → Shared → Prop} {s : Shared}
theorem run_zipS {x y : Str} {t u : Tok} {Q : Value → Shared → Prop}
    (h : ∀ h', IsZip h' (s.heap.objs.size + 4) (s.heap.objs.size + 2) (s.heap.objs.size + 3) .none → ZipS h' (s.heap.objs.size + 4) (s.heap.objs.size + 2) (s.heap.objs.size + 3) s.heap.objs.size (s.heap.objs.size + 1) x y t u 0 → h'.objs.size = s.heap.objs.size + 5 →
      (∀ c o, s.heap.get? c = some o → h'.get? c = some o) → Q (.ref (s.heap.objs.size + 4)) { s with heap := h' }) :
    wpAny (model prog w) A (call (.type "zip") [.str x t, .str y u]) Q E s := by
  refine callType_new F.called_zip (by decide) (F.typeCall_zip_2 _ _) (F.newCall_zip_2 _ _) (fun obj => F.args_object_init_3 obj _ _) F.entry_zip_new (meets_zipS x y t u) ?_
  have z1 : (s.heap.push (sIt x t)).objs.size = s.heap.objs.size + 1 := Heap.size_push ..
  have z2 : (zh2 s.heap x y t u).objs.size = s.heap.objs.size + 2 := by rw [Heap.size_push, z1]
  have z3 : (zh3 s.heap x y t u).objs.size = s.heap.objs.size + 3 := by rw [Heap.size_push, z2]
  have z4 : (zh4 s.heap x y t u).objs.size = s.heap.objs.size + 4 := by rw [Heap.size_push, z3]
  have z5 : (zh5 s.heap x y t u).objs.size = s.heap.objs.size + 5 := by rw [Heap.size_push, z4]
  have p5 : (zh5 s.heap x y t u).get? (zh4 s.heap x y t u).objs.size = some _ := Heap.get?_push_size _ rfl
  have p4 : (zh5 s.heap x y t u).get? (zh3 s.heap x y t u).objs.size = some _ := Heap.get?_push_of_some _ (Heap.get?_push_size _ rfl)
  have p3 : (zh5 s.heap x y t u).get? (zh2 s.heap x y t u).objs.size = some _ := Heap.get?_push_of_some _ (Heap.get?_push_of_some _ (Heap.get?_push_size _ rfl))
  have p2 : (zh5 s.heap x y t u).get? (s.heap.push (sIt x t)).objs.size = some _ := Heap.get?_push_of_some _ (Heap.get?_push_of_some _ (Heap.get?_push_of_some _ (Heap.get?_push_size _ rfl)))
  have p1 : (zh5 s.heap x y t u).get? s.heap.objs.size = some _ := Heap.get?_push_of_some _ (Heap.get?_push_of_some _ (Heap.get?_push_of_some _ (Heap.get?_push_of_some _ (Heap.get?_push_size _ rfl))))
  show _ ∧ _
  rw [z2, z3, z4] at p5
  rw [z1, z2] at p3
  rw [z3] at p4
  rw [z1] at p2
  rw [z4]
  exact ⟨⟨_, p5, rfl⟩, h _ p5 ⟨⟨_, _, p5, .inl rfl, false, rfl⟩, p3, ⟨_, _, p4⟩, ⟨_, p1, rfl, rfl⟩, ⟨_, p2, rfl, rfl⟩⟩ z5 fun c o q => Heap.get?_push_of_some _ (Heap.get?_push_of_some _ (Heap.get?_push_of_some _ (Heap.get?_push_of_some _ (Heap.get?_push_of_some _ q))))⟩
theorem run_enumZ {z TI TO : Addr} {Q : Value → Shared → Prop} (hz : IsZip s.heap z TI TO .none)
    (h : ∀ h', IsEnum h' s.heap.objs.size z 0 .none → h'.objs.size = s.heap.objs.size + 1 → (∀ b o, s.heap.get? b = some o → h'.get? b = some o) → Q (.ref s.heap.objs.size) { s with heap := h' }) :
    wpAny (model prog w) A (call (.type "enumerate") [.ref z]) Q E s := by
  refine callType_new F.called_enumerate (by decide) (F.typeCall_enumerate_1 _) (F.newCall_enumerate_1 _) (fun obj => F.args_object_init_2 obj _) F.entry_enumerate_new (meets_enumZ z TI TO) ⟨hz, ?_⟩
  have he : IsEnum (s.heap.push { cls := .type "enumerate", data := .fields #[.none, .bool false, .ref z, rawInt 0, .none, .none] }) s.heap.objs.size z 0 .none := Heap.get?_push_size _ rfl
  exact ⟨⟨_, he, rfl⟩, h _ he (Heap.size_push ..) fun b o q => Heap.get?_push_of_some _ q⟩
end
end Nm

set_option Elab.async false
set_option linter.all false
set_option maxRecDepth 100000
set_option maxHeartbeats 1000000
namespace Nm
open PySem PySem.Spec L2 PyProof.Rows
/-! ### enumerate(zip(text, text)) -/
def ItEZ (x y : Str) : It :=
  ⟨fun i _ => i < x.cps.size ∧ i < y.cps.size, fun i H v H' => ∃ T R c d, v = .ref R ∧ H T = none ∧ H R = none ∧ R ≠ T ∧ x.cps[i]? = some c ∧ y.cps[i]? = some d ∧ H' = upd (upd H T (.tup [.str ⟨#[c]⟩, .str ⟨#[d]⟩])) R (.tup [.int (i : Nat), .ref T]),
    fun i _ => i = x.cps.size ∨ (i < x.cps.size ∧ i = y.cps.size)⟩
theorem fp_none {X : Cx} {pins : List (Addr × Obj)} {H : Hp} {b T : Addr} {o : HO} (h : FpOk X pins H b) (ne : b ≠ T) : FpOk X pins (upd H T o) b := ⟨by rw [upd_ne ne]; exact h.1, h.2⟩
theorem turn_enumZ {P : Program} {w : World} {K : PySem.W.Frag} {elts : List Expr} {kk : Nat} {tpos : Pos} {e z TI TO i1 i2 : Addr} {x y : Str} {tx ty : Tok} (D : Apart z TI TO i1 i2) (hef : e ∉ [z, TI, TO, i1, i2]) :
    Turn P w K (.Tuple elts kk tpos) (ItEZ x y) [e, z, TI, TO, i1, i2] e (fun i h => (∃ old, IsEnum h e z ((i : Nat) : Int) old) ∧ ZipS h z TI TO i1 i2 x y tx ty i) where
  mem := by simp
  obj := fun i h st b hb => by
    obtain ⟨⟨old, he⟩, ⟨⟨f0, f1, hz, _⟩, ti, ⟨a, c, to⟩, ⟨o1, e1, _, d1⟩, ⟨o2, e2, _, d2⟩⟩⟩ := st
    simp only [List.mem_cons, List.not_mem_nil, or_false] at hb
    rcases hb with rfl | rfl | rfl | rfl | rfl | rfl
    · exact ⟨_, he, fun v q => nomatch q⟩
    · exact ⟨_, hz, fun v q => nomatch q⟩
    · exact ⟨_, ti, fun v q => nomatch q⟩
    · exact ⟨_, to, fun v q => nomatch q⟩
    · exact ⟨_, e1, fun v q => by rw [d1] at q; cases q⟩
    · exact ⟨_, e2, fun v q => by rw [d2] at q; cases q⟩
  keep := fun i h h' st k => by
    obtain ⟨⟨old, he⟩, Z⟩ := st
    exact ⟨⟨old, k e (by simp) _ he⟩, Z.keep fun b hb o q => k b (List.mem_cons_of_mem _ hb) o q⟩
  item := by
    intro X hP hw hK hc i pins s σ H E I hf st hg
    subst hP hw hK
    obtain ⟨⟨old, he⟩, Z⟩ := st
    have sub : ∀ b, b ∈ [z, TO, i1, i2] → b ∈ [e, z, TI, TO, i1, i2] := fun b hb => by
      simp only [List.mem_cons, List.not_mem_nil, or_false] at hb ⊢
      rcases hb with q | q | q | q <;> simp [q]
    have lt : ∀ b, b ∈ [e, z, TI, TO, i1, i2] → b < s.heap.objs.size := fun b hb => by
      obtain ⟨⟨f0, f1, hz, _⟩, ti, ⟨a, c, to⟩, ⟨o1, e1, _⟩, ⟨o2, e2, _⟩⟩ := Z
      simp only [List.mem_cons, List.not_mem_nil, or_false] at hb
      rcases hb with rfl | rfl | rfl | rfl | rfl | rfl
      · exact Heap.lt_size he
      · exact Heap.lt_size hz
      · exact Heap.lt_size ti
      · exact Heap.lt_size to
      · exact Heap.lt_size e1
      · exact Heap.lt_size e2
    refine enumZ_item (I.ok.hd hc) D he Z hef hg.1 hg.2 fun h1 h2 T R tk tk1 u v hu hv hT hp1 far hR up he2 Z2 hR2 elt => ?_
    obtain ⟨c, t1, hcx, rfl⟩ := hu
    obtain ⟨d, t2, hdy, rfl⟩ := hv
    refine ⟨_, rfl, wpAny_letOwnedTupleGo_enum (s := { s with heap := h2, toks := tk }) he2 fun h3 he3 sb => ?_⟩
    have eT : e ≠ T := Nat.ne_of_lt (Nat.lt_of_lt_of_le (lt e (by simp)) hT)
    have Tlt : T < h1.objs.size := Heap.lt_size hp1
    have new1 : ObjOk X.prog X.w (upd H T (.tup [.str ⟨#[c]⟩, .str ⟨#[d]⟩])) h1 T (.tup [.str ⟨#[c]⟩, .str ⟨#[d]⟩]) := ⟨sz2, [.str ⟨#[c]⟩ t1, .str ⟨#[d]⟩ t2], .cons ⟨_, rfl⟩ (.cons ⟨_, rfl⟩ .nil), ⟨_, hp1, rfl, _, rfl⟩⟩
    have I1 : L2.Inv X pins σ (upd H T (.tup [.str ⟨#[c]⟩, .str ⟨#[d]⟩])) { s with heap := h1, toks := tk } := I.turnedNew (ch := [z, TO, i1, i2]) far (fun b hb => hf b (sub b hb)) hT new1
    have hR3 : h3.get? R = some { cls := .type "tuple", data := .seq #[.int i tk1, .ref T] } := sb.extBut _ _ (Nat.ne_of_gt elt) hR2
    have new2 : ObjOk X.prog X.w (upd (upd H T (.tup [.str ⟨#[c]⟩, .str ⟨#[d]⟩])) R (.tup [.int (i : Nat), .ref T])) h3 R (.tup [.int (i : Nat), .ref T]) := ⟨sz2, [.int i tk1, .ref T], .cons ⟨_, rfl⟩ (.cons rfl .nil), ⟨_, hR3, rfl, _, rfl⟩⟩
    have I2 : L2.Inv X pins σ (upd (upd H T (.tup [.str ⟨#[c]⟩, .str ⟨#[d]⟩])) R (.tup [.int (i : Nat), .ref T])) { s with heap := h3, toks := tk } :=
      I1.turnedNew (ch := [e]) (fun b o hb q => sb.extBut _ _ (by simpa using hb) (up b o (by simpa using hb) q)) (fun b hb => by
        have eb : b = e := by simpa using hb
        subst eb
        exact fp_none (hf b (by simp)) eT) (by rw [hR]; exact Nat.le_refl _) new2
    have ne : R ≠ T := by rw [hR]; exact Nat.ne_of_gt Tlt
    have hHT : H T = none := I.hok.fresh hT
    have hHR : H R = none := by
      have := I1.hok.fresh (a := R) (by rw [hR]; exact Nat.le_refl _)
      rw [upd_ne ne] at this
      exact this
    refine ⟨.ref R, _, I2, rfl, ⟨T, R, c, d, rfl, hHT, hHR, ne, hcx, hdy, rfl⟩, ⟨⟨.ref T, ?_⟩, Z2.keep fun b hb o q => sb.extBut _ _ (fun z => hef (z ▸ hb)) q⟩, fun b hb => ?_⟩
    · have e1 : ((i + 1 : Nat) : Int) = (i : Int) + 1 := by omega
      rw [e1]; exact he3
    · have l1 := lt b hb
      have b1 : b ≠ T := Nat.ne_of_lt (Nat.lt_of_lt_of_le l1 hT)
      have b2 : b ≠ R := by rw [hR]; exact Nat.ne_of_lt (Nat.lt_of_lt_of_le l1 (Nat.le_trans hT (Nat.le_of_lt Tlt)))
      rw [upd_ne b2, upd_ne b1]
      exact (hf b hb).1
  done := by
    intro X hP hw hK hc i pins s σ H E I hf st hg
    subst hP hw hK
    obtain ⟨⟨old, he⟩, Z⟩ := st
    have sub : ∀ b, b ∈ [z, TO, i1, i2] → b ∈ [e, z, TI, TO, i1, i2] := fun b hb => by
      simp only [List.mem_cons, List.not_mem_nil, or_false] at hb ⊢
      rcases hb with q | q | q | q <;> simp [q]
    exact enumZ_end (I.ok.hd hc) D he Z hg fun h' tk far => ⟨rfl, I.turnedL (t' := tk) (ch := [z, TO, i1, i2]) far (fun b hb => hf b (sub b hb))⟩
  self := fun A i s Q E st h => let ⟨⟨_, he⟩, _⟩ := st; wpAny_pyIter_enum he h
def iEnumZ (ta : TA) : TI := fun σ H R => ta σ H fun vs H1 => ∃ x y, vs = [.str x, .str y] ∧ R (ItEZ x y) H1
theorem pi_enumZ {X : Cx} {a b : Expr} {ta : TA} {p p2 q pos tpos : Pos} {elts : List Expr} {kk : Nat} (hg : Gl X "enumerate") (hm : X.mg "enumerate" = none) (hg2 : Gl X "zip") (hm2 : X.mg "zip" = none) (ha : PA X [a, b] ta)
    (hs : starEach [a, b] X.env = (false, eval a X.env) :: starEach [b] X.env := by rfl) (hpl : (backTo q (starEach [b] X.env)).any (·.1) = false := by rfl)
    (na : starEach [Expr.Call (.Name "zip" p2) [a, b] [] q] X.env = (false, eval (Expr.Call (.Name "zip" p2) [a, b] [] q) X.env) :: starEach [] X.env := by rfl) :
    PI X (.Tuple elts kk tpos) (.Call (.Name "enumerate" p) [.Call (.Name "zip" p2) [a, b] [] q] [] pos) (iEnumZ ta) := by
  refine ⟨fun pins s σ H R I h => ?_⟩
  refine Call_ (ld_blt I hg hm boot_enumerate (callWith_type1 (args_cons ?_ na) na rfl))
  refine Call_ (ld_blt I hg2 hm2 boot_zip (callWith_type1 (thn (ha.run q pins s σ H _ I h) fun us s1 ⟨vs, H1, I1, r1, q1⟩ => ?_) hs hpl))
  obtain ⟨x, y, ex, qq⟩ := q1
  subst ex
  cases r1 with
  | cons r rr =>
    cases rr with
    | cons r' rr =>
      cases rr
      obtain ⟨tx, rfl⟩ := r
      obtain ⟨ty, rfl⟩ := r'
      refine run_zipS fun h' hz Z hsz hk => args_nil (run_enumZ hz fun h2 he hsz2 hk2 => wpAny_pyIter_enum he ?_)
      have I2 : L2.Inv X pins σ H1 { s1 with heap := h2 } := I1.kept (t' := s1.toks) fun b o e => hk2 b o (hk b o e)
      have n : ∀ i j : Nat, i ≠ j → s1.heap.objs.size + i ≠ s1.heap.objs.size + j := fun i j h z => h (Nat.add_left_cancel z)
      have esz : Shared.heap { s1 with heap := h' } = h' := rfl
      rw [esz, hsz] at he
      refine ⟨h'.objs.size, [h'.objs.size, s1.heap.objs.size + 4, s1.heap.objs.size + 2, s1.heap.objs.size + 3, s1.heap.objs.size, s1.heap.objs.size + 1], _, _, H1, rfl, I2, turn_enumZ ⟨n 2 4 (by decide), n 3 4 (by decide), n 0 4 (by decide), n 1 4 (by decide), n 2 3 (by decide), n 2 0 (by decide), n 2 1 (by decide), n 3 0 (by decide), n 3 1 (by decide), n 0 1 (by decide)⟩ ?_, ⟨⟨.none, by rw [hsz]; exact he⟩, Z.keep fun b hb o e => hk2 b o e⟩, fun c hcm => ?_, qq⟩
      · rw [hsz]
        simp only [List.mem_cons, List.not_mem_nil, or_false, not_or]
        exact ⟨n 5 4 (by decide), n 5 2 (by decide), n 5 3 (by decide), n 5 0 (by decide), n 5 1 (by decide)⟩
      · have hle : s1.heap.objs.size ≤ c := by
          simp only [List.mem_cons, List.not_mem_nil, or_false] at hcm
          rcases hcm with z | z | z | z | z | z
          · rw [z, hsz]; exact Nat.le_add_right _ _
          · rw [z]; exact Nat.le_add_right _ _
          · rw [z]; exact Nat.le_add_right _ _
          · rw [z]; exact Nat.le_add_right _ _
          · rw [z]; exact Nat.le_refl _
          · rw [z]; exact Nat.le_add_right _ _
        exact I1.fpOk hle (I1.hok.fresh hle)
/-! ### enumerate(text) -/
def ItES (x : Str) : It :=
  ⟨fun i _ => i < x.cps.size, fun i H v H' => ∃ T c, v = .ref T ∧ H T = none ∧ x.cps[i]? = some c ∧ H' = upd H T (.tup [.int (i : Nat), .str ⟨#[c]⟩]), fun i _ => i = x.cps.size⟩
theorem turn_enumS {P : Program} {w : World} {K : PySem.W.Frag} {elts : List Expr} {kk : Nat} {tpos : Pos} {e it : Addr} {x : Str} {tx : Tok} (hne : e ≠ it) :
    Turn P w K (.Tuple elts kk tpos) (ItES x) [e, it] e (fun i h => (∃ old, IsEnum h e it ((i : Nat) : Int) old) ∧ h.IsStrIter it (strIterType x) x tx i) where
  mem := by simp
  obj := fun i h st b hb => by
    obtain ⟨⟨old, he⟩, ⟨o, ho, _, d⟩⟩ := st
    simp only [List.mem_cons, List.not_mem_nil, or_false] at hb
    rcases hb with rfl | rfl
    · exact ⟨_, he, fun v q => nomatch q⟩
    · exact ⟨_, ho, fun v q => by rw [d] at q; cases q⟩
  keep := fun i h h' st k => by
    obtain ⟨⟨old, he⟩, ⟨o, ho, r⟩⟩ := st
    exact ⟨⟨old, k e (by simp) _ he⟩, ⟨o, k it (by simp) _ ho, r⟩⟩
  item := by
    intro X hP hw hK hc i pins s σ H E I hf st hg
    subst hP hw hK
    obtain ⟨⟨old, he⟩, hit⟩ := st
    have el : e < s.heap.objs.size := Heap.lt_size he
    have il : it < s.heap.objs.size := by obtain ⟨_, q, _⟩ := hit; exact Heap.lt_size q
    refine wpAny_pyNext_enum_itemD (drawsStr (A := X.A.in1) (by simpa using I.ok.hd hc) it x tx) he hit hg hne (by simpa using hne) fun v h1 tk hv ho hit' hT hsz hk => ?_
    obtain ⟨c, t1, hcx, rfl⟩ := hv
    refine ⟨_, rfl, wpAny_letOwnedTupleGo_enum (s := { s with heap := h1, toks := tk + 1 }) ho fun h2 he' sb => ?_⟩
    have hT2 : h2.get? s.heap.objs.size = some { cls := .type "tuple", data := .seq #[.int i tk, .str ⟨#[c]⟩ t1] } := sb.extBut _ _ (Nat.ne_of_gt el) hT
    have new : ObjOk X.prog X.w (upd H s.heap.objs.size (.tup [.int (i : Nat), .str ⟨#[c]⟩])) h2 s.heap.objs.size (.tup [.int (i : Nat), .str ⟨#[c]⟩]) := ⟨sz2, [.int i tk, .str ⟨#[c]⟩ t1], .cons ⟨_, rfl⟩ (.cons ⟨_, rfl⟩ .nil), ⟨_, hT2, rfl, _, rfl⟩⟩
    have I1 : L2.Inv X pins σ (upd H s.heap.objs.size (.tup [.int (i : Nat), .str ⟨#[c]⟩])) { s with heap := h2, toks := tk + 1 } :=
      I.turnedNew (ch := [e, it]) (fun b o hb q => sb.extBut _ _ (fun z => hb (by simp [z])) (hk b o (fun z => hb (by simp [z])) (fun z => hb (by simp [z])) q)) hf (Nat.le_refl _) new
    refine ⟨.ref s.heap.objs.size, _, I1, rfl, ⟨_, c, rfl, I.hok.fresh (Nat.le_refl _), hcx, rfl⟩, ⟨⟨.str ⟨#[c]⟩ t1, ?_⟩, ext_str hit' sb (Ne.symm hne)⟩, fun b hb => ?_⟩
    · have e1 : ((i + 1 : Nat) : Int) = (i : Int) + 1 := by omega
      rw [e1]; exact he'
    · have lb : b < s.heap.objs.size := by
        simp only [List.mem_cons, List.not_mem_nil, or_false] at hb
        rcases hb with z | z
        · rw [z]; exact el
        · rw [z]; exact il
      rw [upd_ne (Nat.ne_of_lt lb)]
      exact (hf b hb).1
  done := by
    intro X hP hw hK hc i pins s σ H E I hf st hg
    subst hP hw hK
    obtain ⟨⟨old, he⟩, hit⟩ := st
    have hg : i = x.cps.size := hg
    subst hg
    obtain ⟨f0, f1, f2, f3, f4, f5⟩ := hf it (by simp)
    exact wpAny_pyNext_enum_endD (drawsStr (A := X.A.in1) (by simpa using I.ok.hd hc) it x tx) he hit fun h' eb => ⟨rfl, I.turned (t' := s.toks) (fun b o hb q => eb b o hb q) f0 f1 f3 f4 f5⟩
  self := fun A i s Q E st h => let ⟨⟨_, he⟩, _⟩ := st; wpAny_pyIter_enum he h
def iEnumS (ta : TA) : TI := fun σ H R => ta σ H fun vs H1 => ∃ x, vs = [.str x] ∧ R (ItES x) H1
theorem pi_enumS {X : Cx} {e : Expr} {ta : TA} {p pos tpos : Pos} {elts : List Expr} {kk : Nat} (hg : Gl X "enumerate") (hm : X.mg "enumerate" = none) (ha : PA X [e] ta) (hs : starEach [e] X.env = [(false, eval e X.env)] := by rfl) :
    PI X (.Tuple elts kk tpos) (.Call (.Name "enumerate" p) [e] [] pos) (iEnumS ta) := by
  refine ⟨fun pins s σ H R I h => ?_⟩
  refine Call_ (ld_blt I hg hm boot_enumerate (callWith_type1 (thn (ha.run pos pins s σ H _ I h) fun us s1 ⟨vs, H1, I1, r1, q1⟩ => ?_) hs rfl))
  obtain ⟨x, ex, q⟩ := q1
  subst ex
  cases r1 with
  | cons r rr =>
    cases rr
    obtain ⟨tx, rfl⟩ := r
    refine call_enumerate_str fun h' he hit hsz hk => wpAny_pyIter_enum he ?_
    have I2 : L2.Inv X pins σ H1 { s1 with heap := h' } := I1.kept (t' := s1.toks) hk
    refine ⟨s1.heap.objs.size + 1, [s1.heap.objs.size + 1, s1.heap.objs.size], _, _, H1, rfl, I2, turn_enumS (Nat.succ_ne_self _), ⟨⟨.none, he⟩, hit⟩, fun b hb => ?_, q⟩
    have hle : s1.heap.objs.size ≤ b := by
      simp only [List.mem_cons, List.not_mem_nil, or_false] at hb
      rcases hb with z | z
      · rw [z]; exact Nat.le_add_right _ _
      · rw [z]; exact Nat.le_refl _
    exact I1.fpOk hle (I1.hok.fresh hle)
/-! ### by data -/
theorem DenK.getV {K : PySem.W.Frag} {F : Hp} : ∀ {kvs : List (Key × V)} {es : List (Key × D)} {i : Nat} {k : Key} {v : V}, DenK K F kvs es → kvs[i]? = some (k, v) → ∃ d, es[i]? = some (k, d) ∧ Den K F v d
  | _, _, _, _, _, .nil, e => by simp at e
  | _, _, 0, _, _, .cons h _, e => by simp at e; obtain ⟨rfl, rfl⟩ := e; exact ⟨_, rfl, h⟩
  | _, _, i + 1, _, _, .cons _ t, e => by
    obtain ⟨d, h1, h2⟩ := DenK.getV (i := i) t (by simpa using e)
    exact ⟨d, by simpa using h1, h2⟩
section
variable {K : PySem.W.Frag} {F H : Hp} {σ : L2.St} {ta : TA} {te : TE}
/-- (0, c), (1, d), .. -/
def enumD (l : List D) : List D := l.zipIdx.map fun p => .tup [.int (p.2 : Nat), p.1]
def zipC : List Nat → List Nat → List (Nat × Nat) := List.zip
theorem ei_enumS {l : List Nat} {d : D} (h : EvA K ta σ F [d]) (e : d = txt l) : EvI K (iEnumS ta) σ F ((List.range l.length).map fun i => .tup [.int (i : Nat), .str ⟨#[l.getD i 0]⟩]) := fun H s R q => h H s _ fun vs F1 H1 x1 dl => by
  subst e
  cases dl with
  | cons a t =>
    cases t; cases a
    refine ⟨_, rfl, q _ F1 H1 x1 ⟨fun _ => True, fun i H v H' => ∃ T c, v = .ref T ∧ H T = none ∧ l[i]? = some c ∧ H' = upd H T (.tup [.int (i : Nat), .str ⟨#[c]⟩]), ⟨fun i H hi _ => ?_, fun H _ => ?_, fun i H x H' hi _ y => ?_⟩, fun _ _ => trivial, fun i H v H' hi s y => ?_⟩⟩
    · rw [List.length_map, List.length_range] at hi
      show i < l.toArray.size
      simpa using hi
    · rw [List.length_map, List.length_range]
      show l.length = l.toArray.size
      simp
    · obtain ⟨T, c, h1, h2, h3, h4⟩ := y
      exact ⟨T, c, h1, h2, by simpa using h3, h4⟩
    · obtain ⟨T, c, rfl, h2, h3, rfl⟩ := y
      have lt := (List.getElem?_eq_some_iff.mp h3).1
      refine ⟨_, upd F1 T (.tup [.int (i : Nat), .str ⟨#[c]⟩]), ?_, Ext.new s h2, .tup (SqT.of upd_same) (.cons (.int _) (.cons (.str _) .nil))⟩
      rw [List.getElem?_map, List.getElem?_range lt, Option.map_some, List.getD_eq_getElem?_getD, h3]
      rfl
theorem ei_enumZ {l m : List Nat} {d e : D} (h : EvA K ta σ F [d, e]) (e1 : d = txt l) (e2 : e = txt m) : EvI K (iEnumZ ta) σ F ((List.range (min l.length m.length)).map fun i => .tup [.int (i : Nat), .tup [.str ⟨#[l.getD i 0]⟩, .str ⟨#[m.getD i 0]⟩]]) := fun H s R q => h H s _ fun vs F1 H1 x1 dl => by
  subst e1; subst e2
  cases dl with
  | cons a t =>
    cases t with
    | cons b t =>
      cases t; cases a; cases b
      refine ⟨_, _, rfl, q _ F1 H1 x1 ⟨fun _ => True, fun i H v H' => ∃ T R c d, v = .ref R ∧ H T = none ∧ H R = none ∧ R ≠ T ∧ l[i]? = some c ∧ m[i]? = some d ∧ H' = upd (upd H T (.tup [.str ⟨#[c]⟩, .str ⟨#[d]⟩])) R (.tup [.int (i : Nat), .ref T]), ⟨fun i H hi _ => ?_, fun H _ => ?_, fun i H x H' hi _ y => ?_⟩, fun _ _ => trivial, fun i H v H' hi s y => ?_⟩⟩
      · rw [List.length_map, List.length_range] at hi
        show i < l.toArray.size ∧ i < m.toArray.size
        simp only [List.size_toArray]
        omega
      · rw [List.length_map, List.length_range]
        show min l.length m.length = l.toArray.size ∨ (min l.length m.length < l.toArray.size ∧ min l.length m.length = m.toArray.size)
        simp only [List.size_toArray]
        omega
      · obtain ⟨T, R, c, d, h1, h2, h3, h4, h5, h6, h7⟩ := y
        exact ⟨T, R, c, d, h1, h2, h3, h4, by simpa using h5, by simpa using h6, h7⟩
      · obtain ⟨T, R, c, d, rfl, h2, h3, ne, h5, h6, rfl⟩ := y
        have lt1 := (List.getElem?_eq_some_iff.mp h5).1
        have lt2 := (List.getElem?_eq_some_iff.mp h6).1
        have y1 := Ext.new (o := .tup [.str ⟨#[c]⟩, .str ⟨#[d]⟩]) s h2
        have h3' : upd H T (.tup [.str ⟨#[c]⟩, .str ⟨#[d]⟩]) R = none := by rw [upd_ne ne]; exact h3
        have y2 := Ext.new (o := .tup [.int (i : Nat), .ref T]) y1.s h3'
        refine ⟨_, _, ?_, y1.tr y2, .tup (SqT.of upd_same) (.cons (.int _) (.cons (.tup (ds := [.str ⟨#[c]⟩, .str ⟨#[d]⟩]) (SqT.of (y2.f _ _ upd_same)) (.cons (.str _) (.cons (.str _) .nil))) .nil))⟩
        rw [List.getElem?_map, List.getElem?_range (by omega), Option.map_some, List.getD_eq_getElem?_getD, List.getD_eq_getElem?_getD, h5, h6]
        rfl
/-- for k, v in d.items() -/
theorem ei_items {es : List (Key × D)} (h : EvD K te σ F (.dic es)) : EvI K (iItems te) σ F (es.map fun e => .tup [kD e.1, e.2]) := fun H s R q => h H s _ fun v F1 H1 x1 d1 => by
  cases d1 with
  | dic hh l =>
    rename_i a o kvs
    refine ⟨a, o, kvs, rfl, x1.s _ _ hh, q _ F1 H1 x1 ⟨fun H => H a = some (.frz o (.dK kvs)), YPair (fun i => kvs[i]?.map fun kv => kV kv.1) (fun i => kvs[i]?.map Prod.snd), ?_, fun H s => s _ _ hh, fun i H x H' hi s y => ?_⟩⟩
    · rw [List.length_map, ← l.length]; exact walk_items
    · obtain ⟨T, x1, x2, rfl, h2, rfl, h3, h4⟩ := y
      obtain ⟨⟨k, v⟩, g1, g2⟩ := Option.map_eq_some_iff.mp h3
      have h4 : kvs[i]?.map Prod.snd = some x2 := h4
      rw [g1] at h4
      have h4 : v = x2 := by simpa using h4
      have g2 : kV k = x1 := g2
      subst h4; subst g2
      have gk : ∃ d, es[i]? = some (k, d) ∧ Den K F1 v d := by
        have e := DenK.getV l g1
        exact e
      obtain ⟨d, e1, e2⟩ := gk
      have y1 := Ext.new (o := .tup [kV k, v]) s h2
      have e2' : Den K (upd F1 T (.tup [kV k, v])) v d := e2.up y1.f
      refine ⟨.tup [kD k, d], _, by rw [List.getElem?_map, e1]; rfl, y1, .tup (SqT.of upd_same) (.cons ?_ (.cons e2' .nil))⟩
      cases k with
      | inl n => exact .int n
      | inr z => exact .str z
end
end Nm

set_option Elab.async false
set_option linter.all false
set_option maxRecDepth 100000
set_option maxHeartbeats 1000000
namespace Nm
open PySem PySem.Spec L2 PyProof.Rows
/-! ### xs[::-1], of a list or of a text -/
def revS (z : Str) : Str := ⟨z.cps.toList.reverse.toArray⟩
def tRevS (te : TE) : TE := fun σ H Q => te σ H fun x H1 => ∃ z, x = .str z ∧ z.length ≤ sizeLine ∧ Q (.str (revS z)) H1
def tRevA (K : PySem.W.Frag) (te : TE) : TE := fun σ H Q => tRevL K te σ H Q ∨ tRevS te σ H Q
theorem rev_pick (z : Str) : ((Builtin.Str.strSliceIndices none none (-1) z.length).filterMap (z.cps[·]?)).toArray = z.cps.toList.reverse.toArray := by
  rw [picked_rev]
  congr 1
  obtain ⟨⟨l⟩⟩ := z
  show ((List.range l.length).map fun k => l.length - 1 - k).filterMap (fun i => (l.toArray)[i]?) = l.reverse
  apply List.ext_getElem?
  intro i
  have e1 : (((List.range l.length).map fun k => l.length - 1 - k).filterMap (fun i => (l.toArray)[i]?)) = (List.range l.length).map fun k => l.getD (l.length - 1 - k) 0 := by
    rw [List.filterMap_map]
    have : ∀ r : List Nat, (∀ k ∈ r, k < l.length) → r.filterMap ((fun i => (l.toArray)[i]?) ∘ fun k => l.length - 1 - k) = r.map fun k => l.getD (l.length - 1 - k) 0 := by
      intro r
      induction r with
      | nil => intro _; rfl
      | cons k r ih =>
        intro h
        have hk := h k List.mem_cons_self
        have lt : l.length - 1 - k < l.length := by omega
        rw [List.filterMap_cons, List.map_cons, ih fun j hj => h j (List.mem_cons_of_mem _ hj)]
        simp [lt]
    exact this _ fun k hk => List.mem_range.mp hk
  rw [e1, List.getElem?_map]
  by_cases h : i < l.length
  · rw [List.getElem?_range h, List.getElem?_reverse h, Option.map_some, List.getD_eq_getElem?_getD]
    have lt : l.length - 1 - i < l.length := by omega
    rw [List.getElem?_eq_getElem lt]
    rfl
  · rw [List.getElem?_eq_none (by simpa using h), List.getElem?_eq_none (by simpa using h)]
    rfl
theorem pe_revS {X : Cx} {e : Expr} {te : TE} {k : Nat} {p1 p2 p3 pos : Pos} (he : PE X e te) : PE X (.Subscript e (.Slice none none (some (.UnaryOp .USub (.Constant (.int 1) k p1) p2)) p3) pos) (tRevS te) := by
  have st : PO X (some (.UnaryOp .USub (.Constant (.int 1) k p1) p2)) (tPart (tUn (rU fun i => .int (-i)) (tC (.int 1)))) := po_some (pe_un un_neg pe_int)
  refine ⟨fun pins s σ H Q I h => Subscript_ (thn (he.run pins s σ H _ I h) fun v s1 ⟨x, H1, I1, r1, z, ex, hz, q⟩ => ?_)⟩
  subst ex
  obtain ⟨t, rfl⟩ := r1
  refine wpAny_Slice (thn (po_none.run pins s1 σ H1 (fun o Ha => o = none ∧ Ha = H1) I1 ⟨rfl, rfl⟩) fun va sa ⟨oa, Ha, Ia, pa, ea, ha⟩ => thn (po_none.run pins sa σ Ha (fun o Hb => o = none ∧ Hb = Ha) Ia ⟨rfl, rfl⟩) fun vb sb ⟨ob, Hb, Ib, pb, eb, hb⟩ => thn (st.run pins sb σ Hb (fun o Hc => o = some (-1) ∧ Hc = Hb) Ib ⟨1, rfl, -1, rfl, rfl, rfl⟩) fun vc sc ⟨oc, Hc, Ic, pc, ec, hc⟩ => ?_)
  subst ea ha eb hb ec hc
  have I5 : L2.Inv X pins σ Hc { sc with heap := sc.heap.push { cls := .type "slice", data := .fields #[va, vb, vc] } } := Ic.kept (t' := sc.toks) fun b ob q => Heap.get?_push_of_some _ q
  obtain ⟨l', rfl, el⟩ := IsPart.raw pa
  obtain ⟨u', rfl, eu⟩ := IsPart.raw pb
  obtain ⟨v', rfl, ev⟩ := IsPart.raw pc
  refine tail_any (ops := [.str z t, .ref sc.heap.objs.size]) (typeIs_str _ _ _) F.slot_str_getitem.lookup ?_ (by with_unfolding_all rfl)
  refine wpAny_getItem_str_slice (l := l') (u := u') (st := v') ⟨_, Heap.get?_push_size _ rfl, rfl, rfl⟩ (by rw [ev]; rfl) ?_
  have e0 : ((v'.map (·.1)).getD 1) = -1 := by rw [ev]; rfl
  have key : sliceMade z t l' u' v' = .str (revS z) := by
    unfold sliceMade slicePicked
    rw [e0, el, eu, rev_pick]
    rfl
  rw [key]
  refine ⟨?_, .str (revS z), Hc, I5.tok _, ⟨_, rfl⟩, q⟩
  show (revS z).length ≤ sizeLine
  have : (revS z).length = z.length := by simp [revS, Str.length]
  rw [this]; exact hz
theorem pe_revA {X : Cx} {e : Expr} {te : TE} {k : Nat} {p1 p2 p3 pos : Pos} (he : PE X e te) : PE X (.Subscript e (.Slice none none (some (.UnaryOp .USub (.Constant (.int 1) k p1) p2)) p3) pos) (tRevA X.K te) :=
  ⟨fun pins s σ H Q I h => h.elim ((pe_revL he).run pins s σ H Q I) ((pe_revS he).run pins s σ H Q I)⟩
section
variable {K : PySem.W.Frag} {F H : Hp} {σ : L2.St} {te : TE} {d : D}
theorem DenL.reverse {F : Hp} : ∀ {vs : List V} {ds : List D}, DenL K F vs ds → DenL K F vs.reverse ds.reverse
  | _, _, .nil => .nil
  | _, _, .cons h t => by
    rw [List.reverse_cons, List.reverse_cons]
    exact t.reverse.append (.cons h .nil)
theorem el_rev {ds : List D} (h : EvD K te σ F (.lst ds)) : EvL K (tRevA K te) σ F ds.reverse := fun H s Q q => .inl (h H s _ fun v F1 H1 x1 d1 => by
  cases d1 with
  | lst a l => exact ⟨_, _, rfl, SqL.of (x1.s _ _ a), fun p hp => q p _ F1 _ (x1.back hp) (x1.tr (Ext.newM x1.s hp)) ⟨x1.s.free hp, upd_same⟩ l.reverse⟩)
theorem ev_revT {l : List Nat} (h : EvD K te σ F (txt l)) (hz : l.length ≤ 16777216) : EvD K (tRevA K te) σ F (txt l.reverse) := fun H s Q q => .inr (h H s _ fun v F1 H1 x1 d1 => by
  cases d1
  exact ⟨_, rfl, by rw [txt_len, sizeLine_eq]; exact hz, q _ F1 H1 x1 (.str _)⟩)
/-- o.f, a property -/
theorem ev_prop {C : Addr} {gs : List (Str × D)} {E : XK} {R : List D → D → Prop} (h : EvD K te σ F (.obj C gs)) (hR : R [.obj C gs] d) : EvD K (tProp C (spR K 1 R) [] E te) σ F d := fun H s Q q =>
  h H s _ fun v F1 H1 x1 d1 => by
    have d1' := d1
    cases d1 with
    | obj a l => exact ⟨_, _, _, rfl, x1.s _ _ a, F1, [.obj C gs], d, x1.s, .cons d1' .nil, hR, rfl, fun v F2 H2 x2 d2 => q v F2 H2 (x1.tr x2) d2⟩
end
end Nm

set_option Elab.async false
set_option linter.all false
set_option maxRecDepth 100000
set_option maxHeartbeats 1000000
/-! Single exchanges, in plain words. -/
namespace Nm
open PySem PySem.Spec L2
def put (l : List Nat) (at_ many : Nat) (w : List Nat) : List Nat := l.take at_ ++ w ++ l.drop (at_ + many)
/-- by folds, at one place -/
def byFat (fo : Fo) (l : List Nat) (i : Nat) : List (List Nat) :=
  (match lk fo (l.getD i 0) with | some w => [put l i 1 w] | none => []) ++ (fo.filter fun p => decide ((l.drop i).take p.2.length = p.2)).map fun p => put l i p.2.length [p.1]
def byF (fo : Fo) (l : List Nat) : List (List Nat) := (List.range l.length).flatMap (byFat fo l)
def two (ma : Ma) (a b : Nat) : Bool := (lk ma a).isSome && ((lk ma b).isSome && !decide (lk ma a = lk ma b))
def byMat (ma : Ma) (l : List Nat) (i : Nat) : List (List Nat) := if two ma (l.getD i 0) (l.getD (i + 1) 0) then [put l i 2 [l.getD (i + 1) 0, l.getD i 0]] else []
def byM (ma : Ma) (l : List Nat) : List (List Nat) := (List.range (l.length - 1)).flatMap (byMat ma l)
def mkS (w : List Nat) : Str := ⟨w.toArray⟩
theorem mkS_inj {a b : List Nat} (h : mkS a = mkS b) : a = b := by
  have := congrArg (fun s : Str => s.cps.toList) h
  simpa [mkS] using this
/-- sorted(set(..)) of texts -/
def setT (ws : List (List Nat)) : List (List Nat) := (setS (ws.map mkS)).map fun s => s.cps.toList
theorem setT_S (ws : List (List Nat)) : (setT ws).map mkS = setS (ws.map mkS) := by
  unfold setT
  rw [List.map_map]
  exact List.map_id' _
theorem setT_mem {ws : List (List Nat)} {w : List Nat} : w ∈ setT ws ↔ w ∈ ws := by
  unfold setT
  rw [List.mem_map]
  constructor
  · rintro ⟨s, hs, rfl⟩
    obtain ⟨v, hv, rfl⟩ := List.mem_map.mp (setS_mem.mp hs)
    simpa [mkS] using hv
  · intro h
    exact ⟨mkS w, setS_mem.mpr (List.mem_map.mpr ⟨w, h, rfl⟩), by simp [mkS]⟩
theorem setT_congr {a b : List (List Nat)} (h : ∀ w, w ∈ a ↔ w ∈ b) : setT a = setT b := by
  unfold setT
  congr 1
  refine setS_congr fun z => ?_
  rw [List.mem_map, List.mem_map]
  exact ⟨fun ⟨w, hw, e⟩ => ⟨w, (h w).mp hw, e⟩, fun ⟨w, hw, e⟩ => ⟨w, (h w).mpr hw, e⟩⟩
theorem setT_len (ws : List (List Nat)) : (setT ws).length ≤ ws.length := by
  unfold setT
  rw [List.length_map]
  have := setS_len (ws.map mkS)
  rw [List.length_map] at this
  exact this
def exs (fo : Fo) (ma : Ma) (l : List Nat) : List (List Nat) := setT (byF fo l ++ byM ma l)
/-! ### how many, how long -/
theorem filt_len {α : Type} (p : α → Bool) (l : List α) : (l.filter p).length ≤ l.length := List.length_filter_le p l
theorem byFat_len (fo : Fo) (l : List Nat) (i : Nat) : (byFat fo l i).length ≤ fo.length + 1 := by
  unfold byFat
  rw [List.length_append, List.length_map]
  have := filt_len (fun p : Nat × List Nat => decide ((l.drop i).take p.2.length = p.2)) fo
  split <;> simp only [List.length_cons, List.length_nil] <;> omega
theorem byMat_len (ma : Ma) (l : List Nat) (i : Nat) : (byMat ma l i).length ≤ 1 := by
  unfold byMat
  split <;> simp
theorem byF_len (fo : Fo) (l : List Nat) : (byF fo l).length ≤ l.length * (fo.length + 1) := by
  have := flatMap_len (byFat fo l) (fo.length + 1) (List.range l.length) fun i _ => byFat_len fo l i
  rw [List.length_range] at this
  exact this
theorem byM_len (ma : Ma) (l : List Nat) : (byM ma l).length ≤ l.length := by
  have := flatMap_len (byMat ma l) 1 (List.range (l.length - 1)) fun i _ => byMat_len ma l i
  rw [List.length_range] at this
  unfold byM
  omega
theorem put_len {l w : List Nat} {i m : Nat} : (put l i m w).length ≤ l.length + w.length := by
  unfold put
  rw [List.length_append, List.length_append, List.length_take, List.length_drop]
  omega
theorem put_mem {l w : List Nat} {i m c : Nat} (h : c ∈ put l i m w) : c ∈ l ∨ c ∈ w := by
  unfold put at h
  rcases List.mem_append.mp h with h | h
  · rcases List.mem_append.mp h with h | h
    · exact .inl (List.mem_of_mem_take h)
    · exact .inr h
  · exact .inl (List.mem_of_mem_drop h)
/-! ### each exchange, shown by its pieces -/
/-- one exchange: what is put in place of what -/
inductive Ex1 (fo : Fo) (ma : Ma) : List Nat → List Nat → Prop
  | fold {c : Nat} {w : List Nat} (a b : List Nat) : lk fo c = some w → Ex1 fo ma (a ++ c :: b) (a ++ (w ++ b))
  | back {c : Nat} {w : List Nat} (a b : List Nat) : (c, w) ∈ fo → Ex1 fo ma (a ++ (w ++ b)) (a ++ c :: b)
  | swap {c d : Nat} (a b : List Nat) : two ma c d = true → Ex1 fo ma (a ++ c :: d :: b) (a ++ d :: c :: b)
theorem cut1 {l : List Nat} {i : Nat} (h : i < l.length) : l = l.take i ++ l.getD i 0 :: l.drop (i + 1) := by
  conv => lhs; rw [← List.take_append_drop i l]
  rw [List.drop_eq_getElem_cons h, List.getD_eq_getElem?_getD, List.getElem?_eq_getElem h]
  rfl
theorem cut2 {l : List Nat} {i : Nat} (h : i + 1 < l.length) : l = l.take i ++ l.getD i 0 :: l.getD (i + 1) 0 :: l.drop (i + 2) := by
  have h1 := cut1 (l := l) (i := i) (by omega)
  have h2 : l.drop (i + 1) = l.getD (i + 1) 0 :: l.drop (i + 2) := by
    rw [List.drop_eq_getElem_cons h, List.getD_eq_getElem?_getD, List.getElem?_eq_getElem h]
    rfl
  rw [h2] at h1
  exact h1
theorem put_app (a b c w : List Nat) : put (a ++ (b ++ c)) a.length b.length w = a ++ (w ++ c) := by
  unfold put
  rw [List.take_left', List.append_assoc]
  · congr 2
    rw [← List.append_assoc, show a.length + b.length = (a ++ b).length by rw [List.length_append]]
    exact List.drop_left
  · rfl
theorem mem_byF {fo : Fo} {l w : List Nat} (hw : ∀ p ∈ fo, 1 ≤ p.2.length) : w ∈ byF fo l ↔ (∃ c v a b, lk fo c = some v ∧ l = a ++ c :: b ∧ w = a ++ (v ++ b)) ∨ ∃ c v a b, (c, v) ∈ fo ∧ l = a ++ (v ++ b) ∧ w = a ++ c :: b := by
  unfold byF
  rw [List.mem_flatMap]
  constructor
  · rintro ⟨i, hi, h⟩
    have hi := List.mem_range.mp hi
    unfold byFat at h
    rcases List.mem_append.mp h with h | h
    · cases e : lk fo (l.getD i 0) with
      | none => rw [e] at h; cases h
      | some v =>
        rw [e] at h
        have h : w = put l i 1 v := by simpa using h
        refine .inl ⟨_, v, l.take i, l.drop (i + 1), e, cut1 hi, ?_⟩
        rw [h]; unfold put; rw [List.append_assoc]
    · obtain ⟨⟨c, v⟩, hp, rfl⟩ := List.mem_map.mp h
      obtain ⟨h1, h2⟩ := List.mem_filter.mp hp
      have h2 : (l.drop i).take v.length = v := of_decide_eq_true h2
      refine .inr ⟨c, v, l.take i, l.drop (i + v.length), h1, ?_, ?_⟩
      · have e1 : l.drop i = v ++ l.drop (i + v.length) := by
          conv => lhs; rw [← List.take_append_drop v.length (l.drop i), h2, List.drop_drop]
        rw [← e1, List.take_append_drop]
      · show put l i v.length [c] = _
        unfold put
        rw [List.append_assoc]; rfl
  · rintro (⟨c, v, a, b, e, rfl, rfl⟩ | ⟨c, v, a, b, hm, rfl, rfl⟩)
    · refine ⟨a.length, List.mem_range.mpr (by simp), ?_⟩
      unfold byFat
      have g : (a ++ c :: b).getD a.length 0 = c := by simp [List.getD_eq_getElem?_getD]
      rw [g, e]
      refine List.mem_append.mpr (.inl ?_)
      have := put_app a [c] b v
      simp only [List.length_cons, List.length_nil, List.cons_append, List.nil_append] at this
      rw [show (0 : Nat) + 1 = 1 from rfl] at this
      simp [this]
    · have hv := hw _ hm
      have hv : 1 ≤ v.length := hv
      refine ⟨a.length, List.mem_range.mpr (by rw [List.length_append, List.length_append]; omega), ?_⟩
      unfold byFat
      refine List.mem_append.mpr (.inr (List.mem_map.mpr ⟨(c, v), List.mem_filter.mpr ⟨hm, decide_eq_true ?_⟩, ?_⟩))
      · rw [List.drop_left]
        exact List.take_left
      · exact put_app a v b [c]
theorem mem_byM {ma : Ma} {l w : List Nat} : w ∈ byM ma l ↔ ∃ c d a b, two ma c d = true ∧ l = a ++ c :: d :: b ∧ w = a ++ d :: c :: b := by
  unfold byM
  rw [List.mem_flatMap]
  constructor
  · rintro ⟨i, hi, h⟩
    have hi := List.mem_range.mp hi
    unfold byMat at h
    by_cases t : two ma (l.getD i 0) (l.getD (i + 1) 0) = true
    · rw [if_pos t] at h
      have h : w = put l i 2 [l.getD (i + 1) 0, l.getD i 0] := by simpa using h
      refine ⟨_, _, l.take i, l.drop (i + 2), t, cut2 (by omega), ?_⟩
      rw [h]; unfold put; rw [List.append_assoc]; rfl
    · rw [if_neg t] at h; cases h
  · rintro ⟨c, d, a, b, t, rfl, rfl⟩
    refine ⟨a.length, List.mem_range.mpr (by simp), ?_⟩
    unfold byMat
    have g1 : (a ++ c :: d :: b).getD a.length 0 = c := by simp [List.getD_eq_getElem?_getD]
    have g2 : (a ++ c :: d :: b).getD (a.length + 1) 0 = d := by simp [List.getD_eq_getElem?_getD]
    rw [g1, g2, if_pos t]
    have := put_app a [c, d] b [d, c]
    simp only [List.length_cons, List.length_nil, List.cons_append, List.nil_append] at this
    rw [show (0 : Nat) + 1 + 1 = 2 from rfl] at this
    simp [this]
theorem mem_exs {fo : Fo} {ma : Ma} {l w : List Nat} (hw : ∀ p ∈ fo, 1 ≤ p.2.length) : w ∈ exs fo ma l ↔ Ex1 fo ma l w := by
  unfold exs
  rw [setT_mem, List.mem_append, mem_byF hw, mem_byM]
  constructor
  · rintro ((⟨c, v, a, b, e, rfl, rfl⟩ | ⟨c, v, a, b, hm, rfl, rfl⟩) | ⟨c, d, a, b, t, rfl, rfl⟩)
    · exact .fold a b e
    · exact .back a b hm
    · exact .swap a b t
  · rintro (⟨a, b, e⟩ | ⟨a, b, e⟩ | ⟨a, b, e⟩)
    · exact .inl (.inl ⟨_, _, a, b, e, rfl, rfl⟩)
    · exact .inl (.inr ⟨_, _, a, b, e, rfl, rfl⟩)
    · exact .inr ⟨_, _, a, b, e, rfl, rfl⟩
theorem two_symm {ma : Ma} {a b : Nat} (h : two ma a b = true) : two ma b a = true := by
  unfold two at h ⊢
  simp only [Bool.and_eq_true, Bool.not_eq_true', decide_eq_false_iff_not] at h ⊢
  exact ⟨h.2.1, h.1, fun e => h.2.2 e.symm⟩
section
variable {sg : Nat → Bool} {fo : Fo} {ma : Ma}
/-- each leads back -/
theorem ex1_symm (ok : okTab sg fo ma) {l w : List Nat} (h : Ex1 fo ma l w) : Ex1 fo ma w l := by
  cases h with
  | fold a b e => exact .back a b (lk_mem e)
  | back a b e => exact .fold a b (lk_self ok.fn e)
  | swap a b t => exact .swap a b (two_symm t)
theorem ex1_sign (ok : okTab sg fo ma) {l w : List Nat} (h : Ex1 fo ma l w) (hl : ∀ c ∈ l, sg c = true) : ∀ c ∈ w, sg c = true := by
  cases h with
  | fold a b e =>
    have fw := ok.fw _ (lk_mem e)
    intro c hc
    rcases List.mem_append.mp hc with hc | hc
    · exact hl c (List.mem_append_left _ hc)
    · rcases List.mem_append.mp hc with hc | hc
      · exact (fw.2.2 c hc).1
      · exact hl c (List.mem_append_right _ (List.mem_cons_of_mem _ hc))
  | back a b e =>
    intro c hc
    rcases List.mem_append.mp hc with hc | hc
    · exact hl c (List.mem_append_left _ hc)
    · rcases List.mem_cons.mp hc with rfl | hc
      · exact ok.fs _ e
      · exact hl c (List.mem_append_right _ (List.mem_append_right _ hc))
  | swap a b t =>
    intro c hc
    refine hl c ?_
    simp only [List.mem_append, List.mem_cons] at hc ⊢
    rcases hc with hc | hc | hc | hc
    · exact .inl hc
    · exact .inr (.inr (.inl hc))
    · exact .inr (.inl hc)
    · exact .inr (.inr (.inr hc))
theorem ex1_len (ok : okTab sg fo ma) {l w : List Nat} (h : Ex1 fo ma l w) : w.length ≤ l.length + 2 ∧ (1 ≤ l.length → 1 ≤ w.length) := by
  cases h with
  | fold a b e =>
    have fw := ok.fw _ (lk_mem e)
    have h1 := fw.1
    have h2 := fw.2.1
    simp only [List.length_append, List.length_cons] at h1 h2 ⊢
    omega
  | back a b e =>
    simp only [List.length_append, List.length_cons]
    omega
  | swap a b t =>
    simp only [List.length_append, List.length_cons]
    omega
theorem folded_app (fo : Fo) (a b : List Nat) : folded fo (a ++ b) = folded fo a ++ folded fo b := by
  unfold folded
  rw [List.map_append, List.flatten_append]
theorem folded_cons (fo : Fo) (c : Nat) (b : List Nat) : folded fo (c :: b) = foldS fo c ++ folded fo b := by
  unfold folded
  rw [List.map_cons, List.flatten_cons]
/-- the key stays -/
theorem ex1_key (ok : okTab sg fo ma) {l w : List Nat} (h : Ex1 fo ma l w) : key fo ma w = key fo ma l := by
  unfold key
  cases h with
  | @fold c v a b e =>
    have fw := ok.fw _ (lk_mem e)
    rw [folded_app, folded_app, folded_app, folded_cons, foldS_some e, folded_id fun d hd => (fw.2.2 d hd).2]
  | @back c v a b e =>
    have fw := ok.fw _ e
    rw [folded_app, folded_app, folded_app, folded_cons, foldS_some (lk_self ok.fn e), folded_id fun d hd => (fw.2.2 d hd).2]
  | @swap c d a b t =>
    unfold two at t
    simp only [Bool.and_eq_true, Bool.not_eq_true', decide_eq_false_iff_not] at t
    have nf : ∀ c, (lk ma c).isSome = true → foldS fo c = [c] := fun c hc => by
      obtain ⟨n, hn⟩ := Option.isSome_iff_exists.mp hc
      exact foldS_none (ok.ms _ (lk_mem hn)).2.2
    rw [folded_app, folded_app, folded_cons, folded_cons, folded_cons, folded_cons, nf c t.1, nf d t.2.1]
    exact (runs_swap t.1 t.2.1 t.2.2 (folded fo b) (folded fo a) []).symm
end
end Nm

set_option Elab.async false
set_option linter.all false
set_option maxRecDepth 100000
set_option maxHeartbeats 1000000
namespace Nm
open PySem PySem.Spec L2
def tv (w : List Nat) : V := .str (mkS w)
section
variable {K : PySem.W.Frag} {F H : Hp} {σ : L2.St} {ta tb te ti tj : TE} {d e : D} {r : List Sl} {DE : Ends} {tz : TS} {p : Addr} {l a b : List Nat} {i j : Nat}
/-! ### texts -/
theorem cut_take (l : List Nat) (i : Nat) : cutS ⟨l.toArray⟩ none (some (i : Int)) = ⟨(l.take i).toArray⟩ := by
  unfold cutS
  rw [HT.sIx_none, HT.sIx_nat, txt_len]
  show (⟨((l.drop 0).take (min i l.length - 0)).toArray⟩ : Str) = _
  rw [List.drop_zero, Nat.sub_zero, ← List.take_eq_take_min]
theorem cut_drop (l : List Nat) (i : Nat) : cutS ⟨l.toArray⟩ (some (i : Int)) none = ⟨(l.drop i).toArray⟩ := by
  unfold cutS
  rw [HT.sIx_none, HT.sIx_nat, txt_len]
  show (⟨((l.drop (min i l.length)).take (l.length - min i l.length)).toArray⟩ : Str) = _
  rw [List.take_of_length_le (by rw [List.length_drop]; exact Nat.le_refl _)]
  by_cases h : i ≤ l.length
  · rw [Nat.min_eq_left h]
  · rw [Nat.min_eq_right (by omega), List.drop_eq_nil_of_le (Nat.le_refl _), List.drop_eq_nil_of_le (by omega)]
theorem cut_sub (l : List Nat) (i j : Nat) : cutS ⟨l.toArray⟩ (some (i : Int)) (some (j : Int)) = ⟨((l.drop i).take (j - i)).toArray⟩ := by
  unfold cutS
  rw [HT.sIx_nat, HT.sIx_nat, txt_len]
  show (⟨((l.drop (min i l.length)).take (min j l.length - min i l.length)).toArray⟩ : Str) = _
  by_cases h : i ≤ l.length
  · rw [Nat.min_eq_left h]
    congr 2
    by_cases h2 : j ≤ l.length
    · rw [Nat.min_eq_left h2]
    · rw [Nat.min_eq_right (by omega), List.take_of_length_le (by rw [List.length_drop]; exact Nat.le_refl _), List.take_of_length_le (by rw [List.length_drop]; omega)]
  · rw [Nat.min_eq_right (show l.length ≤ i by omega), List.drop_eq_nil_of_le (Nat.le_refl _), List.drop_eq_nil_of_le (show l.length ≤ i by omega)]
    simp
theorem ev_takeT (h : EvD K te σ F (txt l)) (hi : EvD K ti σ F (.int (i : Nat))) (hz : l.length ≤ 16777216) : EvD K (L2.tSl (rSlAny K) te tNo (tSome ti)) σ F (txt (l.take i)) :=
  ev_is (ev_sl_str h eo_none (eo_some hi) (by rw [txt_len, sizeLine_eq]; exact hz)) (by rw [cut_take]; rfl)
theorem ev_dropT (h : EvD K te σ F (txt l)) (hi : EvD K ti σ F (.int (i : Nat))) (hz : l.length ≤ 16777216) : EvD K (L2.tSl (rSlAny K) te (tSome ti) tNo) σ F (txt (l.drop i)) :=
  ev_is (ev_sl_str h (eo_some hi) eo_none (by rw [txt_len, sizeLine_eq]; exact hz)) (by rw [cut_drop]; rfl)
theorem ev_subT (h : EvD K te σ F (txt l)) (hi : EvD K ti σ F (.int (i : Nat))) (hj : EvD K tj σ F (.int (j : Nat))) (hz : l.length ≤ 16777216) : EvD K (L2.tSl (rSlAny K) te (tSome ti) (tSome tj)) σ F (txt ((l.drop i).take (j - i))) :=
  ev_is (ev_sl_str h (eo_some hi) (eo_some hj) (by rw [txt_len, sizeLine_eq]; exact hz)) (by rw [cut_sub]; rfl)
theorem ev_catT (ha : EvD K ta σ F (txt a)) (hb : EvD K tb σ F (txt b)) (hz : a.length + b.length ≤ 16777216) : EvD K (tOp (rAddA K) ta tb) σ F (txt (a ++ b)) :=
  ev_is (ev_op ha hb (rv_add_str (by rw [txt_len, txt_len, sizeLine_eq]; exact hz))) (congrArg D.str (str_ext (by show (a.toArray ++ b.toArray).toList = _; simp)))
theorem ev_lenT (h : EvD K te σ F (txt l)) (hz : l.length ≤ 16777216) : EvD K (tCB (rLenA K) (tCons te tNil)) σ F (.int (l.length : Nat)) :=
  ev_is (ev_cb (ea_cons h ea_nil) (rc_len_str (by rw [txt_len, sizeLine_eq]; exact hz))) (by rw [txt_len])
theorem ev_addN (ha : EvD K ta σ F (.int (i : Nat))) (hb : EvD K tb σ F (.int (j : Nat))) : EvD K (tOp (rAddA K) ta tb) σ F (.int ((i + j : Nat) : Int)) :=
  ev_is (ev_op ha hb rv_add_int) (congrArg D.int (by omega))
theorem et_eqT (ha : EvD K ta σ F (txt a)) (hb : EvD K tb σ F (txt b)) : EvT K (tTest (tOp (rEqA K) ta tb)) σ F (decide (a = b)) :=
  et_is (et_test (ev_op ha hb rvA_eq_str)) dec_txt
theorem et_neT (ha : EvD K ta σ F (txt a)) (hb : EvD K tb σ F (txt b)) : EvT K (tTest (tOp (rNeA K) ta tb)) σ F (!decide (a = b)) :=
  et_is (et_test (ev_op ha hb rvA_ne_str)) (by rw [dec_txt])
theorem dec_nat {m n : Nat} : decide ((m : Int) = (n : Int)) = decide (m = n) := by
  by_cases h : m = n
  · subst h; simp
  · rw [decide_eq_false h, decide_eq_false (by omega)]
theorem et_eqN (ha : EvD K ta σ F (.int (i : Nat))) (hb : EvD K tb σ F (.int (j : Nat))) : EvT K (tTest (tOp (rEqA K) ta tb)) σ F (decide (i = j)) :=
  et_is (et_test (ev_op ha hb rvA_eq_int)) dec_nat
theorem et_neN (ha : EvD K ta σ F (.int (i : Nat))) (hb : EvD K tb σ F (.int (j : Nat))) : EvT K (tTest (tOp (rNeA K) ta tb)) σ F (!decide (i = j)) :=
  et_is (et_test (ev_op ha hb rvA_ne_int)) (by rw [dec_nat])
theorem et_inFo {fo : Fo} {c : Nat} (ha : EvD K ta σ F (txt [c])) (hb : EvD K tb σ F (foD fo)) : EvT K (tTest (tOp (rInA K) ta tb)) σ F (lk fo c).isSome :=
  et_is (et_test (ev_op ha hb (rv_in_dic (es := foE fo) (k := .inr ⟨#[c]⟩) rfl))) isSome_fo
theorem et_inMa {ma : Ma} {c : Nat} (ha : EvD K ta σ F (txt [c])) (hb : EvD K tb σ F (maD ma)) : EvT K (tTest (tOp (rInA K) ta tb)) σ F (lk ma c).isSome :=
  et_is (et_test (ev_op ha hb (rv_in_dic (es := maE ma) (k := .inr ⟨#[c]⟩) rfl))) isSome_ma
theorem ev_ixFo {fo : Fo} {c : Nat} {w : List Nat} (ha : EvD K ta σ F (foD fo)) (hb : EvD K tb σ F (txt [c])) (h : lk fo c = some w) : EvD K (tOp (rIxA K) ta tb) σ F (txt w) :=
  ev_op ha hb (rv_ix_dic (es := foE fo) (k := .inr ⟨#[c]⟩) rfl (by rw [valD_fo, h]; rfl))
theorem ev_ixMa {ma : Ma} {c n : Nat} (ha : EvD K ta σ F (maD ma)) (hb : EvD K tb σ F (txt [c])) (h : lk ma c = some n) : EvD K (tOp (rIxA K) ta tb) σ F (.int (n : Nat)) :=
  ev_op ha hb (rv_ix_dic (es := maE ma) (k := .inr ⟨#[c]⟩) rfl (by rw [valD_ma, h]; rfl))
/-! ### a list of texts of one's own -/
theorem s_appT {ws : List (List Nat)} {z : List Nat} (S : Same F H) (E : EnvD K F r σ) (hp : r[i]? = some (.v (.ref p))) (w : Own F H p (.lst (ws.map tv))) (h : EvD K te σ F (txt z)) (hz : ws.length < 100000)
    (k : ∀ F' H', Ext [p] F H F' H' → Own F' H' p (.lst ((ws ++ [z]).map tv)) → EnvD K F' r σ → DE.nx σ H') : tDrop (tBM K "list" rAppend (tVar i) (tCons te tNil)) DE σ H :=
  s_app S E hp w h (by rw [List.length_map]; exact hz) fun v F' H' x o dv => by
    cases dv
    refine k F' _ (x.tr (o.set x.s)) ⟨o.f, ?_⟩ (E.up x.f)
    rw [upd_same, List.map_append]
    rfl
theorem q_appT {ws : List (List Nat)} {z : List Nat} (S : Same F H) (E : EnvD K F r σ) (hp : r[i]? = some (.v (.ref p))) (w : Own F H p (.lst (ws.map tv))) (h : EvD K te σ F (txt z)) (hz : ws.length < 100000)
    (k : ∀ F' H', Ext [p] F H F' H' → Own F' H' p (.lst ((ws ++ [z]).map tv)) → EnvD K F' r σ → tz DE σ H') : tSeq (tDrop (tBM K "list" rAppend (tVar i) (tCons te tNil))) tz DE σ H := s_appT (DE := { DE with nx := tz DE }) S E hp w h hz k
theorem DenL.txts (ws : List (List Nat)) : DenL K F (ws.map tv) (ws.map txt) := by
  induction ws with
  | nil => exact .nil
  | cons w ws ih => exact .cons (.str _) ih
theorem denL_txts {xs : List V} {ws : List (List Nat)} (h : DenL K F xs (ws.map txt)) : xs = ws.map tv := by
  induction ws generalizing xs with
  | nil => cases h; rfl
  | cons w ws ih =>
    cases h with
    | cons a t =>
      cases a
      rw [ih t]
      rfl
/-- x = [] -/
theorem q_new {tz : TS} (S : Same F H) (E : EnvD K F r σ) (k : ∀ p H' σ', H p = none → Ext [] F H F H' → Own F H' p (.lst (([] : List (List Nat)).map tv)) → EnvD K F (r.set j (.v (.ref p))) σ' → tz DE σ' H') : tSeq (tAsg (tLst tNil) (gName j)) tz DE σ H :=
  ⟨sz0, fun p hp => k p _ _ hp (Ext.newM S hp) ⟨S.free hp, upd_same⟩ (EnvD.set (s := .v (.ref p)) j E rfl)⟩
/-- what a list of texts of one's own is worth, where a new list of texts is made of it -/
theorem el_lendT {ws vs : List (List Nat)} (S : Same F H) (E : EnvD K F r σ) (hi : r[i]? = some (.v (.ref p))) (w : Own F H p (.lst (ws.map tv))) (h : ∀ F', Same F F' → EnvD K F' (r.set i (.d (.lst (ws.map txt)))) σ → EvL K te σ F' (vs.map txt))
    {Q : VK} (k : ∀ p' F' H', H p' = none → Ext [] F H F' H' → Own F' H' p (.lst (ws.map tv)) → Own F' H' p' (.lst (vs.map tv)) → Q (.ref p') H') : te σ H Q := by
  have g : Same F (upd F p (.lst (ws.map tv))) := same_new w.f
  refine h _ g ((E.up g).seeV hi (.lst upd_same (DenL.txts ws))) H (lend w S) Q fun p' ys F1 H1 hp x o l => ?_
  obtain ⟨h1, h2⟩ := Ext.thaw w S x
  refine k p' _ _ hp h1 h2 ⟨?_, ?_⟩
  · unfold del
    split
    · rfl
    · exact o.f
  · rw [← denL_txts l]; exact o.h
theorem q_asgLend {ws vs : List (List Nat)} (S : Same F H) (E : EnvD K F r σ) (hi : r[i]? = some (.v (.ref p))) (w : Own F H p (.lst (ws.map tv))) (h : ∀ F', Same F F' → EnvD K F' (r.set i (.d (.lst (ws.map txt)))) σ → EvL K te σ F' (vs.map txt))
    (k : ∀ p' F' H' σ', H p' = none → Ext [] F H F' H' → Own F' H' p' (.lst (vs.map tv)) → EnvD K F' (r.set j (.v (.ref p'))) σ' → DE.nx σ' H') : tAsg te (gName j) DE σ H :=
  el_lendT S E hi w h fun p' F' H' hp x _ o => k p' F' H' _ hp x o (EnvD.set (s := .v (.ref p')) j (E.up x.f) rfl)
/-- a + b, lists, the sum one's own -/
theorem el_cat {xs ys : List D} (ha : EvD K ta σ F (.lst xs)) (hb : EvD K tb σ F (.lst ys)) (hz : xs.length + ys.length ≤ sizeLine) : EvL K (tOp (rAddA K) ta tb) σ F (xs ++ ys) := fun H s Q q =>
  ha H s _ fun x F1 H1 x1 d1 => (hb.up x1.f) H1 x1.s _ fun y F2 H2 x2 d2 => by
    cases d1 with
    | lst h1 l1 =>
      cases d2 with
      | lst h2 l2 =>
        refine .inr (.inr (.inl ⟨_, _, _, _, rfl, rfl, x2.s _ _ (x2.f _ _ h1), x2.s _ _ h2, by rw [l1.length, l2.length]; exact hz, fun p hp => ?_⟩))
        exact q p _ F2 _ ((x1.tr x2).back hp) ((x1.tr x2).tr (Ext.newM x2.s hp)) ⟨x2.s.free hp, upd_same⟩ ((l1.up x2.f).append l2)
/-! ### a for whose lists may be others in each turn -/
theorem s_forW {tb : TS} (M : List Addr) (Pv : Nat → Hp → Hp → List Sl → Prop) {items : List D} {wi : TI} {g : TG} (u : D → List Sl → List Sl) (S : Same F H) (E : EnvD K F r σ) (hi : EvI K wi σ F items) (hg : ∀ d, d ∈ items → TgD K g d (u d))
    (h0 : ∀ F' H', Ext [] F H F' H' → Pv 0 F' H' r)
    (hs : ∀ i d F2 H2 r' σ' (N : L2.St → Hp → Prop), items[i]? = some d → Ext M F H F2 H2 → (∃ F1 H1, Pv i F1 H1 r' ∧ Ext [] F1 H1 F2 H2) → EnvD K F2 (u d r') σ' →
      (∀ F3 H3 r3 σ3, Same F2 F3 → Ext M F H F3 H3 → EnvD K F3 r3 σ3 → Pv (i + 1) F3 H3 r3 → N σ3 H3) → tb { DE with nx := N, ct := N, bk := DE.nx } σ' H2)
    (hd : ∀ F' H' r' σ', Ext M F H F' H' → EnvD K F' r' σ' → Pv items.length F' H' r' → DE.nx σ' H') : tFor wi g tb DE σ H :=
  hi H S _ fun J F1 H1 x1 W1 => by
    obtain ⟨G, Y, w, hg', hy⟩ := W1
    refine ⟨fun i m σ3 H3 => m = items.length - i ∧ i ≤ items.length ∧ ∃ F3 r3, Ext M F H F3 H3 ∧ Same F1 F3 ∧ EnvD K F3 r3 σ3 ∧ Pv i F3 H3 r3, ⟨items.length, by simp, Nat.zero_le _, F1, r, x1.wide (by simp), Same.refl _, E.up x1.f, h0 F1 H1 x1⟩, ?_⟩
    rintro i m σ3 H3 ⟨rfl, hle, F3, r3, x, e, E3, pv⟩
    have hG := hg' H3 (e.trans x.s)
    by_cases hlt : i < items.length
    · refine .inr ⟨w.goes i H3 hlt hG, fun σ' H' => ∃ F4 r4, Ext M F H F4 H' ∧ Same F1 F4 ∧ EnvD K F4 r4 σ' ∧ Pv (i + 1) F4 H' r4, fun σ' H' q => ⟨items.length - (i + 1), by omega, rfl, hlt, q⟩, fun v H4 y => ?_⟩
      obtain ⟨d, F2, h1, h2, h3⟩ := hy i H3 v H4 hlt (e.trans x.s) (w.yields i H3 v H4 hlt hG y)
      have x2 := Ext.uni e x.s h2
      have h3' : Den K (uni F3 F2) v d := h3.up (uni_r (x.s.trans h2.same) h2.s)
      refine hg d (List.mem_of_getElem? h1) _ H4 r3 σ3 v _ x2.s (E3.up x2.f) h3' fun σ' E' => ?_
      exact hs i d _ H4 r3 _ _ h1 (x.tl x2) ⟨F3, H3, pv, x2⟩ E' fun F5 H5 r5 σ5 s5 x5 E5 p5 => ⟨F5, r5, x5, (e.trans x2.f).trans s5, E5, p5⟩
    · have ei : i = items.length := by omega
      subst ei
      exact .inl ⟨w.stops H3 hG, hd F3 H3 r3 σ3 x E3 pv⟩
theorem q_forW {tb : TS} (M : List Addr) (Pv : Nat → Hp → Hp → List Sl → Prop) {items : List D} {wi : TI} {g : TG} (u : D → List Sl → List Sl) (S : Same F H) (E : EnvD K F r σ) (hi : EvI K wi σ F items) (hg : ∀ d, d ∈ items → TgD K g d (u d))
    (h0 : ∀ F' H', Ext [] F H F' H' → Pv 0 F' H' r)
    (hs : ∀ i d F2 H2 r' σ' (N : L2.St → Hp → Prop), items[i]? = some d → Ext M F H F2 H2 → (∃ F1 H1, Pv i F1 H1 r' ∧ Ext [] F1 H1 F2 H2) → EnvD K F2 (u d r') σ' →
      (∀ F3 H3 r3 σ3, Same F2 F3 → Ext M F H F3 H3 → EnvD K F3 r3 σ3 → Pv (i + 1) F3 H3 r3 → N σ3 H3) → tb { DE with nx := N, ct := N, bk := tz DE } σ' H2)
    (hd : ∀ F' H' r' σ', Ext M F H F' H' → EnvD K F' r' σ' → Pv items.length F' H' r' → tz DE σ' H') : tSeq (tFor wi g tb) tz DE σ H := s_forW (DE := { DE with nx := tz DE }) M Pv u S E hi hg h0 hs hd
end
section
variable {K : PySem.W.Frag} {vs : List V} {H F : Hp} {Q : VK} {E : XK} {R : List D → D → Prop}
theorem spR4 (h : spR K 4 R vs H Q E) : ∃ F v w u t x y z q d, vs = [v, w, u, t] ∧ Same F H ∧ Den K F v x ∧ Den K F w y ∧ Den K F u z ∧ Den K F t q ∧ R [x, y, z, q] d ∧ ∀ v F' H', Ext [] F H F' H' → Den K F' v d → Q v H' := by
  obtain ⟨F, ds, d, S, l, hf, hn, k⟩ := h
  match ds, l, hn with
  | [x, y, z, q], .cons hv (.cons hw (.cons hu (.cons ht .nil))), _ => exact ⟨F, _, _, _, _, x, y, z, q, d, rfl, S, hv, hw, hu, ht, hf, k⟩
theorem spFL1 {n : Nat} {R : List D → List D → Prop} (h : spFL K n R vs H Q E) : ∃ F ds es, Same F H ∧ DenL K F vs ds ∧ R ds es ∧ ∀ p xs F' H', H p = none → Ext [] F H F' H' → Own F' H' p (.lst xs) → DenL K F' xs es → Q (.ref p) H' := by
  obtain ⟨F, ds, es, S, l, hf, hn, k⟩ := h
  exact ⟨F, ds, es, S, l, hf, k⟩
end
end Nm

set_option Elab.async false
set_option linter.all false
set_option maxRecDepth 100000
set_option maxHeartbeats 1000000
/-! The law's own exchanges, in plain words; a join behind an if. -/
namespace Nm
open PySem PySem.Spec L2
def piece (l : List Nat) (i m : Nat) : List Nat := (l.drop i).take m
def clsOf (ma : Ma) (c : Nat) : Nat := (lk ma c).getD 0
def bothOf (ma : Ma) (w : List Nat) : List Nat := (w.filter fun c => (lk ma c).isSome).map (clsOf ma)
def lex1 (fo : Fo) (l : List Nat) (i m : Nat) : List (List Nat) := if m = 1 then (match lk fo (l.getD i 0) with | some w => [put l i m w] | none => []) else []
def sgnOf (fo : Fo) (w : List Nat) : List Nat := (fo.filter fun p => decide (p.2 = w)).map (·.1)
def lex2 (fo : Fo) (l : List Nat) (i m : Nat) : List (List Nat) := if (piece l i m).length = m then (sgnOf fo (piece l i m)).map fun c => put l i m [c] else []
def cond3 (ma : Ma) (l : List Nat) (i m : Nat) : Bool := decide (m = 2) && (decide ((bothOf ma (piece l i m)).length = 2) && !decide ((bothOf ma (piece l i m)).getD 0 0 = (bothOf ma (piece l i m)).getD 1 0))
def lex3 (ma : Ma) (l : List Nat) (i m : Nat) : List (List Nat) := if cond3 ma l i m then [put l i m (piece l i m).reverse] else []
def lexAt (fo : Fo) (ma : Ma) (l : List Nat) (i m : Nat) : List (List Nat) := lex1 fo l i m ++ (lex2 fo l i m ++ lex3 ma l i m)
def lexI (fo : Fo) (ma : Ma) (l : List Nat) (i : Nat) : List (List Nat) := [1, 2, 3].flatMap (lexAt fo ma l i)
def lex (fo : Fo) (ma : Ma) (l : List Nat) : List (List Nat) := (List.range l.length).flatMap (lexI fo ma l)
theorem lexAt_len (fo : Fo) (ma : Ma) (l : List Nat) (i m : Nat) : (lexAt fo ma l i m).length ≤ fo.length + 2 := by
  have h1 : (lex1 fo l i m).length ≤ 1 := by
    unfold lex1
    split
    · split <;> simp
    · simp
  have h2 : (lex2 fo l i m).length ≤ fo.length := by
    unfold lex2 sgnOf
    split
    · rw [List.length_map, List.length_map]; exact filt_len _ _
    · exact Nat.zero_le _
  have h3 : (lex3 ma l i m).length ≤ 1 := by unfold lex3; split <;> simp
  unfold lexAt
  rw [List.length_append, List.length_append]
  omega
theorem lexI_len (fo : Fo) (ma : Ma) (l : List Nat) (i : Nat) : (lexI fo ma l i).length ≤ 3 * (fo.length + 2) := flatMap_len (lexAt fo ma l i) (fo.length + 2) [1, 2, 3] fun m _ => lexAt_len fo ma l i m
theorem piece1 {l : List Nat} {i : Nat} (h : i < l.length) : piece l i 1 = [l.getD i 0] := by
  unfold piece
  rw [List.drop_eq_getElem_cons h, List.getD_eq_getElem?_getD, List.getElem?_eq_getElem h]
  rfl
theorem piece2 {l : List Nat} {i : Nat} (h : i + 1 < l.length) : piece l i 2 = [l.getD i 0, l.getD (i + 1) 0] := by
  unfold piece
  rw [List.drop_eq_getElem_cons (by omega), List.drop_eq_getElem_cons h, List.getD_eq_getElem?_getD, List.getD_eq_getElem?_getD, List.getElem?_eq_getElem (show i < l.length by omega), List.getElem?_eq_getElem h]
  rfl
theorem piece_len (l : List Nat) (i m : Nat) : (piece l i m).length = min m (l.length - i) := by unfold piece; rw [List.length_take, List.length_drop]
theorem both2 {ma : Ma} {c d : Nat} (hc : (lk ma c).isSome = true) (hd : (lk ma d).isSome = true) : bothOf ma [c, d] = [clsOf ma c, clsOf ma d] := by
  unfold bothOf
  rw [List.filter_cons, if_pos hc, List.filter_cons, if_pos hd]
  rfl
theorem cls_eq {ma : Ma} {c d : Nat} (hc : (lk ma c).isSome = true) (hd : (lk ma d).isSome = true) : (clsOf ma c = clsOf ma d) ↔ lk ma c = lk ma d := by
  obtain ⟨n, hn⟩ := Option.isSome_iff_exists.mp hc
  obtain ⟨m, hm⟩ := Option.isSome_iff_exists.mp hd
  unfold clsOf
  rw [hn, hm]
  simp
theorem cond3_two {ma : Ma} {l : List Nat} {i m : Nat} (h : cond3 ma l i m = true) : m = 2 ∧ i + 1 < l.length ∧ two ma (l.getD i 0) (l.getD (i + 1) 0) = true := by
  unfold cond3 at h
  simp only [Bool.and_eq_true, decide_eq_true_eq, Bool.not_eq_true', decide_eq_false_iff_not] at h
  obtain ⟨rfl, h2, h3⟩ := h
  have hp : 2 ≤ (piece l i 2).length := by
    have : (bothOf ma (piece l i 2)).length ≤ (piece l i 2).length := by unfold bothOf; rw [List.length_map]; exact filt_len _ _
    omega
  have hi : i + 1 < l.length := by rw [piece_len] at hp; omega
  refine ⟨rfl, hi, ?_⟩
  rw [piece2 hi] at h2 h3
  generalize l.getD i 0 = c at *
  generalize l.getD (i + 1) 0 = d at *
  have hc : (lk ma c).isSome = true := by
    cases z : (lk ma c).isSome with
    | true => rfl
    | false =>
      unfold bothOf at h2
      rw [List.length_map, List.filter_cons, if_neg (by rw [z]; decide)] at h2
      have := filt_len (fun c => (lk ma c).isSome) [d]
      simp only [List.length_cons, List.length_nil] at this
      omega
  have hd : (lk ma d).isSome = true := by
    cases z : (lk ma d).isSome with
    | true => rfl
    | false =>
      unfold bothOf at h2
      rw [List.length_map, List.filter_cons, if_pos hc, List.filter_cons, if_neg (by rw [z]; decide)] at h2
      simp at h2
  rw [both2 hc hd] at h3
  unfold two
  rw [hc, hd]
  simp only [Bool.true_and, Bool.not_eq_true', decide_eq_false_iff_not]
  exact fun e => h3 ((cls_eq hc hd).mpr e)
theorem two_cond3 {ma : Ma} {l : List Nat} {i : Nat} (hi : i + 1 < l.length) (h : two ma (l.getD i 0) (l.getD (i + 1) 0) = true) : cond3 ma l i 2 = true := by
  unfold two at h
  simp only [Bool.and_eq_true, Bool.not_eq_true', decide_eq_false_iff_not] at h
  unfold cond3
  rw [piece2 hi, both2 h.1 h.2.1]
  simp only [List.length_cons, List.length_nil, Bool.and_eq_true, decide_eq_true_eq, Bool.not_eq_true', decide_eq_false_iff_not]
  exact ⟨trivial, trivial, fun e => h.2.2 ((cls_eq h.1 h.2.1).mp e)⟩
/-- the law's list has the same members -/
theorem lex_mem {fo : Fo} {ma : Ma} {l w : List Nat} (hw : ∀ p ∈ fo, 1 ≤ p.2.length ∧ p.2.length ≤ 3) : w ∈ lex fo ma l ↔ w ∈ byF fo l ++ byM ma l := by
  unfold lex
  rw [List.mem_flatMap, List.mem_append]
  unfold byF byM
  rw [List.mem_flatMap, List.mem_flatMap]
  constructor
  · rintro ⟨i, hi, h⟩
    have hil := List.mem_range.mp hi
    unfold lexI at h
    obtain ⟨m, hm, h⟩ := List.mem_flatMap.mp h
    unfold lexAt at h
    rcases List.mem_append.mp h with h | h
    · unfold lex1 at h
      by_cases e : m = 1
      · subst e
        rw [if_pos rfl] at h
        exact .inl ⟨i, hi, by unfold byFat; exact List.mem_append_left _ h⟩
      · rw [if_neg e] at h; cases h
    · rcases List.mem_append.mp h with h | h
      · unfold lex2 at h
        by_cases e : (piece l i m).length = m
        · rw [if_pos e] at h
          obtain ⟨c, hc, rfl⟩ := List.mem_map.mp h
          obtain ⟨p, hp, rfl⟩ := List.mem_map.mp hc
          obtain ⟨h1, h2⟩ := List.mem_filter.mp hp
          have h2 : p.2 = piece l i m := of_decide_eq_true h2
          have hl : p.2.length = m := by rw [h2]; exact e
          refine .inl ⟨i, hi, ?_⟩
          unfold byFat
          refine List.mem_append_right _ (List.mem_map.mpr ⟨p, List.mem_filter.mpr ⟨h1, decide_eq_true ?_⟩, by rw [hl]⟩)
          rw [hl]; exact h2.symm
        · rw [if_neg e] at h; cases h
      · unfold lex3 at h
        by_cases e : cond3 ma l i m = true
        · rw [if_pos e] at h
          obtain ⟨rfl, hi2, ht⟩ := cond3_two e
          refine .inr ⟨i, List.mem_range.mpr (by omega), ?_⟩
          unfold byMat
          rw [if_pos ht]
          rw [piece2 hi2] at h
          exact h
        · rw [if_neg e] at h; cases h
  · rintro (⟨i, hi, h⟩ | ⟨i, hi, h⟩)
    · have hil := List.mem_range.mp hi
      unfold byFat at h
      rcases List.mem_append.mp h with h | h
      · refine ⟨i, hi, List.mem_flatMap.mpr ⟨1, by simp, ?_⟩⟩
        unfold lexAt lex1
        rw [if_pos rfl]
        exact List.mem_append_left _ h
      · obtain ⟨p, hp, rfl⟩ := List.mem_map.mp h
        obtain ⟨h1, h2⟩ := List.mem_filter.mp hp
        have h2 : (l.drop i).take p.2.length = p.2 := of_decide_eq_true h2
        have hl := hw p h1
        refine ⟨i, hi, List.mem_flatMap.mpr ⟨p.2.length, ?_, ?_⟩⟩
        · have : p.2.length = 1 ∨ p.2.length = 2 ∨ p.2.length = 3 := by omega
          simpa using this
        · unfold lexAt
          refine List.mem_append_right _ (List.mem_append_left _ ?_)
          unfold lex2
          have e : piece l i p.2.length = p.2 := h2
          rw [e, if_pos rfl]
          exact List.mem_map.mpr ⟨p.1, List.mem_map.mpr ⟨p, List.mem_filter.mpr ⟨h1, decide_eq_true rfl⟩, rfl⟩, rfl⟩
    · have hil := List.mem_range.mp hi
      unfold byMat at h
      by_cases t : two ma (l.getD i 0) (l.getD (i + 1) 0) = true
      · rw [if_pos t] at h
        refine ⟨i, List.mem_range.mpr (by omega), List.mem_flatMap.mpr ⟨2, by simp, ?_⟩⟩
        unfold lexAt
        refine List.mem_append_right _ (List.mem_append_right _ ?_)
        unfold lex3
        rw [if_pos (two_cond3 (by omega) t), piece2 (by omega)]
        exact h
      · rw [if_neg t] at h; cases h
theorem lex_exs {fo : Fo} {ma : Ma} {l : List Nat} (hw : ∀ p ∈ fo, 1 ≤ p.2.length ∧ p.2.length ≤ 3) : setT (lex fo ma l) = exs fo ma l := setT_congr fun w => lex_mem hw
section
variable {K : PySem.W.Frag} {F H : Hp} {σ : L2.St} {te : TE} {r : List Sl} {DE : Ends} {tz : TS}
/-- an if, its two ways joined -/
theorem q_ifJ {tt : TT} {tu tw : TS} {b : Bool} (J : L2.St → Hp → Hp → Prop) (S : Same F H) (h : EvT K tt σ F b) (h1 : b = true → ∀ F' H' (N : L2.St → Hp → Prop), Ext [] F H F' H' → (∀ σ3 F3 H3, J σ3 F3 H3 → N σ3 H3) → tu { DE with nx := N } σ H')
    (h2 : b = false → ∀ F' H' (N : L2.St → Hp → Prop), Ext [] F H F' H' → (∀ σ3 F3 H3, J σ3 F3 H3 → N σ3 H3) → tw { DE with nx := N } σ H') (k : ∀ σ3 F3 H3, J σ3 F3 H3 → tz DE σ3 H3) : tSeq (tIfS tt tu tw) tz DE σ H :=
  h H S _ fun F' H' x => by
    cases b with
    | true => exact h1 rfl F' H' (tz DE) x k
    | false => exact h2 rfl F' H' (tz DE) x k
end
end Nm

set_option Elab.async false
set_option linter.all false
set_option maxRecDepth 100000
set_option maxHeartbeats 1000000
namespace Nm
open PySem PySem.Spec L2
theorem setT_eq {ws ys : List (List Nat)} (h1 : (ys.map mkS).Pairwise leS) (h2 : ys.Nodup) (h3 : ∀ w ∈ ys, w ∈ ws) (h4 : ∀ w ∈ ws, w ∈ ys) : setT ws = ys := by
  have nd : (ys.map mkS).Nodup := List.pairwise_map.mpr (h2.imp fun h e => h (mkS_inj e))
  have e : setS (ws.map mkS) = ys.map mkS := by
    refine sort_unique (nodup_perm (setS_nodup _) nd fun z => ?_) (sortS_pair _) h1
    rw [setS_mem, List.mem_map, List.mem_map]
    exact ⟨fun ⟨w, hw, e⟩ => ⟨w, h4 w hw, e⟩, fun ⟨w, hw, e⟩ => ⟨w, h3 w hw, e⟩⟩
  unfold setT
  rw [e, List.map_map]
  exact List.map_id'' (fun w => by simp [mkS]) _
theorem txts_ok : ∀ {ws : List (List Nat)}, (∀ w ∈ ws, ∀ c ∈ w, c < 1114112) → txtDL (ws.map txt) = true ∧ dpL (ws.map txt) = 0
  | [], _ => by simp only [List.map_nil, txtDL, dpL]; exact ⟨trivial, trivial⟩
  | w :: ws, h => by
    obtain ⟨h1, h2⟩ := txts_ok (ws := ws) fun v hv => h v (List.mem_cons_of_mem _ hv)
    have e : txtD (txt w) = true := by
      unfold txt
      simp only [txtD]
      exact strOk_of (h w List.mem_cons_self)
    have e2 : dp (txt w) = 0 := by unfold txt; simp only [dp]
    rw [List.map_cons, txtDL_cons, dpL_cons, h1, h2, e, e2]
    exact ⟨rfl, rfl⟩
theorem txts_lst {ws : List (List Nat)} (h : ∀ w ∈ ws, ∀ c ∈ w, c < 1114112) : txtD (.lst (ws.map txt)) = true ∧ dp (.lst (ws.map txt)) = 1 := by
  obtain ⟨h1, h2⟩ := txts_ok h
  simp only [txtD, dp, h1, h2]
  exact ⟨trivial, trivial⟩
theorem cutD_mem {ds : List D} {lo hi : Option Int} {d : D} (h : d ∈ cutD ds lo hi) : d ∈ ds := List.mem_of_mem_drop (List.mem_of_mem_take h)
section
variable {K : PySem.W.Frag} {F H : Hp} {σ : L2.St} {ta tb te ti : TE} {d e : D} {r : List Sl} {b : Addr} {n c i j : Nat} {R : D → Prop} {DE : Ends} {tz : TS}
theorem rv_mul_txt {w : List Nat} {n : Nat} (h1 : n ≤ 1000000) (h2 : w.length * n ≤ 16777216) : RvD K (rMulA K) (txt w) (.int (n : Nat)) (txt (List.replicate n w).flatten) := fun F H x y s hx hy Q q => by
  cases hx; cases hy
  refine .inr (.inl ⟨_, _, rfl, rfl, by omega, by omega, by rw [txt_len, Int.toNat_natCast, sizeLine_eq]; exact h2, ?_⟩)
  rw [Int.toNat_natCast]
  exact q _ F H (Ext.refl s) (.str _)
theorem mem_any {w : List Nat} : ∀ ws : List (List Nat), inV (tv w) (ws.map tv) = decide (w ∈ ws)
  | [] => rfl
  | v :: ws => by
    have ih := mem_any (w := w) ws
    unfold inV at ih ⊢
    rw [List.map_cons, List.any_cons, ih]
    have e : eqV (tv v) (tv w) = decide (w = v) := by
      show (mkS v == mkS w) = _
      by_cases h : w = v
      · subst h; simp
      · rw [decide_eq_false h]
        exact beq_eq_false_iff_ne.mpr fun e => h (mkS_inj e).symm
    rw [e]
    by_cases h : w = v
    · simp [h]
    · simp [h]
theorem flat_tv (ws : List (List Nat)) : (ws.map tv).all flatV = true := by
  rw [List.all_map]
  exact List.all_eq_true.mpr fun _ _ => rfl
theorem rv_notin_txts {w : List Nat} {ws : List (List Nat)} : RvD K (rNotInA K) (txt w) (.lst (ws.map txt)) (.bl (!decide (w ∈ ws))) := fun F H x y s hx hy Q q => by
  cases hx
  cases hy with
  | lst a l =>
    rw [denL_txts l] at a
    refine .inr (.inl ⟨_, _, rfl, .inl (SqL.of (s _ _ a)), rfl, flat_tv ws, ?_⟩)
    have := mem_any (w := w) ws
    show Q (.bl (!inV (tv w) (ws.map tv))) H
    rw [this]
    exact q _ F H (Ext.refl s) (.bl _)
theorem rv_in_txts {w : List Nat} {ws : List (List Nat)} : RvD K (rInA K) (txt w) (.lst (ws.map txt)) (.bl (decide (w ∈ ws))) := fun F H x y s hx hy Q q => by
  cases hx
  cases hy with
  | lst a l =>
    rw [denL_txts l] at a
    refine .inr (.inl ⟨_, _, rfl, .inl (SqL.of (s _ _ a)), rfl, flat_tv ws, ?_⟩)
    have := mem_any (w := w) ws
    show Q (.bl (inV (tv w) (ws.map tv))) H
    rw [this]
    exact q _ F H (Ext.refl s) (.bl _)
/-- a drawn text, cut -/
theorem eb_takeT {N : Nat} {P : List Nat → Prop} (h : EvB K b c te σ F (fun d => ∃ w, d = txt w ∧ P w ∧ w.length ≤ 16777216)) (hi : EvD K ti σ F (.int (N : Nat))) : EvB K b c (L2.tSl (rSlAny K) te tNo (tSome ti)) σ F (fun d => ∃ w, d = txt (w.take N) ∧ P w) := fun H n s w Q q =>
  h H n s w _ fun v d F1 H1 x1 w1 ⟨wd, e, hp, hz⟩ dv => by
    subst e
    have one : EvD K (fun _ H2 R => R v H2) σ F1 (txt wd) := fun H2 s2 R2 q2 => q2 v F1 H2 (Ext.refl s2) dv
    have := ev_takeT one (hi.up x1.f) hz H1 x1.s Q fun u F2 H2 x2 du => q u _ F2 H2 (x1.tl x2) (w1.ext0 x2) ⟨wd, rfl, hp⟩ du
    exact this
theorem ev_disp2 {x y : Str} {v u : V} (hd : ∀ F, Den K F v d) (he : ∀ F, Den K F u e) (hm : mergeK [] [((.inr x : Key), v), (.inr y, u)] = [(.inr x, v), (.inr y, u)]) : EvD K (tLk (tDisp [(tC (.str x), tC v), (tC (.str y), tC u)])) σ F (.dic [(.inr x, d), (.inr y, e)]) := fun H s Q q p hp => by
  refine ⟨upd_same, [(.inr x, v), (.inr y, u)], rfl, by simp, .inr ⟨p, _, rfl, upd_same, trivial, fun od => ?_⟩⟩
  rw [upd_upd, upd_upd, hm]
  exact q _ _ _ (Ext.new s hp) (.dic upd_same (.cons (hd _) (.cons (he _) .nil)))
end
end Nm

set_option Elab.async false
set_option linter.all false
set_option maxRecDepth 100000
set_option maxHeartbeats 1000000
/-! Ways made of single exchanges, in plain words. -/
namespace Nm
open PySem PySem.Spec L2
/-- each leads to the next -/
def isW (R : List Nat → List Nat → Prop) : List (List Nat) → Prop
  | [] => True
  | [_] => True
  | a :: b :: r => R a b ∧ isW R (b :: r)
theorem isW_cons {R : List Nat → List Nat → Prop} {a b : List Nat} {r : List (List Nat)} (h : R a b) (t : isW R (b :: r)) : isW R (a :: b :: r) := ⟨h, t⟩
theorem isW_app {R : List Nat → List Nat → Prop} {m : List Nat} {ys : List (List Nat)} : ∀ {xs : List (List Nat)}, isW R (xs ++ [m]) → isW R (m :: ys) → isW R (xs ++ m :: ys)
  | [], _, h => h
  | [a], h, t => ⟨h.1, t⟩
  | a :: b :: r, h, t => ⟨h.1, isW_app (xs := b :: r) h.2 t⟩
theorem isW_snoc {R : List Nat → List Nat → Prop} {a b : List Nat} {xs : List (List Nat)} (h : isW R (xs ++ [a])) (t : R a b) : isW R (xs ++ [a] ++ [b]) := by
  rw [List.append_assoc]
  exact isW_app h ⟨t, trivial⟩
theorem isW_rev {R : List Nat → List Nat → Prop} (sym : ∀ a b, R a b → R b a) : ∀ {ws : List (List Nat)}, isW R ws → isW R ws.reverse
  | [], _ => trivial
  | [a], _ => trivial
  | a :: b :: r, h => by
    have ih := isW_rev sym (ws := b :: r) h.2
    rw [List.reverse_cons] at ih ⊢
    rw [List.reverse_cons]
    exact isW_snoc ih (sym _ _ h.1)
theorem isW_get {R : List Nat → List Nat → Prop} : ∀ {ws : List (List Nat)} {i : Nat} {a b : List Nat}, isW R ws → ws[i]? = some a → ws[i + 1]? = some b → R a b
  | [], _, _, _, _, h, _ => by simp at h
  | [_], i, _, _, _, _, h => by cases i <;> simp at h
  | a :: b :: r, 0, x, y, h, h1, h2 => by
    simp at h1 h2
    rw [← h1, ← h2]; exact h.1
  | a :: b :: r, i + 1, x, y, h, h1, h2 => isW_get (i := i) h.2 (by simpa using h1) (by simpa using h2)
def lastL (d : List Nat) (ws : List (List Nat)) : List Nat := ws.getLastD d
/-! ### folding, from the left -/
def fw (fo : Fo) : List Nat → List Nat → List (List Nat)
  | _, [] => []
  | pre, c :: rest => match lk fo c with
    | some w => (pre ++ w ++ rest) :: fw fo (pre ++ w) rest
    | none => fw fo (pre ++ [c]) rest
theorem fw_len (fo : Fo) : ∀ (rest pre : List Nat), (fw fo pre rest).length ≤ rest.length
  | [], _ => Nat.le_refl _
  | c :: rest, pre => by
    unfold fw
    cases lk fo c with
    | none => have := fw_len fo rest (pre ++ [c]); simp only [List.length_cons]; omega
    | some w => have := fw_len fo rest (pre ++ w); simp only [List.length_cons]; omega
theorem fw_isW (fo : Fo) (ma : Ma) : ∀ (rest pre : List Nat), isW (Ex1 fo ma) ((pre ++ rest) :: fw fo pre rest)
  | [], _ => trivial
  | c :: rest, pre => by
    unfold fw
    cases h : lk fo c with
    | none =>
      have := fw_isW fo ma rest (pre ++ [c])
      rw [List.append_assoc] at this
      exact this
    | some w =>
      refine isW_cons ?_ (fw_isW fo ma rest (pre ++ w))
      rw [List.append_assoc]
      exact .fold pre rest h
theorem fw_last (fo : Fo) : ∀ (rest pre : List Nat), ((pre ++ rest) :: fw fo pre rest).getLast? = some (pre ++ folded fo rest)
  | [], pre => by simp [fw, folded]
  | c :: rest, pre => by
    unfold fw
    rw [folded_cons]
    cases h : lk fo c with
    | none =>
      have := fw_last fo rest (pre ++ [c])
      rw [foldS_none h]
      rw [List.append_assoc, List.append_assoc] at this
      exact this
    | some w =>
      have := fw_last fo rest (pre ++ w)
      rw [foldS_some h, List.getLast?_cons_cons]
      rw [← List.append_assoc]
      exact this
/-! ### ordering, the first two that are wrong -/
def fst1 (ma : Ma) : List Nat → Option (List Nat)
  | a :: b :: r => if wrong ma a b then some (b :: a :: r) else (fst1 ma (b :: r)).map (a :: ·)
  | _ => none
theorem fst1_none {ma : Ma} : ∀ {l : List Nat}, fst1 ma l = none → calmL ma l = true
  | [], _ => rfl
  | [_], _ => rfl
  | a :: b :: r, h => by
    unfold fst1 at h
    by_cases w : wrong ma a b = true
    · rw [if_pos w] at h; cases h
    · rw [if_neg w] at h
      have := fst1_none (l := b :: r) (Option.map_eq_none_iff.mp h)
      simp only [calmL, Bool.and_eq_true]
      exact ⟨by simpa using w, this⟩
theorem fst1_some {ma : Ma} : ∀ {l l' : List Nat}, fst1 ma l = some l' → ∃ x a b y, l = x ++ a :: b :: y ∧ l' = x ++ b :: a :: y ∧ wrong ma a b = true
  | [], _, h => by cases h
  | [_], _, h => by cases h
  | a :: b :: r, l', h => by
    unfold fst1 at h
    by_cases w : wrong ma a b = true
    · rw [if_pos w] at h
      cases h
      exact ⟨[], a, b, r, rfl, rfl, w⟩
    · rw [if_neg w] at h
      obtain ⟨l1, h1, rfl⟩ := Option.map_eq_some_iff.mp h
      obtain ⟨x, c, d, y, e1, e2, e3⟩ := fst1_some h1
      exact ⟨a :: x, c, d, y, by rw [e1]; rfl, by rw [e2]; rfl, e3⟩
theorem fst1_calm {ma : Ma} : ∀ {l : List Nat}, calmL ma l = true → fst1 ma l = none
  | [], _ => rfl
  | [_], _ => rfl
  | a :: b :: r, h => by
    simp only [calmL, Bool.and_eq_true] at h
    unfold fst1
    rw [if_neg (by simpa using h.1), fst1_calm (l := b :: r) h.2]
    rfl
theorem fst1_at {ma : Ma} : ∀ {i : Nat} {l : List Nat}, i + 1 < l.length → (∀ j, j < i → wrong ma (l.getD j 0) (l.getD (j + 1) 0) = false) → wrong ma (l.getD i 0) (l.getD (i + 1) 0) = true → fst1 ma l = some (put l i 2 [l.getD (i + 1) 0, l.getD i 0])
  | 0, a :: b :: r, _, _, h => by
    have h : wrong ma a b = true := h
    unfold fst1
    rw [if_pos h]
    rfl
  | i + 1, a :: b :: r, hl, hb, h => by
    have h0 : wrong ma a b = false := hb 0 (by omega)
    have ih := fst1_at (ma := ma) (i := i) (l := b :: r) (by simpa using hl) (fun j hj => by simpa using hb (j + 1) (by omega)) (by simpa using h)
    unfold fst1
    rw [if_neg (by rw [h0]; decide), ih]
    rfl
  | 0, [], h, _, _ => by simp at h
  | 0, [_], h, _, _ => by simp at h
  | i + 1, [], h, _, _ => by simp at h
  | i + 1, [_], h, _, _ => by simp at h
theorem wrong_two {ma : Ma} {a b : Nat} (h : wrong ma a b = true) : two ma a b = true := by
  obtain ⟨h1, h2, h3⟩ := wrong_ne h
  unfold two
  rw [h1, h2]
  simpa using h3
def ow (ma : Ma) : Nat → List Nat → List (List Nat)
  | 0, _ => []
  | n + 1, l => match fst1 ma l with
    | some l' => l' :: ow ma n l'
    | none => []
theorem ow_len (ma : Ma) : ∀ (n : Nat) (l : List Nat), (ow ma n l).length ≤ n
  | 0, _ => Nat.le_refl _
  | n + 1, l => by
    unfold ow
    cases fst1 ma l with
    | none => exact Nat.zero_le _
    | some l' => have := ow_len ma n l'; simp only [List.length_cons]; omega
theorem inv_fst {ma : Ma} {l l' : List Nat} (h : fst1 ma l = some l') : inv ma l' + 1 = inv ma l := by
  obtain ⟨x, a, b, y, rfl, rfl, w⟩ := fst1_some h
  exact inv_swap w (wrong_anti w) y x
theorem runs_fst {ma : Ma} {l l' : List Nat} (h : fst1 ma l = some l') : runs ma [] l' = runs ma [] l := by
  obtain ⟨x, a, b, y, rfl, rfl, w⟩ := fst1_some h
  obtain ⟨h1, h2, h3⟩ := wrong_ne w
  exact (runs_swap h1 h2 h3 y x []).symm
theorem ex1_fst {fo : Fo} {ma : Ma} {l l' : List Nat} (h : fst1 ma l = some l') : Ex1 fo ma l l' := by
  obtain ⟨x, a, b, y, rfl, rfl, w⟩ := fst1_some h
  exact .swap x y (wrong_two w)
theorem ow_isW (fo : Fo) (ma : Ma) : ∀ (n : Nat) (l : List Nat), isW (Ex1 fo ma) (l :: ow ma n l)
  | 0, _ => trivial
  | n + 1, l => by
    unfold ow
    cases h : fst1 ma l with
    | none => trivial
    | some l' => exact isW_cons (ex1_fst h) (ow_isW fo ma n l')
theorem ow_last {ma : Ma} (ok : okMa ma) : ∀ (n : Nat) (l : List Nat), inv ma l ≤ n → (l :: ow ma n l).getLast? = some (runs ma [] l)
  | 0, l, h => by
    cases e : fst1 ma l with
    | none =>
      have := runs_calm ok l [] (by simp) (fst1_none e)
      rw [this]; simp [ow]
    | some l' => have := inv_fst e; omega
  | n + 1, l, h => by
    unfold ow
    cases e : fst1 ma l with
    | none =>
      have := runs_calm ok l [] (by simp) (fst1_none e)
      rw [this]; simp
    | some l' =>
      have h1 := inv_fst e
      have := ow_last ok n l' (by omega)
      show (l :: l' :: ow ma n l').getLast? = _
      rw [List.getLast?_cons_cons, this, runs_fst e]
theorem inv_le (ma : Ma) : ∀ l : List Nat, inv ma l ≤ l.length * l.length
  | [] => Nat.le_refl _
  | a :: l => by
    have h := inv_le ma l
    have h2 := List.length_filter_le (wrong ma a) l
    simp only [inv, List.length_cons]
    have : (l.length + 1) * (l.length + 1) = l.length * l.length + 2 * l.length + 1 := by rw [Nat.add_mul, Nat.mul_add]; omega
    omega
/-! ### the way to the key, the way from name to name -/
def wayK (fo : Fo) (ma : Ma) (l : List Nat) : List (List Nat) := (l :: fw fo [] l) ++ ow ma (inv ma (folded fo l)) (folded fo l)
theorem app_last {a : List Nat} {xs ys : List (List Nat)} (h : xs.getLast? = some a) : ∃ zs, xs = zs ++ [a] := by
  obtain ⟨zs, rfl⟩ := List.getLast?_eq_some_iff.mp h
  exact ⟨zs, rfl⟩
section
variable {sg : Nat → Bool} {fo : Fo} {ma : Ma}
theorem wayK_split (fo : Fo) (ma : Ma) (l : List Nat) : ∃ zs, l :: fw fo [] l = zs ++ [folded fo l] ∧ wayK fo ma l = zs ++ (folded fo l :: ow ma (inv ma (folded fo l)) (folded fo l)) := by
  have h := fw_last fo l []
  simp only [List.nil_append] at h
  obtain ⟨zs, e⟩ := app_last (ys := []) h
  refine ⟨zs, e, ?_⟩
  unfold wayK
  rw [e, List.append_assoc]
  rfl
theorem wayK_isW (fo : Fo) (ma : Ma) (l : List Nat) : isW (Ex1 fo ma) (wayK fo ma l) := by
  obtain ⟨zs, e1, e2⟩ := wayK_split fo ma l
  rw [e2]
  refine isW_app ?_ (ow_isW fo ma _ _)
  rw [← e1]
  have := fw_isW fo ma l []
  simpa using this
theorem wayK_last (ok : okTab sg fo ma) (l : List Nat) : (wayK fo ma l).getLast? = some (key fo ma l) := by
  obtain ⟨zs, e1, e2⟩ := wayK_split fo ma l
  rw [e2, List.getLast?_append, ow_last ok.okMa _ _ (Nat.le_refl _)]
  rfl
theorem wayK_head (fo : Fo) (ma : Ma) (l : List Nat) : ∃ r, wayK fo ma l = l :: r := ⟨_, rfl⟩
theorem wayK_len (ok : okTab sg fo ma) {l : List Nat} (hl : ∀ c ∈ l, sg c = true) : (wayK fo ma l).length ≤ 1 + l.length + 9 * (l.length * l.length) := by
  unfold wayK
  rw [List.length_append, List.length_cons]
  have h1 := fw_len fo l []
  have h2 := ow_len ma (inv ma (folded fo l)) (folded fo l)
  have h3 := inv_le ma (folded fo l)
  have h4 := (folded_len ok hl).2
  have h5 : (folded fo l).length * (folded fo l).length ≤ (3 * l.length) * (3 * l.length) := Nat.mul_le_mul h4 h4
  have h6 : (3 * l.length) * (3 * l.length) = 9 * (l.length * l.length) := by
    rw [Nat.mul_assoc, Nat.mul_left_comm l.length, ← Nat.mul_assoc, ← Nat.mul_assoc]
  omega
theorem isW_all (ok : okTab sg fo ma) : ∀ {ws : List (List Nat)} {a : List Nat}, isW (Ex1 fo ma) (a :: ws) → (∀ c ∈ a, sg c = true) → 1 ≤ a.length → ∀ w ∈ a :: ws, (∀ c ∈ w, sg c = true) ∧ 1 ≤ w.length ∧ key fo ma w = key fo ma a
  | [], a, _, h1, h2, w, hw => by
    have : w = a := by simpa using hw
    subst this
    exact ⟨h1, h2, rfl⟩
  | b :: ws, a, h, h1, h2, w, hw => by
    rcases List.mem_cons.mp hw with rfl | hw
    · exact ⟨h1, h2, rfl⟩
    · have hb := ex1_sign ok h.1 h1
      have hbl := (ex1_len ok h.1).2 h2
      obtain ⟨g1, g2, g3⟩ := isW_all ok (ws := ws) (a := b) h.2 hb hbl w hw
      exact ⟨g1, g2, g3.trans (ex1_key ok h.1)⟩
/-- each string of a way is at most as long as its key -/
theorem len_key (ok : okTab sg fo ma) {w : List Nat} (h : ∀ c ∈ w, sg c = true) : w.length ≤ (key fo ma w).length := (key_len ok h).1
def findW (fo : Fo) (ma : Ma) (a b : List Nat) : List (List Nat) := wayK fo ma a ++ (wayK fo ma b).reverse.drop 1
theorem findW_ok (ok : okTab sg fo ma) {a b : List Nat} (e : key fo ma a = key fo ma b) : isW (Ex1 fo ma) (findW fo ma a b) ∧ (∃ r, findW fo ma a b = a :: r) ∧ (findW fo ma a b).getLast? = some b := by
  have ha := wayK_last ok a
  have hb := wayK_last ok b
  obtain ⟨za, ea⟩ := app_last (ys := []) ha
  obtain ⟨zb, eb⟩ := app_last (ys := []) hb
  have rb : (wayK fo ma b).reverse = key fo ma b :: zb.reverse := by rw [eb, List.reverse_append]; rfl
  have wb : isW (Ex1 fo ma) (key fo ma b :: zb.reverse) := by
    rw [← rb]
    exact isW_rev (fun x y h => ex1_symm ok h) (wayK_isW fo ma b)
  refine ⟨?_, ⟨_, rfl⟩, ?_⟩
  · unfold findW
    rw [rb, ea, List.append_assoc]
    show isW _ (za ++ (key fo ma a :: zb.reverse))
    refine isW_app ?_ (by rw [e]; exact wb)
    rw [← ea]
    exact wayK_isW fo ma a
  · unfold findW
    rw [rb]
    show (wayK fo ma a ++ zb.reverse).getLast? = some b
    rw [List.getLast?_append]
    obtain ⟨r, er⟩ := wayK_head fo ma b
    cases zb with
    | nil =>
      rw [er] at eb
      have e1 : b = key fo ma b := by
        have := congrArg List.head? eb
        simpa using this
      rw [ha, e, ← e1]
      rfl
    | cons z zs =>
      rw [er] at eb
      have e1 : b = z := by
        have := congrArg List.head? eb
        simpa using this
      rw [List.getLast?_reverse, ← e1]
      rfl
theorem findW_len (ok : okTab sg fo ma) {a b : List Nat} (ha : ∀ c ∈ a, sg c = true) (hb : ∀ c ∈ b, sg c = true) : (findW fo ma a b).length ≤ 2 + a.length + b.length + 9 * (a.length * a.length) + 9 * (b.length * b.length) := by
  unfold findW
  rw [List.length_append, List.length_drop, List.length_reverse]
  have h1 := wayK_len ok ha
  have h2 := wayK_len ok hb
  omega
end
/-! ### the first index at which two differ -/
def fdiff : List Nat → List Nat → Nat
  | a :: as, b :: bs => if a = b then fdiff as bs + 1 else 0
  | _, _ => 0
theorem fdiff_le : ∀ (a b : List Nat), fdiff a b ≤ a.length
  | [], _ => Nat.le_refl _
  | _ :: _, [] => Nat.zero_le _
  | a :: as, b :: bs => by
    unfold fdiff
    split
    · have := fdiff_le as bs; simp only [List.length_cons]; omega
    · exact Nat.zero_le _
theorem fdiff_lt : ∀ (a b : List Nat) (i : Nat), i < fdiff a b → (a.drop i).take 1 = (b.drop i).take 1 ∧ ∃ c, (a.drop i).take 1 = [c]
  | [], _, i, h => by simp [fdiff] at h
  | _ :: _, [], i, h => by simp [fdiff] at h
  | a :: as, b :: bs, i, h => by
    unfold fdiff at h
    by_cases e : a = b
    · rw [if_pos e] at h
      cases i with
      | zero => subst e; exact ⟨rfl, a, rfl⟩
      | succ i => exact fdiff_lt as bs i (by omega)
    · rw [if_neg e] at h; omega
theorem fdiff_at : ∀ (a b : List Nat), a ≠ b → (a.drop (fdiff a b)).take 1 ≠ (b.drop (fdiff a b)).take 1
  | [], [], h => absurd rfl h
  | [], b :: bs, _ => by simp [fdiff]
  | a :: as, [], _ => by simp [fdiff]
  | a :: as, b :: bs, h => by
    unfold fdiff
    by_cases e : a = b
    · rw [if_pos e]
      subst e
      have := fdiff_at as bs fun z => h (by rw [z])
      simpa using this
    · rw [if_neg e]
      simpa using e
end Nm

set_option Elab.async false
set_option linter.all false
set_option maxRecDepth 100000
set_option maxHeartbeats 1000000
namespace Nm
open PySem PySem.Spec L2
section
variable {K : PySem.W.Frag} {F H : Hp} {σ : L2.St} {ta tb te ti : TE} {d e : D} {r : List Sl} {DE : Ends} {tz : TS} {p : Addr} {i j : Nat}
/-- behind a turn of a while -/
def WN (K : PySem.W.Frag) (M : List Addr) (F H : Hp) (Pv : Nat → Hp → Hp → List Sl → Prop) (n : Nat) : L2.St → Hp → Prop := fun σ3 H3 => ∃ n' F3 r3, n' < n ∧ Ext M F H F3 H3 ∧ EnvD K F3 r3 σ3 ∧ Pv n' F3 H3 r3
theorem s_while {c : TT} {tb : TS} (M : List Addr) (Pv : Nat → Hp → Hp → List Sl → Prop) (S : Same F H) (E : EnvD K F r σ) (n0 : Nat) (h0 : Pv n0 F H r)
    (hs : ∀ n F1 H1 r1 σ1 (Qw : Bool → Hp → Prop), Ext M F H F1 H1 → EnvD K F1 r1 σ1 → Pv n F1 H1 r1 → (∀ H2, tb { DE with nx := WN K M F H Pv n, ct := WN K M F H Pv n, bk := DE.nx } σ1 H2 → Qw true H2) → (∀ H2, DE.nx σ1 H2 → Qw false H2) → c σ1 H1 Qw) : tWhile c tb DE σ H := by
  refine ⟨fun m σ' H' => ∃ F' r', Ext M F H F' H' ∧ EnvD K F' r' σ' ∧ Pv m F' H' r', ⟨n0, F, r, Ext.refl S, E, h0⟩, ?_⟩
  rintro m σ' H' ⟨F', r', x, E', pv⟩
  refine hs m F' H' r' σ' _ x E' pv (fun H2 h => ?_) (fun H2 h => ?_)
  · rw [if_pos rfl]
    exact ⟨WN K M F H Pv m, fun σ3 H3 ⟨n', F3, r3, lt, x3, E3, p3⟩ => ⟨n', lt, F3, r3, x3, E3, p3⟩, h⟩
  · rw [if_neg (by decide)]
    exact h
theorem q_while {c : TT} {tb : TS} (M : List Addr) (Pv : Nat → Hp → Hp → List Sl → Prop) (S : Same F H) (E : EnvD K F r σ) (n0 : Nat) (h0 : Pv n0 F H r)
    (hs : ∀ n F1 H1 r1 σ1 (Qw : Bool → Hp → Prop), Ext M F H F1 H1 → EnvD K F1 r1 σ1 → Pv n F1 H1 r1 → (∀ H2, tb { DE with nx := WN K M F H Pv n, ct := WN K M F H Pv n, bk := tz DE } σ1 H2 → Qw true H2) → (∀ H2, tz DE σ1 H2 → Qw false H2) → c σ1 H1 Qw) : tSeq (tWhile c tb) tz DE σ H := s_while (DE := { DE with nx := tz DE }) M Pv S E n0 h0 hs
/-- a text made of what stands in a list of one's own -/
theorem ed_lendT {ws : List (List Nat)} {z : List Nat} (S : Same F H) (E : EnvD K F r σ) (hi : r[i]? = some (.v (.ref p))) (w : Own F H p (.lst (ws.map tv))) (h : ∀ F', Same F F' → EnvD K F' (r.set i (.d (.lst (ws.map txt)))) σ → EvD K te σ F' (txt z))
    {Q : VK} (k : ∀ F' H', Ext [] F H F' H' → Own F' H' p (.lst (ws.map tv)) → Q (tv z) H') : te σ H Q := by
  have g : Same F (upd F p (.lst (ws.map tv))) := same_new w.f
  refine h _ g ((E.up g).seeV hi (.lst upd_same (DenL.txts ws))) H (lend w S) Q fun v F1 H1 x dv => ?_
  obtain ⟨h1, h2⟩ := Ext.thaw w S x
  cases dv
  exact k _ _ h1 h2
theorem q_asgLT {ws : List (List Nat)} {z : List Nat} (S : Same F H) (E : EnvD K F r σ) (hi : r[i]? = some (.v (.ref p))) (w : Own F H p (.lst (ws.map tv))) (h : ∀ F', Same F F' → EnvD K F' (r.set i (.d (.lst (ws.map txt)))) σ → EvD K te σ F' (txt z))
    (k : ∀ F' H' σ', Ext [] F H F' H' → Own F' H' p (.lst (ws.map tv)) → EnvD K F' (r.set j (.d (txt z))) σ' → tz DE σ' H') : tSeq (tAsg te (gName j)) tz DE σ H :=
  ed_lendT S E hi w h fun F' H' x o => k F' H' _ x o (EnvD.set j (E.up x.f) ⟨tv z, rfl, .str _⟩)
theorem s_appLT {ws : List (List Nat)} {z : List Nat} (S : Same F H) (E : EnvD K F r σ) (hp : r[i]? = some (.v (.ref p))) (w : Own F H p (.lst (ws.map tv))) (h : ∀ F', Same F F' → EnvD K F' (r.set i (.d (.lst (ws.map txt)))) σ → EvD K te σ F' (txt z)) (hz : ws.length < 100000)
    (k : ∀ F' H', Ext [p] F H F' H' → Own F' H' p (.lst ((ws ++ [z]).map tv)) → EnvD K F' r σ → DE.nx σ H') : tDrop (tBM K "list" rAppend (tVar i) (tCons te tNil)) DE σ H := by
  obtain ⟨o, h1, h2⟩ := E.get hp
  have h2 : o = some (.ref p) := h2
  subst h2
  refine ⟨_, h1, .inl ⟨rfl, _, SqL.of w.h⟩, ed_lendT S E hp w h fun F' H' x o => ⟨p, _, _, rfl, rfl, o.h, ?_, ?_⟩⟩
  · rw [List.length_map, sizeLine_eq]; omega
  · refine k F' _ (x.tr (o.set x.s)) ⟨o.f, ?_⟩ (E.up x.f)
    rw [upd_same, List.map_append]
    rfl
theorem q_appLT {ws : List (List Nat)} {z : List Nat} (S : Same F H) (E : EnvD K F r σ) (hp : r[i]? = some (.v (.ref p))) (w : Own F H p (.lst (ws.map tv))) (h : ∀ F', Same F F' → EnvD K F' (r.set i (.d (.lst (ws.map txt)))) σ → EvD K te σ F' (txt z)) (hz : ws.length < 100000)
    (k : ∀ F' H', Ext [p] F H F' H' → Own F' H' p (.lst ((ws ++ [z]).map tv)) → EnvD K F' r σ → tz DE σ H') : tSeq (tDrop (tBM K "list" rAppend (tVar i) (tCons te tNil))) tz DE σ H := s_appLT (DE := { DE with nx := tz DE }) S E hp w h hz k
/-- xs[-1] -/
theorem ev_neg1 : EvD K (tUn (rU fun i => V.int (-i)) (tC (.int 1))) σ F (.int (-1)) := ev_un (ev_c (.int 1)) ru_neg
theorem atI_neg1 {α : Type} {l : List α} {a : α} (h : l.getLast? = some a) : atI l (-1) = some a := by
  obtain ⟨zs, rfl⟩ := List.getLast?_eq_some_iff.mp h
  exact atI_last zs a
theorem ev_last {ws : List (List Nat)} {w : List Nat} (h : EvD K te σ F (.lst (ws.map txt))) (e : ws.getLast? = some w) : EvD K (tOp (rIxA K) te (tUn (rU fun i => V.int (-i)) (tC (.int 1)))) σ F (txt w) :=
  ev_op h ev_neg1 (rv_ix_lst (atI_neg1 (by rw [List.getLast?_map, e]; rfl)))
theorem ev_ixT {l : List Nat} {c : Nat} (h : EvD K te σ F (txt l)) (hi : EvD K ti σ F (.int (i : Nat))) (e : l[i]? = some c) (hz : l.length ≤ 16777216) : EvD K (tOp (rIxA K) te ti) σ F (txt [c]) :=
  ev_op h hi (rv_ix_str (by rw [txt_len, sizeLine_eq]; exact hz) (atI_nat e))
/-- x += e, whole numbers -/
theorem s_augN {m n : Nat} (S : Same F H) (E : EnvD K F r σ) (hi : r[i]? = some (.d (.int (m : Nat)))) (h : EvD K te σ F (.int (n : Nat))) (k : ∀ F' H' σ', Ext [] F H F' H' → EnvD K F' (r.set i (.d (.int ((m + n : Nat) : Int)))) σ' → DE.nx σ' H') : tAug i te (ipI fun i j => i + j) DE σ H := by
  obtain ⟨o, h1, v, h2, h3⟩ := E.get hi
  subst h2
  cases h3
  refine ⟨_, h1, h H S _ fun y F' H' x dy => ?_⟩
  cases dy
  refine ⟨_, _, rfl, rfl, k F' H' _ x ?_⟩
  show EnvD K F' _ (σ.set i (some (.int ((m : Int) + (n : Int)))))
  have e : ((m : Int) + (n : Int)) = ((m + n : Nat) : Int) := by omega
  rw [e]
  exact EnvD.set i (E.up x.f) ⟨_, rfl, .int _⟩
/-- xs[1:] of a list -/
theorem ev_tail {ds : List D} (h : EvD K te σ F (.lst ds)) : EvD K (L2.tSl (rSlAny K) te (tSome (tC (.int 1))) tNo) σ F (.lst (ds.drop 1)) := by
  refine ev_is (ev_sl_lst h (eo_some (ev_c (.int 1))) eo_none) ?_
  unfold cutD
  have e1 : HT.sIx ds.length 0 (some (1 : Int)) = min 1 ds.length := HT.sIx_nat _ _ 1
  rw [e1, HT.sIx_none]
  congr 1
  cases ds with
  | nil => rfl
  | cons d ds =>
    simp only [List.length_cons]
    rw [show min 1 (ds.length + 1) = 1 by omega]
    exact List.take_of_length_le (by simp)
/-- is None -/
theorem rv_isN {b : Bool} (hb : (match d with | .non => true | _ => false) = b) : RvD K rIsNone d .non (.bl b) := fun F H x y s hx hy Q q => by
  cases hy
  refine ⟨rfl, ?_⟩
  have : decide (x = V.non) = b := by
    subst hb
    cases hx <;> simp
  rw [this]
  exact q _ F H (Ext.refl s) (.bl _)
end
/-! zip of two lists, by data -/
section
variable {K : PySem.W.Frag} {F H : Hp} {σ : L2.St} {ta : TA}
theorem ei_zip {xs ys : List D} (h : EvA K ta σ F [.lst xs, .lst ys]) : EvI K (iZip K ta) σ F ((List.zip xs ys).map fun p => .tup [p.1, p.2]) := fun H s R q => h H s _ fun vs F1 H1 x1 dl => by
  cases dl with
  | cons a t =>
    cases t with
    | cons b t =>
      cases t
      cases a with
      | lst ra la =>
        cases b with
        | lst rb lb =>
          rename_i pa va pb vb
          refine ⟨_, _, _, _, rfl, SqL.of (x1.s _ _ ra), SqL.of (x1.s _ _ rb), q _ F1 H1 x1 ⟨fun H => SqL K H pa va ∧ SqL K H pb vb, YPair (fun i => va[i]?) (fun i => vb[i]?), ?_, fun H s => ⟨SqL.of (s _ _ ra), SqL.of (s _ _ rb)⟩, fun i H v H' hi s y => ?_⟩⟩
          · refine walk_zip ?_
            rw [List.length_map, List.length_zip, la.length, lb.length]
          · obtain ⟨T, x, y, rfl, h2, rfl, h3, h4⟩ := y
            obtain ⟨dx, e1, g1⟩ := la.getV h3
            obtain ⟨dy, e2, g2⟩ := lb.getV h4
            have y1 := Ext.new (o := .tup [x, y]) s h2
            refine ⟨.tup [dx, dy], _, ?_, y1, .tup (SqT.of upd_same) (.cons (g1.up y1.f) (.cons (g2.up y1.f) .nil))⟩
            rw [List.getElem?_map, List.getElem?_zip_eq_some (z := (dx, dy)) |>.mpr ⟨e1, e2⟩]
            rfl
end
end Nm

set_option Elab.async false
set_option linter.all false
set_option maxRecDepth 100000
set_option maxHeartbeats 1000000
namespace Nm
open PySem PySem.Spec L2
section
variable {K : PySem.W.Frag} {F H : Hp} {σ : L2.St} {ta tb te ti : TE} {d e : D} {r : List Sl} {DE : Ends} {tz : TS} {p q : Addr} {i j k : Nat}
theorem txts_of {F : Hp} : ∀ {ws : List (List Nat)} {xs : List V}, DenL K F xs (ws.map txt) → xs = ws.map tv
  | [], _, h => by cases h; rfl
  | w :: ws, _, h => by
    cases h with
    | cons a t =>
      have := txts_of t
      subst this
      cases a
      rfl
/-- a, b, c = own list, datum, datum -/
theorem q_own3 {ws : List (List Nat)} (S : Same F H) (E : EnvD K F r σ) (h1 : EvL K ta σ F (ws.map txt)) (h2 : EvD K tb σ F d) (h3 : EvD K te σ F e)
    (kk : ∀ p F' H' σ', H p = none → Ext [] F H F' H' → Own F' H' p (.lst (ws.map tv)) → EnvD K F' (((r.set i (.v (.ref p))).set j (.d d)).set k (.d e)) σ' → tz DE σ' H') :
    tSeq (tPar3 i j k (tCons ta (tCons tb (tCons te tNil)))) tz DE σ H :=
  h1 H S _ fun p xs F1 H1 hp x1 o1 l1 => (h2.up x1.f) H1 x1.s _ fun v2 F2 H2 x2 d2 => ((h3.up x1.f).up x2.f) H2 x2.s _ fun v3 F3 H3 x3 d3 => by
    have := txts_of l1
    subst this
    exact ⟨_, _, _, rfl, kk p F3 _ _ hp ((x1.tr x2).tr x3) ((o1.ext0 x2).ext0 x3) (EnvD.set k (EnvD.set j (EnvD.set (s := .v (.ref p)) i (((E.up x1.f).up x2.f).up x3.f) rfl) ⟨_, rfl, d2.up x3.f⟩) ⟨_, rfl, d3⟩)⟩
/-- a, b = own list, datum -/
theorem q_own2 {ws : List (List Nat)} (S : Same F H) (E : EnvD K F r σ) (h1 : EvL K ta σ F (ws.map txt)) (h2 : EvD K tb σ F d)
    (kk : ∀ p F' H' σ', H p = none → Ext [] F H F' H' → Own F' H' p (.lst (ws.map tv)) → EnvD K F' ((r.set i (.v (.ref p))).set j (.d d)) σ' → tz DE σ' H') :
    tSeq (tPar i j (tCons ta (tCons tb tNil))) tz DE σ H :=
  h1 H S _ fun p xs F1 H1 hp x1 o1 l1 => (h2.up x1.f) H1 x1.s _ fun v2 F2 H2 x2 d2 => by
    have := txts_of l1
    subst this
    exact ⟨_, _, rfl, kk p F2 H2 _ hp (x1.tr x2) (o1.ext0 x2) (EnvD.set j (EnvD.set (s := .v (.ref p)) i ((E.up x1.f).up x2.f) rfl) ⟨_, rfl, d2⟩)⟩
/-- a test that looks into a list of texts of one's own, within a while -/
theorem et_lendT {ws : List (List Nat)} {tt : TT} {b : Bool} (S : Same F H) (E : EnvD K F r σ) (hi : r[i]? = some (.v (.ref p))) (w : Own F H p (.lst (ws.map tv))) (h : ∀ F', Same F F' → EnvD K F' (r.set i (.d (.lst (ws.map txt)))) σ → EvT K tt σ F' b)
    {Q : Bool → Hp → Prop} (k : ∀ F' H', Ext [] F H F' H' → Own F' H' p (.lst (ws.map tv)) → EnvD K F' r σ → Q b H') : tt σ H Q :=
  et_lend S E hi w (DenL.txts ws) h fun F' H' x o => k F' H' x o (E.up x.f)
/-- two lists of one's own are lent at once -/
theorem lend2 {o u : HO} (S : Same F H) (w1 : Own F H p o) (w2 : Own F H q u) (ne : p ≠ q) : Same F (upd (upd F p o) q u) ∧ Same (upd (upd F p o) q u) H ∧ ∀ F1 H1, Ext [] (upd (upd F p o) q u) H F1 H1 → ∃ F', Ext [] F H F' H1 ∧ Own F' H1 p o ∧ Own F' H1 q u := by
  have w2' : Own (upd F p o) H q u := ⟨by rw [upd_ne ne.symm]; exact w2.f, w2.h⟩
  have s1 := lend w1 S
  refine ⟨(same_new w1.f).trans (same_new w2'.f), lend w2' s1, fun F1 H1 x => ?_⟩
  obtain ⟨y1, o2⟩ := Ext.thaw w2' s1 x
  obtain ⟨y2, o1⟩ := Ext.thaw w1 S y1
  refine ⟨_, y2, o1, ⟨?_, o2.h⟩⟩
  rw [del_ne ne.symm]
  exact o2.f
theorem q_skip2 {o u : HO} {tt : TT} {tq : TS} (S : Same F H) (E : EnvD K F r σ) (w1 : Own F H p o) (w2 : Own F H q u) (ne : p ≠ q)
    (h : ∀ F', Same F F' → F' p = some o → F' q = some u → EvT K tt σ F' false)
    (k : ∀ F' H', Ext [] F H F' H' → Own F' H' p o → Own F' H' q u → EnvD K F' r σ → tz DE σ H') : tSeq (tIfS tt tq tNext) tz DE σ H := by
  obtain ⟨g1, g2, g3⟩ := lend2 S w1 w2 ne
  refine h _ g1 (by rw [upd_ne ne]; exact upd_same) upd_same H g2 _ fun F1 H1 x => ?_
  obtain ⟨F', x1, o1, o2⟩ := g3 F1 H1 x
  rw [if_neg (by decide)]
  exact k F' H1 x1 o1 o2 (E.up x1.f)
theorem q_asgT2 {o u : HO} {z : Str} (S : Same F H) (E : EnvD K F r σ) (w1 : Own F H p o) (w2 : Own F H q u) (ne : p ≠ q)
    (h : ∀ F', Same F F' → F' p = some o → F' q = some u → EvD K te σ F' (.str z))
    (k : ∀ F' H' σ', Ext [] F H F' H' → Own F' H' p o → Own F' H' q u → EnvD K F' (r.set i (.d (.str z))) σ' → tz DE σ' H') : tSeq (tAsg te (gName i)) tz DE σ H := by
  obtain ⟨g1, g2, g3⟩ := lend2 S w1 w2 ne
  refine h _ g1 (by rw [upd_ne ne]; exact upd_same) upd_same H g2 _ fun v F1 H1 x dv => ?_
  obtain ⟨F', x1, o1, o2⟩ := g3 F1 H1 x
  cases dv
  exact k F' H1 _ x1 o1 o2 (EnvD.set i (E.up x1.f) ⟨_, rfl, .str _⟩)
end
theorem fst1_len {ma : Ma} {l l' : List Nat} (h : fst1 ma l = some l') : l'.length = l.length := by
  obtain ⟨x, a, b, y, rfl, rfl, w⟩ := fst1_some h
  simp
theorem fst1_no {ma : Ma} : ∀ {l : List Nat}, (∀ j, j < l.length - 1 → wrong ma (l.getD j 0) (l.getD (j + 1) 0) = false) → fst1 ma l = none
  | [], _ => rfl
  | [_], _ => rfl
  | a :: b :: r, h => by
    have h0 : wrong ma a b = false := h 0 (by simp)
    have ih := fst1_no (ma := ma) (l := b :: r) fun j hj => by
      have := h (j + 1) (by simp only [List.length_cons] at hj ⊢; omega)
      simpa using this
    unfold fst1
    rw [if_neg (by rw [h0]; decide), ih]
    rfl
theorem fst1_runs {ma : Ma} (ok : okMa ma) : ∀ (n : Nat) (l : List Nat), inv ma l ≤ n → fst1 ma (runs ma [] l) = none := by
  intro n
  induction n with
  | zero =>
    intro l h
    cases e : fst1 ma l with
    | none =>
      have := runs_calm ok l [] (by simp) (fst1_none e)
      rw [this]; exact e
    | some l' => have := inv_fst e; omega
  | succ n ih =>
    intro l h
    cases e : fst1 ma l with
    | none =>
      have := runs_calm ok l [] (by simp) (fst1_none e)
      rw [this]; exact e
    | some l' =>
      have := inv_fst e
      rw [← runs_fst e]
      exact ih l' (by omega)
section
variable {K : PySem.W.Frag}
theorem eqv_nil (ds : List D) : PyData.eqv (toPy (.lst ds)) (toPy (.lst [])) = ds.isEmpty := by
  cases ds <;> simp [toPy, toPyL, PyData.eqv, PyData.eqvAll]
theorem rv_eq_nil {ds : List D} (h : txtD (.lst ds) = true) (h1 : dp (.lst ds) ≤ 64) : RvD K (rEqA K) (.lst ds) (.lst []) (.bl ds.isEmpty) := fun F H x y s hx hy Q q => by
  refine .inr ⟨_, _, den_dp s _ hx (plain_of _ h), den_dp s _ hy (plain_of (.lst []) rfl), shaped_of h h1, shaped_of (d := .lst []) rfl (by decide), ?_⟩
  rw [eqv_nil]
  exact q _ F H (Ext.refl s) (.bl _)
theorem rv_ne_nil {ds : List D} (h : txtD (.lst ds) = true) (h1 : dp (.lst ds) ≤ 64) : RvD K (rNeA K) (.lst ds) (.lst []) (.bl (!ds.isEmpty)) := fun F H x y s hx hy Q q => by
  refine .inr ⟨_, _, den_dp s _ hx (plain_of _ h), den_dp s _ hy (plain_of (.lst []) rfl), shaped_of h h1, shaped_of (d := .lst []) rfl (by decide), ?_⟩
  rw [eqv_nil]
  exact q _ F H (Ext.refl s) (.bl _)
theorem rv_eq_two {z : Str} {n : Int} (h : txtD (.str z) = true) : RvD K (rEqA K) (.tup [.str z, .int n]) (.tup [.str z, .int n]) (.bl true) := fun F H x y s hx hy Q q => by
  have c : (toPy (.tup [.str z, .int n])).canLay0 = true := by
    have := (show_of _ h).2.1
    simp [toPy, toPyL, PyData.canLay0, PyData.canLayAll0] at this ⊢
    exact this
  have sh : SeqAt.shaped (toPy (.tup [.str z, .int n])) = true := by
    unfold SeqAt.shaped
    rw [c]
    simp [toPy, toPyL, PyData.depth, PyData.depthAll]
  refine .inr ⟨_, _, den_dp s _ hx rfl, den_dp s _ hy rfl, sh, sh, ?_⟩
  rw [SeqAt.eqv_refl _ c]
  exact q _ F H (Ext.refl s) (.bl _)
end
end Nm

set_option Elab.async false
set_option linter.all false
set_option maxRecDepth 100000
set_option maxHeartbeats 1000000
namespace Nm
open PySem PySem.Spec L2 PyProof.Rows
section
variable {P : Program} {w : World} {A : Around} {E : Value → Shared → Prop} {s : Shared}
def sgns (x : Str) : List Str := x.cps.toList.map fun c => ⟨#[c]⟩
theorem items_strs {x : Str} {acc : Array Value} (h : ItemsOf (SignAt x) acc x.cps.size) : StrsAre acc.toList (sgns x) := by
  have all : ∀ v ∈ acc.toList, ∃ z t, v = Value.str z t := fun v hv => by
    obtain ⟨i, hi, e⟩ := List.getElem_of_mem hv
    have : acc[i]? = some v := by rw [← e]; simp at hi ⊢
    obtain ⟨c, u, _, rfl⟩ := h.2 i v this
    exact ⟨_, _, rfl⟩
  have hS := strsAre_map acc.toList all
  have e : acc.toList.map strOf = sgns x := by
    apply List.ext_getElem?
    intro i
    unfold sgns
    rw [List.getElem?_map, List.getElem?_map]
    by_cases hi : i < acc.size
    · have g : acc[i]? = some acc[i] := Array.getElem?_eq_getElem hi
      obtain ⟨c, u, h1, h2⟩ := h.2 i _ g
      have g2 : acc.toList[i]? = some acc[i] := by rw [Array.getElem?_toList]; exact g
      have h3 : x.cps.toList[i]? = some c := by rw [Array.getElem?_toList]; exact h1
      rw [g2, h3, h2]
      rfl
    · have h1 : acc.toList[i]? = none := by rw [Array.getElem?_toList]; simp; omega
      have h2 : x.cps.toList[i]? = none := by rw [Array.getElem?_toList]; simp; have := h.1; omega
      rw [h1, h2]; rfl
  rw [← e]; exact hS
/-- sorted(text) -/
theorem run_sorted_str {x : Str} {t : Tok} {Q : Value → Shared → Prop} (hh : A.handled = none) (hz : x.cps.size ≤ sizeLine)
    (hQ : ∀ s' p (out : Array Value) (c : Nat) (ys : List Str), (∀ b o, s.heap.get? b = some o → s'.heap.get? b = some o) → s'.gens = s.gens → s'.os = s.os → (∃ h1 : Heap, (∀ b o, s.heap.get? b = some o → h1.get? b = some o) ∧ h1.objs.size ≤ p) →
      s'.heap.get? p = some (seqObj "list" out c) → StrsAre out.toList ys → ys.Perm (sgns x) → sortedS ys = true → Q (.ref p) s') :
    wpAny (model P w) A (call (.builtin "sorted") [.str x t]) Q E s := by
  refine Calls.call_function_entry kind_sorted plain_sorted entry_sorted (args_sorted1 _) ?_
  unfold Builtin.«sorted»
  refine wpAny_bind (m := checkCount "sorted" 1 1 _) (wpAny_pure (wpAny_bind (wpAny_collect_str (A := A.in1) hh x t (fun s1 acc k1 g1 _ o1 it => ?_) hz)))
  have hS := items_strs it
  have vl : acc.toList.length ≤ sizeLine := by rw [Array.length_toList, it.1]; exact hz
  generalize acc.toList = vs at hS vl
  refine wpAny_bind (wpAny_newList ?_ vl)
  have oL : (s1.heap.push (seqObj "list" vs.toArray 0)).get? s1.heap.objs.size = some (seqObj "list" vs.toArray 0) := Heap.get?_push_size _ rfl
  refine wpAny_bind (wpAny_holding (wpAny_call_entry slot_list_sort ⟨_, oL, rfl⟩ entry_list_sort (list_sort_treeKAny strKind_oneLt oL hS.keysOf (fun v1 v2 rest e => keyKind_strs (by rw [← e]; exact hS)) vl fun st' hp hs => ⟨_, rfl, ?_⟩) (args_list_sort _)))
  obtain ⟨ys, a1, a2, a3⟩ := sorted_out_str hS hp hs
  obtain ⟨c, hc⟩ := sortedHeap_at (vs := vs) (out := ((arrOf st').map (·.2))) oL
  refine wpAny_pure ⟨_, rfl, hQ _ s1.heap.objs.size _ c ys (fun b u e => ?_) g1 o1 ⟨s1.heap, k1, Nat.le_refl _⟩ hc a1 a2 a3⟩
  have q := k1 b u e
  have lt := Heap.lt_size q
  show (sortedHeap (s1.heap.push (seqObj "list" vs.toArray 0)) s1.heap.objs.size vs _).get? b = some u
  rw [sortedHeap_old (Nat.ne_of_lt lt) (by rw [size_push']; exact Nat.lt_succ_of_lt lt)]
  exact Heap.get?_push_of_some _ q
end
def rSortedT : List V → Hp → VK → Prop := fun xs H Q => ∃ x : Str, xs = [.str x] ∧ x.length ≤ sizeLine ∧
  ∀ ys p, ys.Perm (sgns x) → sortedS ys = true → H p = none → Q (.ref p) (upd H p (.lst (ys.map V.str)))
theorem c_sortedT {X : Cx} (hc : X.calm = true) : CallR X (.builtin "sorted") rSortedT := by
  intro pins s σ H xs us Q I r h
  obtain ⟨x, rfl, hz, q⟩ := h
  obtain ⟨t, rfl⟩ : ∃ t, us = [.str x t] := by
    cases r with
    | cons a b => cases b; obtain ⟨t, rfl⟩ := a; exact ⟨_, rfl⟩
  refine run_sorted_str (I.ok.hd hc) hz fun s' p out c ys k g o hp hg hi pm hs => ?_
  have hlen : (ys.map V.str).length ≤ sizeLine := by
    rw [List.length_map, pm.length_eq]
    unfold sgns
    rw [List.length_map, Array.length_toList]
    exact hz
  obtain ⟨h1, k1, z1⟩ := hp
  have hn : H p = none := (I.hok.kept k1).fresh z1
  have hp : s.heap.get? p = none := by
    cases e : s.heap.get? p with
    | none => rfl
    | some o => exact absurd (Nat.lt_of_lt_of_le (Heap.lt_size (k1 p o e)) z1) (Nat.lt_irrefl _)
  exact ⟨.ref p, upd H p (.lst (ys.map V.str)), I.call' (ch := []) o (Un.laidN k hp hn) (I.hok.laidN k hn (o := .lst (ys.map V.str)) ⟨hlen, out.toList, c, vals_of_strs hi, by simpa using hg⟩) (by rw [g]; exact I.bare) (fun _ z => nomatch z), rfl, q ys p pm hs hn⟩
section
variable {K : PySem.W.Frag} {F H : Hp} {σ : L2.St} {ta : TA}
/-- the signs of a text, ascending -/
theorem el_sortT {l : List Nat} (h : EvA K ta σ F [txt l]) (hz : l.length ≤ 16777216) : EvL K (tCB rSortedT ta) σ F ((sortS (sgns ⟨l.toArray⟩)).map D.str) := fun H s Q q => h H s _ fun vs F1 H1 x1 dl => by
  cases dl with
  | cons a t =>
    cases t
    cases a
    refine ⟨_, rfl, by rw [txt_len, sizeLine_eq]; exact hz, fun ys p pm hs hp => ?_⟩
    have := sortedS_is pm hs
    subst this
    refine q p _ F1 _ (x1.back hp) (x1.tr (Ext.newM x1.s hp)) ⟨x1.s.free hp, upd_same⟩ ?_
    exact DenL.strs _
end
end Nm

set_option Elab.async false
set_option linter.all false
set_option maxRecDepth 100000
set_option maxHeartbeats 1000000
namespace Nm
open PySem PySem.Spec L2
/-! ### text.count(sign) -/
def rCountT : V → List V → Hp → VK → Prop := fun x xs H Q => ∃ a b, x = .str a ∧ xs = [.str b] ∧ Q (.int (Txt.count a b)) H
theorem cnt_is (c : Nat) : ∀ l : List Nat, PyProof.Rows.cnt c l = (l.count c : Nat)
  | [] => rfl
  | n :: r => by
    rw [PyProof.Rows.cnt_cons, cnt_is c r, List.count_cons]
    by_cases h : n = c
    · subst h; simp; omega
    · simp [h]
theorem count_txt (l : List Nat) (c : Nat) : Txt.count ⟨l.toArray⟩ ⟨#[c]⟩ = (l.count c : Nat) := by
  rw [PyProof.Rows.count_cnt, ← cnt_is]
/-! ### dict(pairs) -/
def rDictP (K : PySem.W.Frag) : List V → Hp → VK → Prop := fun xs H Q => ∃ (a : Addr) (ps : List Addr) (kvs : List (Key × V)), xs = [.ref a] ∧ SqL K H a (ps.map V.ref) ∧ Paired (fun p kv => SqT K H p [kV kv.1, kv.2]) ps kvs ∧
    ∀ p, H p = none → Q (.ref p) (upd H p (.dK (mergeK [] kvs)))
theorem c_dictP {X : Cx} (hc : X.calm = true) : CallR X (.type "dict") (rDictP X.K) := call_dictP hc
theorem mergeK_new : ∀ {more kvs : List (Key × V)}, ((kvs ++ more).map (·.1)).Nodup → mergeK kvs more = kvs ++ more
  | [], kvs, _ => by simp [mergeK]
  | (k, v) :: more, kvs, h => by
    have hk : k ∉ kvs.map (·.1) := by
      rw [List.map_append, List.map_cons, List.nodup_append] at h
      intro hm
      exact h.2.2 k hm k (List.mem_cons_self ..) rfl
    show mergeK (putK kvs k v) more = _
    rw [putK_new (fun p hp z => hk (List.mem_map.mpr ⟨p, hp, z⟩)), mergeK_new (by rw [List.append_assoc]; exact h), List.append_assoc]
    rfl
section
variable {K : PySem.W.Frag} {F H : Hp} {σ : L2.St} {ta tb te ti : TE} {d e : D} {r : List Sl} {DE : Ends} {tz : TS} {p q : Addr} {i j k : Nat}
theorem ev_count {l : List Nat} {c : Nat} (h1 : EvD K ta σ F (txt l)) (h2 : EvD K tb σ F (txt [c])) : EvD K (tM1 rCountT ta tb) σ F (.int (l.count c : Nat)) := fun H s Q q =>
  h1 H s _ fun x F1 H1 x1 d1 => by
    cases d1
    refine ⟨⟨_, rfl⟩, (h2.up x1.f) H1 x1.s _ fun y F2 H2 x2 d2 => ?_⟩
    cases d2
    refine ⟨_, _, rfl, rfl, ?_⟩
    rw [count_txt]
    exact q _ F2 H2 (x1.tr x2) (.int _)
theorem kD_kV {k : Key} {v : V} {F : Hp} (h : Den K F v (kD k)) : v = kV k := by
  cases k <;> (cases h; rfl)
theorem prs_of {F : Hp} : ∀ {es : List (Key × D)} {xs : List V}, DenL K F xs (es.map fun e => .tup [kD e.1, e.2]) → ∃ ps kvs, xs = ps.map V.ref ∧ Paired (fun p kv => SqT K F p [kV kv.1, kv.2]) ps kvs ∧ DenK K F kvs es
  | [], _, h => by cases h; exact ⟨[], [], rfl, .nil, .nil⟩
  | e :: es, _, h => by
    cases h with
    | cons a t =>
      obtain ⟨ps, kvs, rfl, h2, h3⟩ := prs_of t
      cases a with
      | tup q l =>
        rename_i a xs
        cases l with
        | cons b c =>
          cases c with
          | cons b2 c =>
            cases c
            rename_i v1 v2
            obtain rfl := kD_kV b
            exact ⟨a :: ps, (e.1, v2) :: kvs, rfl, .cons q h2, .cons b2 h3⟩
theorem ev_dictP {tr : TA} {es : List (Key × D)} (h : EvA K tr σ F [.lst (es.map fun e => .tup [kD e.1, e.2])]) (hn : (es.map (·.1)).Nodup) : EvD K (tLk (tCB (rDictP K) tr)) σ F (.dic es) := fun H s Q q => h H s _ fun vs F1 H1 x1 l => by
  cases l with
  | cons a t =>
    cases t
    cases a with
    | lst r l =>
      obtain ⟨ps, kvs, rfl, h2, h3⟩ := prs_of l
      have em : mergeK [] kvs = kvs := by
        have := mergeK_new (kvs := []) (more := kvs) (by rw [List.nil_append, DenK.keys h3]; exact hn)
        simpa using this
      refine ⟨_, ps, kvs, rfl, SqL.of (x1.s _ _ r), ?_, fun p hp => ?_⟩
      · exact h2.mono fun p kv hh => same_t x1.s hh
      · rw [em]
        exact .inr ⟨p, _, rfl, upd_same, trivial, fun od => by rw [upd_upd]; exact q _ _ _ (x1.tr (Ext.new x1.s hp)) (.dic upd_same (DenK.mono (Ext.new x1.s hp).f es h3))⟩
/-! ### a dict of folds of one's own -/
theorem foV_of {F : Hp} : ∀ {fo : Fo} {kvs : List (Key × V)}, DenK K F kvs (foE fo) → kvs = foV fo
  | [], _, h => by cases h; rfl
  | p :: fo, _, h => by
    have h : DenK K F _ ((.inr ⟨#[p.1]⟩, txt p.2) :: foE fo) := h
    cases h with
    | cons a t =>
      have := foV_of t
      subst this
      cases a
      rfl
theorem dict_call {fo : Fo} (S : Same F H) (h : EvD K te σ F (foD fo)) {Q : VK} (kk : ∀ p F' H', H p = none → Ext [] F H F' H' → Own F' H' p (.dK (foV fo)) → Q (.ref p) H') : tCB rDictA (tCons te tNil) σ H Q :=
  h H S _ fun v F1 H1 x1 d1 => by
    cases d1 with
    | dic r l =>
      obtain rfl := foV_of l
      exact ⟨_, _, rfl, .inr ⟨_, x1.s _ _ r⟩, fun p hp => kk p F1 _ (x1.back hp) (x1.tr (Ext.newM x1.s hp)) ⟨x1.s.free hp, upd_same⟩⟩
theorem q_asgFo {fo : Fo} (S : Same F H) (E : EnvD K F r σ) (h : EvD K te σ F (foD fo)) (kk : ∀ p F' H' σ', H p = none → Ext [] F H F' H' → Own F' H' p (.dK (foV fo)) → EnvD K F' (r.set i (.v (.ref p))) σ' → tz DE σ' H') : tSeq (tAsg (tCB rDictA (tCons te tNil)) (gName i)) tz DE σ H :=
  dict_call S h fun p F' H' hp x o => kk p F' H' _ hp x o (EnvD.set (s := .v (.ref p)) i (E.up x.f) rfl)
theorem q_parFo {fo : Fo} (S : Same F H) (E : EnvD K F r σ) (h : EvD K te σ F (foD fo)) (h2 : EvD K tb σ F d) (kk : ∀ p F' H' σ', H p = none → Ext [] F H F' H' → Own F' H' p (.dK (foV fo)) → EnvD K F' ((r.set i (.v (.ref p))).set j (.d d)) σ' → tz DE σ' H') : tSeq (tPar i j (tCons (tCB rDictA (tCons te tNil)) (tCons tb tNil))) tz DE σ H :=
  dict_call S h fun p F1 H1 hp x1 o1 => (h2.up x1.f) H1 x1.s _ fun v2 F2 H2 x2 d2 => ⟨_, _, rfl, kk p F2 H2 _ hp (x1.tr x2) (o1.ext0 x2) (EnvD.set j (EnvD.set (s := .v (.ref p)) i ((E.up x1.f).up x2.f) rfl) ⟨_, rfl, d2⟩)⟩
theorem valV_foV (KDum : PySem.W.Frag) {c : Nat} : ∀ {fo : Fo} {w : List Nat}, lk fo c = some w → valV (foV fo) (.inr ⟨#[c]⟩ : Key) = some (tv w) := by
  intro fo w h
  rcases DenK.val (K := KDum) (F := fun _ => none) (.inr ⟨#[c]⟩ : Key) (den_foV fo) with ⟨v, d, h1, h2, h3⟩ | ⟨h1, h2⟩
  · rw [valD_fo, h] at h2
    cases h2
    cases h3
    exact h1
  · rw [valD_fo, h] at h2
    cases h2
/-- d.pop(k) -/
theorem s_pop {fo : Fo} {c : Nat} {w : List Nat} (S : Same F H) (E : EnvD K F r σ) (hi : r[i]? = some (.v (.ref p))) (hj : r[j]? = some (.d (txt [c]))) (o : Own F H p (.dK (foV fo))) (hl : lk fo c = some w)
    (kk : ∀ H', Ext [p] F H F H' → Own F H' p (.dK (foV (fo.filter fun q => decide (q.1 ≠ c)))) → DE.nx σ H') : tDrop (tDPop1 (tVar i) (tVar j)) DE σ H := by
  obtain ⟨o1, g1, g2⟩ := E.get hi
  have g2 : o1 = some (.ref p) := g2
  subst g2
  obtain ⟨o2, g3, v, g4, g5⟩ := E.get hj
  subst g4
  cases g5
  refine ⟨_, g1, p, rfl, .inl ⟨_, .inl o.h⟩, _, g3, foV fo, .inr ⟨#[c]⟩, tv w, o.h, rfl, valV_foV K hl, ?_⟩
  have e : dropK (foV fo) (.inr ⟨#[c]⟩ : Key) = foV (fo.filter fun q => decide (q.1 ≠ c)) := by
    unfold dropK foV
    rw [List.filter_map]
    congr 1
    refine List.filter_congr fun q _ => ?_
    simp
  rw [e]
  exact kk _ (o.set S) ⟨o.f, upd_same⟩
end
end Nm

set_option Elab.async false
set_option linter.all false
set_option maxRecDepth 100000
set_option maxHeartbeats 1000000
/-! Errors with a field of their own: isinstance of a caught one. -/
namespace Nm
open PySem PySem.Spec L2 PyProof.Rows
/-- isinstance(e, c) and isinstance(e, (c, ..)), e the error that the suite holds at a, its class cls, its dict d -/
def rIsX (K : PySem.W.Frag) (a : Addr) (cls : Value) (d : Option Addr) : List V → Hp → VK → Prop := fun xs H Q => ∃ (D dd : Addr) (fs : List (Str × V)) (c : V) (b : Bool), xs = [.ref a, c] ∧ cls = .ref D ∧ ExcC K D ∧ d = some dd ∧ H dd = some (.xd fs) ∧
  ((∃ cv, (∀ u, RelV c u → u = cv) ∧ PySem.W.kitOne K (.ref D) cv = some b) ∨ ∃ (t : Addr) (cs : List V) (cvs : List Value), c = .ref t ∧ SqT K H t cs ∧ (∀ us, Vals cs us → us = cvs) ∧ PySem.W.kitAny K (.ref D) cvs = some b) ∧ Q (.bl b) H
theorem call_isX {X : Cx} {a : Addr} {oe : Obj} {cls : Value} {d : Option Addr} {pn : List (Addr × Obj)} (hz : Zc cls d oe) (hf : ∃ vs, oe.data = .fields vs) : CallR (X.suite a ((a, oe) :: pn)) (.builtin "isinstance") (rIsX X.K a cls d) := by
  intro pins s σ H xs us Q I r h
  obtain ⟨D, dd, fs, c, b, rfl, ec, C, ed, ea, hc, q⟩ := h
  subst ec
  subst ed
  obtain ⟨hget, _⟩ := I.pin (a, oe) (List.mem_append.mpr (.inl List.mem_cons_self))
  obtain ⟨vs, hv⟩ := hf
  have hx : ObjOk X.prog X.w H s.heap dd (.xd fs) := I.hok dd _ ea
  obtain ⟨mA, hns, hr⟩ := hx
  obtain ⟨od, ho, hl⟩ := lookIn_ns hns
  have J : PySem.W.InstAt s.heap a oe D (some od) := ⟨hget, hz.1, by unfold PySem.W.notCls; rw [hv] <;> rfl, by rw [hz.2]; exact ho⟩
  have hcl : (PySem.W.clsIn X.K D).isSome = true := by
    obtain ⟨cd, h1, _⟩ := PySem.W.any_some C.hd
    rw [h1]; rfl
  have Z : PySem.W.KitX X.K (.ref a) (.ref D) (fun h => PySem.W.InstAt h a oe D (some od)) := PySem.W.kitx_exc hcl C.hg C.hk C.hs C.ha C.hn C.ht C.hm
  cases r with
  | cons rx rr =>
    cases rr with
    | cons rt rr =>
      cases rr
      cases rx
      rcases hc with ⟨cv, hcv, e⟩ | ⟨t, cs, cvs, rfl, hs, hvs, e⟩
      · have ec := hcv _ rt
        subst ec
        exact PySem.W.kia_one Z I.kIn J e (fun z => nomatch z) fun tk => ⟨.bl b, H, I.kept (t' := tk) fun _ _ z => z, rfl, q⟩
      · cases rt
        obtain ⟨its, rv, ⟨o, h1, h2, n, h3⟩, _⟩ := I.tuple hs
        have e2 := hvs _ rv
        subst e2
        obtain ⟨oc, od2, oda, osl⟩ := o
        dsimp only at h2 h3
        subst h2 h3
        exact PySem.W.kia_tup Z I.kIn J h1 e (fun z => nomatch z) fun tk => ⟨.bl b, H, I.kept (t' := tk) fun _ _ z => z, rfl, q⟩
/-! ### a call of an object whose error is caught -/
section
variable {X : Cx} {CX : CXT} {k : Nat} {C g : Addr} {sp : Sp} {E : L2.St → XK}
theorem run_fnRS {f : Addr} {pins : List (Addr × Obj)} {σ : L2.St} {H : Hp} {s : Shared} {Q : VK} {us : List Value} {vs : List V} (F : FnR X.prog X.w X.K X.mg X.base CX k f sp) (hr : Room k X.A) (hx : PassesAt CX X σ (E σ)) (I : Inv X pins σ H s) (r : Vals vs us) (h : sp vs H Q (E σ)) :
    codeAny (model X.prog X.w) X.A (.call (.ref f) ⟨us, []⟩) (fun r s' => match r with | .ok (.ret v) => EP X pins σ Q v s' | .ok _ => False | .error e => X.xe e s') s := by
  refine codeAny_mono (F X.A X.stack s H us vs Q (E σ) hr I.env0 r h) fun r s' hq => ?_
  cases r with
  | error e => exact hx pins H s e s' I hq
  | ok fl =>
    cases fl with
    | ret u => exact I.after hq
    | next => exact False.elim hq
    | brk => exact False.elim hq
    | cont => exact False.elim hq
def tCallQS (C : Addr) (sp : Sp) (E : L2.St → XK) (tf : TE) (t : TA) : TE := fun σ H Q => tCallQ C sp (E σ) tf t σ H Q
theorem pe_callQS {fd : FuncData} {ps : List Str} {fe e : Expr} {es : List Expr} {pos : Pos} {tf : TE} {tr : TA} (hf : PE X fe tf) (c : StX.CallO X.K C g) (G : FnOk X.prog X.w X.K X.mg X.base CX k g fd ps sp) (hb : Binds X.K fd ps []) (hr : Room k X.A) (hx : ∀ σ, PassesAt CX X σ (E σ)) (ha : PA X (e :: es) tr)
    (ht : eval (.Call fe (e :: es) [] pos) X.env = (do callWith pos (← eval fe X.env) [] (backTo pos (starEach (e :: es) X.env)) (backToKw pos (keywordEach [] X.env))) := by rfl)
    (he : starEach (e :: es) X.env = (false, eval e X.env) :: starEach es X.env := by rfl) (hpl : (backTo pos (starEach es X.env)).any (·.1) = false := by rfl) : PE X (.Call fe (e :: es) [] pos) (tCallQS C sp E tf tr) := by
  have R : FnR X.prog X.w X.K X.mg X.base CX k g sp := (G.raw hb .nil).imp fun vs H Q E h => by rw [List.append_nil]; exact h
  refine ⟨fun pins s σ H Q I h => ?_⟩
  refine PyProof.Rows.Call_ (thn (hf.run pins s σ H _ I h) fun u s1 hh => ?_) ht
  obtain ⟨y, H1, I1, ry, a, ey, q⟩ := hh
  subst ey
  cases (show u = Value.ref a from ry)
  refine StX.callO_with (thn (ha.run pos pins s1 σ H1 _ I1 q) fun us s2 hh => ?_) he hpl
  obtain ⟨vs, H2, I2, r, hi, q2⟩ := hh
  have hi' : StX.InsC X H2 a C := .inr hi
  obtain ⟨ox, od, J, hd⟩ := StX.insC_at I2 hi'
  exact ⟨⟨C, ox, od, J, hd⟩, wpAny_call (PySem.W.kco_code I2.kIn J hd c.at_ c.fn c.fi (run_fnRS (us := .ref a :: us) (vs := .ref a :: vs) R hr (hx σ) I2 (.cons rfl r) q2))⟩
/-- nothing is let out where nothing is promised -/
theorem passF {X : Cx} {P : Program} {w : World} : Passes (L2.CX P w) X (fun _ _ _ => False) := fun pins σ H s e s' I h => by
  obtain ⟨_, _, _, _, _, _, h⟩ := h
  exact absurd h (by intro z; simp_all)
end
theorem takesN {X : Cx} : Takes X (fun _ _ _ _ => False) := fun _ _ x => by
  obtain ⟨_, _, _, _, _, _, _, _, _, _, _, _, _, _, _, _, h⟩ := x
  exact h.elim
/-! ### readings of raise and try -/
def tRaiseO (C : Addr) (sp : Sp) (E : XK) (ta : TA) : TS := fun _ σ H => tMkO C sp [] ta σ H fun cls d H' => E cls d H'
def tTry (K : PySem.W.Frag) (c : Value) (i : Nat) (tb : WX → TS) (ts : Addr → Value → Option Addr → TS) : TS := fun D σ H => tb (wAs K c i ts (fun _ _ _ _ => False) D) D σ H
/-- the __init__ of an error: it stores its field -/
def spErr (C : Addr) (f : Str) : Sp := fun vs H Q _ => ∃ a v, vs = [.ref a, v] ∧ H a = some (exo a C none) ∧ ∀ dx, H dx = none → dx ≠ a → Q .non (upd (upd H dx (exd dx [(f, v)])) a (exo a C (some dx)))
theorem spErr_len {C : Addr} {f : Str} {vs : List V} {H : Hp} {Q : VK} {E : XK} (h : spErr C f vs H Q E) : vs.length = 2 := by
  obtain ⟨a, v, rfl, _⟩ := h
  rfl
/-- what raise C(x) comes to: a new dict that holds the field -/
theorem raise_at {K : PySem.W.Frag} {F H : Hp} {σ : L2.St} {C : Addr} {f : Str} {E : XK} {DE : Ends} {te : TE} {d : D} (S : Same F H) (h : EvD K te σ F d) (k : ∀ v F' H' dx, Ext [] F H F' H' → Den K F' v d → H' dx = some (.xd [(f, v)]) → H dx = none → E (.ref C) (some dx) H') : tRaiseO C (spErr C f) E (tCons te tNil) DE σ H :=
  h H S _ fun v F1 H1 x1 d1 => by
    refine ⟨by simp, fun a ha => ⟨a, v, rfl, upd_same, fun dx hd ne => ⟨rfl, dx, [(f, v)], upd_same, ?_, ?_, ?_⟩⟩⟩
    · rw [upd_ne ne]; exact upd_same
    · rw [upd_ne ne] at hd; exact hd
    · have hd1 : H1 dx = none := by rw [upd_ne ne] at hd; exact hd
      have e : upd (L2.del (upd (upd (upd H1 a (exo a C none)) dx (exd dx [(f, v)])) a (exo a C (some dx))) a) dx (.xd [(f, v)]) = upd H1 dx (.xd [(f, v)]) := by
        funext b
        by_cases hb : b = dx
        · subst hb; rw [upd_same, upd_same]
        · rw [upd_ne hb, upd_ne hb]
          by_cases hb2 : b = a
          · subst hb2; rw [L2.del_same, ha]
          · rw [L2.del_ne hb2, upd_ne hb2, upd_ne hb, upd_ne hb2]
      rw [e]
      exact k v F1 _ dx (x1.tr (Ext.newM x1.s hd1)) d1 upd_same (x1.back hd1)
end Nm

set_option Elab.async false
set_option linter.all false
set_option maxRecDepth 100000
set_option maxHeartbeats 1000000
namespace Nm
open PySem PySem.Spec L2
section
variable {K : PySem.W.Frag} {D C : Addr} {T : String} {b : Bool}
theorem kit_ty (hm : PySem.W.kitMeta T = true) (h : PySem.W.subIn K (.ref D) (.type T) = some b) : PySem.W.kitOne K (.ref D) (.type T) = some b := by
  unfold PySem.W.kitOne
  rw [if_neg (by intro z; have := beq_iff_eq.mp z; cases this)]
  unfold PySem.W.kitCls
  dsimp only
  rw [if_pos hm]
  exact h
theorem kit_ref (hc : PySem.W.isClsIn K C = true) (ht : PySem.W.typeIn K (.ref C) = some (.type "type")) (h : PySem.W.subIn K (.ref D) (.ref C) = some false) (self : PySem.W.subIn K (.ref D) (.ref D) = some true) : PySem.W.kitOne K (.ref D) (.ref C) = some false := by
  have ne : D ≠ C := fun z => by
    subst z
    rw [self] at h
    cases h
  have hc' : (PySem.W.clsIn K C).isSome = true := hc
  unfold PySem.W.kitOne
  rw [if_neg (by intro z; have := beq_iff_eq.mp z; exact ne (Value.ref.inj this))]
  unfold PySem.W.kitCls
  dsimp only
  rw [if_pos (by rw [hc', ht] <;> rfl)]
  exact h
theorem kit_nil {t : Value} : PySem.W.kitAny K t [] = some false := rfl
theorem kit_cons {t c : Value} {r : List Value} (h : PySem.W.kitOne K t c = some false) (hr : PySem.W.kitAny K t r = some false) : PySem.W.kitAny K t (c :: r) = some false := by
  unfold PySem.W.kitAny
  rw [h]
  exact hr
end
end Nm

set_option Elab.async false
set_option linter.all false
set_option maxRecDepth 100000
set_option maxHeartbeats 3200000
/-! list(d.values()), set(text), len(set). -/
namespace Nm
open PySem PySem.Spec L2 PyProof.Rows
/-! ### list(d.values()) -/
def tListVals (td : TE) : TE := fun σ H Q => td σ H fun x H1 => ∃ d kvs, x = .ref d ∧ Rd H1 d (.dK kvs) ∧ ∀ p, H1 p = none → Q (.ref p) (upd H1 p (.lst (kvs.map (·.2))))
theorem vals_snd : ∀ {kvs : List (Key × V)} {vs : List (Key × Value)}, KV kvs vs → Vals (kvs.map (·.2)) (vs.map (·.2))
  | _, _, .nil => .nil
  | _, _, .cons a t => .cons a.2 (vals_snd t)
theorem pe_listVals {X : Cx} {e : Expr} {td : TE} {p apos cpos pos : Pos} (hc : X.calm = true) (hg : Gl X "list") (hm : X.mg "list" = none) (he : PE X e td)
    (hbase : attributeBase e "values" X.env (eval e X.env) = eval e X.env := by rfl) (hline : (apos.endLine == cpos.line) = true := by rfl)
    (na : starEach [Expr.Call (.Attribute e "values" apos) [] [] cpos] X.env = (false, eval (Expr.Call (.Attribute e "values" apos) [] [] cpos) X.env) :: starEach [] X.env := by rfl) :
    PE X (.Call (.Name "list" p) [.Call (.Attribute e "values" apos) [] [] cpos] [] pos) (tListVals td) := by
  refine ⟨fun pins s σ H Q I h => ?_⟩
  refine Call_ (ld_blt I hg hm boot_list (callWith_type1 (args_cons ?_ na) na rfl))
  refine wpAny_Call_method (T := "dict") (id := "dict.values") hbase rfl hline F.plainAttrs_dict F.slot_dict_values F.type_dict_values (thn (he.run pins s σ H _ I h) fun u s1 ⟨x, H1, I1, rx, d, kvs, ex, hd, q⟩ => ?_)
  subst ex
  obtain rfl : u = Value.ref d := rx
  obtain ⟨z, lo, vs, rel, dd⟩ := dk_rd I1.hok hd
  obtain ⟨ep, hm⟩ := dd.dictAt
  refine ⟨hm.dictOf.typeIs, hm.dictOf.mapOf.noDict, ?_⟩
  show wpAny _ _ (callWith cpos (.builtin "dict.values") [.ref d] [] []) _ X.xe s1
  refine method_meetsIn F.slot_dict_values F.entry_dict_values rfl (PySem.evalArgs_none ⟨rfl, hm.dictOf.typeIs, F.args_dict_values_1 _, _, meets_dict_values (mixKind X.prog X.w) d lo, ⟨vs, hm.dictOf⟩, ?_⟩)
  refine args_nil ?_
  refine PySem.W.kdl_call (PySem.W.kdl_values (knd := mixKind X.prog X.w) (d := d) (kvs := vs) (ep := ep)) (I1.ok.hd hc) ⟨⟨_, Heap.get?_push_size _ rfl, rfl, rfl⟩, hm.push _⟩ (by rw [← rel.length]; exact z) fun h' tk acc c hk hD hacc => ?_
  have ev : acc.toList = vs.map (·.2) := PySem.W.kdl_vals_eq _ (by rw [Array.length_toList]; exact hacc.1) fun j v e => hacc.2 j v (by rw [← Array.getElem?_toList]; exact e)
  have hk' : ∀ b o, s1.heap.get? b = some o → h'.get? b = some o := fun b o e => hk b o (Heap.get?_push_of_some _ e)
  have sz : (s1.heap.push { cls := .type "dict_values", data := .fields #[.ref d] }).objs.size = s1.heap.objs.size + 1 := Heap.size_push ..
  have hn : H1 (s1.heap.push { cls := .type "dict_values", data := .fields #[.ref d] }).objs.size = none := by rw [sz]; exact I1.hok.fresh (Nat.le_succ _)
  refine ⟨.ref _, upd H1 _ (.lst (kvs.map (·.2))), I1.laid (t' := tk) hk' (by rw [sz]; exact Nat.le_succ _)
    (show ObjOk X.prog X.w _ _ _ (.lst (kvs.map (·.2))) from ⟨by rw [List.length_map]; exact z, acc.toList, c, by rw [ev]; exact vals_snd rel, by rw [Array.toArray_toList]; exact hD⟩), rfl, q _ hn⟩
end Nm

set_option Elab.async false
set_option linter.all false
set_option maxRecDepth 100000
set_option maxHeartbeats 3200000
/-! set(text), len(set). -/
namespace Nm
open PySem PySem.Spec L2 PyProof.Rows
section
variable {P : Program} {w : World} {A : Around} {E : Value → Shared → Prop} {s : Shared}
/-- set(text) -/
theorem run_set_str {x : Str} {t : Tok} {Q : Value → Shared → Prop} (hh : A.handled = none) (hb : x.cps.size + 1 < scanBound)
    (h : ∀ (h' : Heap) (tk : Nat) (ds : List Str), SetX P w h' s.heap.objs.size ds → (∀ z, z ∈ ds ↔ z ∈ sgns x) → (∀ b o, s.heap.get? b = some o → h'.get? b = some o) → Q (.ref s.heap.objs.size) { s with heap := h', toks := tk }) :
    wpAny (model P w) A (call (.type "set") [.str x t]) Q E s := by
  have sl : (sgns x).length = x.cps.size := by unfold sgns; rw [List.length_map, Array.length_toList]
  obtain ⟨c, tl, hmro⟩ := F.called_set.mro
  have m1 := F.called_set.made
  have m2 := F.called_set.sub
  refine wpAny_call (codeAny_of_tree ?_)
  show wpAny _ _ (callAny (.type "set") _) _ _ _
  refine wpAny_pure ⟨Code.quiet_builtin _ (by decide +kernel), codeAny_builtin F.entry_type_call ?_⟩
  rw [Around.under_plain (weight_type_call_type "set" [.str x t] []) rfl]
  have m3 := F.called_set.notType
  have m4 := F.called_set.canCreate
  have m5 := F.typeCall_set_1 (.str x t)
  repeat (any_goals (first | assumption | wp_step))
  refine codeAny_mono (code_set_led1 (.str x t) (E := E) (Q₁ := fun x s1 => x = .ref s.heap.objs.size ∧ s1 = { s with heap := s.heap.push (newSet w) }) ⟨rfl, rfl⟩) fun r s1 hr => ?_
  cases r with
  | error e => exact hr
  | ok fl =>
    cases fl with
    | ret x' =>
      obtain ⟨rfl, rfl⟩ := hr
      have at1 : (s.heap.push (newSet w)).get? s.heap.objs.size = some (newSet w) := Heap.get?_push_size _ rfl
      have ty1 : Shared.TypeIs { s with heap := s.heap.push (newSet w) } (.ref s.heap.objs.size) "set" := ⟨_, at1, rfl⟩
      have m6 := F.called_set.init.lookup
      have m7 := F.called_set.init.bind (.ref s.heap.objs.size)
      repeat (any_goals (first | assumption | wp_step))
      refine codeAny_mono (codeAny_call_builtin (R := wants (fun r s2 => r = .none ∧ ∃ h' tk ds, s2 = { s with heap := h', toks := tk } ∧ SetX P w h' s.heap.objs.size ds ∧ (∀ z, z ∈ ds ↔ z ∈ sgns x) ∧ (∀ b o, s.heap.get? b = some o → h'.get? b = some o)) E) F.called_set.init.plain F.entry_set_init (check_set_init_1 ty1 ?_)) fun r2 s2 hr2 => ?_
      · have m8 : isSubtype (.type "str") (.type "set") = pure false := by rw [isSubtype_type]; kernel_rfl
        have m9 : isSubtype (.type "str") (.type "frozenset") = pure false := by rw [isSubtype_type]; kernel_rfl
        have m10 : (Value.type "str" == Value.type "dict") = false := by decide
        unfold Builtin.«set.__init__» noKeywords Builtin.Frozenset.updateFrom
        generalize hPI : pyIter = PI
        wp_walk
        subst hPI
        have z1 : (s.heap.push (newSet w)).objs.size = s.heap.objs.size + 1 := Heap.size_push ..
        refine wpAny_pyIter_str fun o St W hst => (wpAny_bind (wpAny_runValue ?_))
        have h3 : A.in1.in1.in1.handled = none := by simp [hh]
        have nf : s.heap.objs.size ∉ [(s.heap.push (newSet w)).objs.size] := by
          rw [z1]
          simp only [List.mem_cons, List.not_mem_nil, or_false]
          exact Nat.ne_of_lt (Nat.lt_succ_self _)
        refine setX_loop ((W _ h3).toS) nf sl.symm (by rw [sl]; exact hb) (fun i v hv => ?_) (x.cps.size - 0) 0 _ [] (by omega) (Nat.zero_le _) hst (setX_new (Heap.get?_push_of_some _ at1)) (fun z => by simp) (Nat.le_refl _) fun s' ds mv hx hd => ?_
        · obtain ⟨c, u, h1, h2⟩ := hv
          exact ⟨⟨#[c]⟩, u, by unfold sgns; rw [List.getElem?_map, Array.getElem?_toList, h1]; rfl, h2⟩
        obtain ⟨h', g', d', tk', os'⟩ := s'
        have e1 : g' = s.gens := mv.gens
        have e2 : d' = s.drawn := mv.drawn
        have e3 : os' = s.os := mv.os
        subst e1; subst e2; subst e3
        show wpAny _ _ _ _ _ _
        refine wpAny_pure ?_
        show wpAny _ _ (ret Value.none) _ _ _
        refine wpAny_pure ⟨rfl, h', tk', ds, rfl, hx, hd, fun b o e => ?_⟩
        have lb : b < s.heap.objs.size := Heap.lt_size e
        refine mv.heap b o ?_ (Heap.get?_push_of_some _ (Heap.get?_push_of_some _ e))
        rw [z1]
        simp only [List.mem_cons, List.not_mem_nil, or_false, not_or]
        exact ⟨Nat.ne_of_lt lb, Nat.ne_of_lt (Nat.lt_succ_of_lt lb)⟩
      · cases r2 with
        | error e => exact hr2
        | ok fl2 =>
          cases fl2 with
          | ret r =>
            obtain ⟨rfl, h', tk, ds, rfl, hx, hd, hk'⟩ := hr2
            repeat (any_goals (first | assumption | wp_step))
            exact h _ _ _ hx hd hk'
          | _ => exact hr2.elim
    | _ => exact hr.elim
end
def rSetT (P : Program) (w : World) : List V → Hp → VK → Prop := fun xs H Q => ∃ x : Str, xs = [.str x] ∧ x.length + 1 < scanBound ∧
  ∀ p ds, ds.Nodup → (∀ z, z ∈ ds ↔ z ∈ sgns x) → H p = none → Q (.ref p) (upd H p (SetXO P w p ds))
theorem c_setT {X : Cx} (hc : X.calm = true) : CallR X (.type "set") (rSetT X.prog X.w) := by
  intro pins s σ H xs us Q I r h
  obtain ⟨x, rfl, hb, q⟩ := h
  obtain ⟨t, rfl⟩ : ∃ t, us = [.str x t] := by
    cases r with
    | cons a b => cases b; obtain ⟨t, rfl⟩ := a; exact ⟨_, rfl⟩
  refine run_set_str (I.ok.hd hc) hb fun h' tk ds hx hd hk => ?_
  exact ⟨.ref _, upd H s.heap.objs.size (SetXO X.prog X.w s.heap.objs.size ds), I.laid (t' := tk) hk (Nat.le_refl _) (setXO_new hx), rfl, q _ ds hx.nodup hd (I.hok.fresh (Nat.le_refl _))⟩
/-- len(set) -/
def rLenX (P : Program) (w : World) : List V → Hp → VK → Prop := fun xs H Q => ∃ (a : Addr) (l : List Str), xs = [.ref a] ∧ H a = some (SetXO P w a l) ∧ l.length < scanBound ∧ Q (.int (l.length : Nat)) H
theorem c_lenX {X : Cx} : CallR X (.builtin "len") (rLenX X.prog X.w) := by
  intro pins s σ H xs us Q I r h
  obtain ⟨a, l, rfl, ha, hb, q⟩ := h
  rw [Vals.ref1 r]
  obtain ⟨⟨es, ep, t⟩, ho, Fx, nd, _⟩ := setXO_get I ha
  have esz : es.size = l.length := Fx.sz
  have sb : scanBound = 4096 := rfl
  refine call_len_set (es := es) (ep := ep) (t := t) ho ⟨rfl, rfl, rfl⟩ rfl Fx.fit (by omega) ?_
  exact ⟨.int (l.length : Nat), H, I.kept (t' := s.toks + 1 + 1) fun b o e => e, ⟨_, by rw [esz]⟩, q⟩
section
variable {K : PySem.W.Frag} {F H : Hp} {σ : L2.St} {ta : TA} {P : Program} {w : World} {te : TE}
theorem denK_snd : ∀ {kvs : List (Key × V)} {es : List (Key × D)}, DenK K F kvs es → DenL K F (kvs.map (·.2)) (es.map (·.2))
  | _, _, .nil => .nil
  | _, _, .cons a t => .cons a (denK_snd t)
/-- list(d.values()) -/
theorem el_vals {es : List (Key × D)} (h : EvD K te σ F (.dic es)) : EvL K (tListVals te) σ F (es.map (·.2)) := fun H s Q q => h H s _ fun v F1 H1 x1 d1 => by
  cases d1 with
  | dic r l =>
    refine ⟨_, _, rfl, .inr ⟨_, x1.s _ _ r⟩, fun p hp => ?_⟩
    exact q p _ F1 _ (x1.back hp) (x1.tr (Ext.newM x1.s hp)) ⟨x1.s.free hp, upd_same⟩ (denK_snd l)
/-- sorted(set(text)) -/
theorem el_sortsetT {l : List Nat} (h : EvA K ta σ F [txt l]) (hb : l.length < 4000) : EvL K (tCB (rSortedX P w) (tCons (tCB (rSetT P w) ta) tNil)) σ F ((setS (sgns ⟨l.toArray⟩)).map D.str) := fun H s Q q => h H s _ fun vs F1 H1 x1 dl => by
  have sb : scanBound = 4096 := rfl
  cases dl with
  | cons a t =>
    cases t
    cases a
    refine ⟨_, rfl, by rw [txt_len]; omega, fun p ds nd hd hp => ?_⟩
    have len : ds.length ≤ l.length := by
      have := (nodup_perm nd (dd_nodup (sgns ⟨l.toArray⟩)) fun z => by rw [hd z, dd_mem]).length_eq
      have h2 := dd_len (sgns ⟨l.toArray⟩)
      have h3 : (sgns ⟨l.toArray⟩).length = l.length := by unfold sgns; simp
      omega
    refine ⟨p, ds, rfl, upd_same, by omega, fun ys p2 pm hs hp2 => ?_⟩
    have x2 := Ext.newM (o := SetXO P w p ds) x1.s hp
    have x3 := Ext.newM (o := .lst (ys.map V.str)) x2.s hp2
    rw [setS_is pm nd hd hs] at x3 ⊢
    exact q p2 _ F1 _ ((x1.tr x2).back hp2) ((x1.tr x2).tr x3) ⟨x2.s.free hp2, upd_same⟩ (DenL.strs _)
/-- len(set(xs)) -/
theorem ev_lenset {ks : List Str} {ds : List D} (h : EvA K ta σ F [.lst ds]) (e : ds = ks.map D.str) (hb : ks.length < 4000) : EvD K (tCB (rLenX P w) (tCons (tCB (rSetX P w K) ta) tNil)) σ F (.int ((dd ks).length : Nat)) := fun H s Q q => h H s _ fun vs F1 H1 x1 l => by
  subst e
  have sb : scanBound = 4096 := rfl
  cases l with
  | cons a t =>
    cases t
    cases a with
    | lst r l =>
      rw [denL_strs l] at r
      refine ⟨_, ks, rfl, SqL.of (x1.s _ _ r), by omega, fun p ds nd hd hp => ?_⟩
      have len : ds.length = (dd ks).length := (nodup_perm nd (dd_nodup ks) fun z => by rw [hd z, dd_mem]).length_eq
      have h2 := dd_len ks
      refine ⟨p, ds, rfl, upd_same, by omega, ?_⟩
      rw [len]
      exact q _ F1 _ (x1.tr (Ext.newM x1.s hp)) (.int _)
end
end Nm

set_option Elab.async false
set_option linter.all false
set_option maxRecDepth 100000
set_option maxHeartbeats 3200000
/-! list(zip(text, text)). -/
namespace Nm
open PySem PySem.Spec L2 PyProof.Rows
theorem zip_no_len : typeLookup (.type "zip") "__len__" = pure none := by rw [typeLookup_type, builtinLookup_eq_fast]; kernel_rfl
theorem zip_no_hint : typeLookup (.type "zip") "__length_hint__" = pure none := by rw [typeLookup_type, builtinLookup_eq_fast]; kernel_rfl
/-- the pairs that have been taken -/
def PrsAt (h : Heap) (x y : Str) (lo : Nat) (acc : Array Value) : Prop := ∀ i v, acc[i]? = some v → ∃ T a b, v = .ref T ∧ lo ≤ T ∧ IsPair h T a b ∧ SgnAt x i a ∧ SgnAt y i b
def Asc (acc : Array Value) : Prop := ∀ (i j : Nat) (T T' : Addr), i < j → acc[i]? = some (.ref T) → acc[j]? = some (.ref T') → T < T'
section
variable {P : Program} {w : World} {A : Around} {E : Value → Shared → Prop} {s : Shared}
theorem PrsAt.keep {h h' : Heap} {x y : Str} {lo : Nat} {acc : Array Value} (p : PrsAt h x y lo acc) (k : ∀ T o, lo ≤ T → h.get? T = some o → h'.get? T = some o) : PrsAt h' x y lo acc := fun i v e => by
  obtain ⟨T, a, b, h1, h2, h3, h4⟩ := p i v e
  exact ⟨T, a, b, h1, h2, k _ _ h2 h3, h4⟩
theorem pyNext_zipS_item {z TI TO i1 i2 : Addr} {x y : Str} {tx ty : Tok} {k : Nat} {Q : Option Value → Shared → Prop} (hh : A.handled = none) (D : Apart z TI TO i1 i2) (Z : ZipS s.heap z TI TO i1 i2 x y tx ty k) (hx : k < x.cps.size) (hy : k < y.cps.size)
    (hQ : ∀ h' T tk u v, ZipS h' z TI TO i1 i2 x y tx ty (k + 1) → SgnAt x k u → SgnAt y k v → s.heap.objs.size ≤ T → IsPair h' T u v → (∀ c o, c ∉ [z, TO, i1, i2] → s.heap.get? c = some o → h'.get? c = some o) → Q (some (.ref T)) { s with heap := h', toks := tk }) :
    wpAny (model P w) A (pyNext (.ref z)) Q E s := by
  have hT : s.TypeIs (.ref z) "zip" := by
    obtain ⟨f0, f1, hz, _⟩ := Z.z
    exact ⟨_, hz, rfl⟩
  unfold pyNext
  exact wpAny_bind (wpAny_attempt (wpAny_callSpecial?_slot (name := Str.ofString "__next__") hT F.slot_zip_next (wpAny_call_entry F.slot_zip_next hT F.entry_zip_next (zipS_item (by simpa using hh) D Z hx hy fun h' T tk u v a1 a2 a3 a4 a5 a6 => wpAny_pure (hQ h' T tk u v a1 a2 a3 a4 a5 a6)) (F.args_zip_next_1 _))))
theorem pyNext_zipS_end {z TI TO i1 i2 : Addr} {x y : Str} {tx ty : Tok} {k : Nat} {Q : Option Value → Shared → Prop} (hh : A.handled = none) (D : Apart z TI TO i1 i2) (Z : ZipS s.heap z TI TO i1 i2 x y tx ty k) (hend : k = x.cps.size ∨ (k < x.cps.size ∧ k = y.cps.size))
    (hQ : ∀ h' tk, (∀ c o, c ∉ [z, TO, i1, i2] → s.heap.get? c = some o → h'.get? c = some o) → Q none { s with heap := h', toks := tk }) : wpAny (model P w) A (pyNext (.ref z)) Q E s := by
  have hT : s.TypeIs (.ref z) "zip" := by
    obtain ⟨f0, f1, hz, _⟩ := Z.z
    exact ⟨_, hz, rfl⟩
  unfold pyNext
  refine wpAny_bind (wpAny_attempt (wpAny_callSpecial?_slot (name := Str.ofString "__next__") hT F.slot_zip_next (wpAny_call_entry F.slot_zip_next hT F.entry_zip_next (zipS_end (by simpa using hh) D Z hend fun h' e tk hk he => ?_) (F.args_zip_next_1 _))))
  obtain ⟨o, ho, hc⟩ := he
  refine wpAny_bind (wpAny_isInstance (T := "StopIteration") (b := true) ⟨o, ho, hc⟩ isSubtype_stop ?_)
  exact wpAny_pure (hQ _ _ hk)
theorem zip_loop {R : Result → Shared → Prop} {S z TI TO i1 i2 : Addr} {x y : Str} {tx ty : Tok} (hh : A.handled = none) (Dp : Apart z TI TO i1 i2) (hl : x.cps.size = y.cps.size) (hn : x.cps.size ≤ sizeLine) (res : Value) (lo : Nat) (hS0 : S < lo) (hf : ∀ b ∈ [z, TI, TO, i1, i2], b < lo ∧ b ≠ S) :
    ∀ (m i : Nat) (s : Shared) (acc : Array Value) (c : Nat), x.cps.size - i = m → i ≤ x.cps.size → lo ≤ s.heap.objs.size → ZipS s.heap z TI TO i1 i2 x y tx ty i → s.heap.get? S = some { cls := .type "list", dict := none, data := .seq acc c, slots := #[] } → acc.size = i → PrsAt s.heap x y lo acc → Asc acc →
      (∀ h' tk acc' c', (∀ b o, b ∉ S :: [z, TO, i1, i2] → s.heap.get? b = some o → h'.get? b = some o) → h'.get? S = some { cls := .type "list", dict := none, data := .seq acc' c', slots := #[] } → acc'.size = x.cps.size → PrsAt h' x y lo acc' → Asc acc' → R (.ok (.ret res)) { s with heap := h', toks := tk }) →
      codeAny (model P w) A (.builtin "list.extend.loop" ⟨[.ref S, .ref z, res], []⟩) R s
  | 0, i, s, acc, c, hm, hi, hlo, Z, hS, hz, hp, ha, k => by
    have ei : i = x.cps.size := by omega
    have sub : ∀ b ∈ [z, TO, i1, i2], b ∈ [z, TI, TO, i1, i2] := fun b h => by simp only [List.mem_cons, List.not_mem_nil, or_false] at h ⊢; rcases h with h | h | h | h <;> simp [h]
    have sw : S ∉ [z, TO, i1, i2] := fun h => (hf S (sub S h)).2 rfl
    refine codeAny_builtin F.entry_extend_loop ?_
    rw [Around.under_plainId F.plain_extend_loop _]
    show wpAny _ A.in1 (pyNext (.ref z) >>= _) _ _ s
    refine wpAny_bind (pyNext_zipS_end (by simpa using hh) Dp Z (.inl ei) fun h' tk hk => ?_)
    refine wpAny_pure (k h' tk acc c (fun b o hb e => hk b o (fun h => hb (List.mem_cons_of_mem _ h)) e) (hk S _ sw hS) (by omega) (hp.keep fun T o hT e => hk T o (fun h => ?_) e) ha)
    exact Nat.lt_irrefl _ (Nat.lt_of_lt_of_le (hf T (sub T h)).1 hT)
  | m + 1, i, s, acc, c, hm, hi, hlo, Z, hS, hz, hp, ha, k => by
    have hlt : i < x.cps.size := by omega
    have sub : ∀ b ∈ [z, TO, i1, i2], b ∈ [z, TI, TO, i1, i2] := fun b h => by simp only [List.mem_cons, List.not_mem_nil, or_false] at h ⊢; rcases h with h | h | h | h <;> simp [h]
    have sw : S ∉ [z, TO, i1, i2] := fun h => (hf S (sub S h)).2 rfl
    refine codeAny_builtin F.entry_extend_loop ?_
    rw [Around.under_plainId F.plain_extend_loop _]
    show wpAny _ A.in1 (pyNext (.ref z) >>= _) _ _ s
    refine wpAny_bind (pyNext_zipS_item (by simpa using hh) Dp Z hlt (by omega) fun h' T tk u v Z' hu hv hT hpr hk => ?_)
    have hS' := hk S _ sw hS
    have oth : ∀ b o, b ≠ S → h'.get? b = some o → (h'.update S (Obj.mapSeq (·.push (.ref T)))).get? b = some o := fun b o hb e => (Heap.get?_update_other _ _ (Ne.symm hb)).trans e
    have hTl : T < h'.objs.size := Heap.lt_size hpr
    have hsz : (h'.update S (Obj.mapSeq (·.push (.ref T)))).objs.size = h'.objs.size := Heap.size_update ..
    show wpAny _ A.in1 (updateSeq S (·.push (.ref T)) >>= _) _ _ _
    refine wpAny_bind ?_
    refine wpAny_updateSeq (s := { s with heap := h', toks := tk }) hS' rfl (wpAny_pure ⟨plainId_quiet F.plain_extend_loop _, zip_loop hh Dp hl hn res lo hS0 hf m (i + 1) _ (acc.push (.ref T)) _ (by omega) hlt ?_ (Z'.keep fun b hb o e => oth b o (hf b hb).2 e) (Heap.get?_update_self _ hS' rfl) (by rw [Array.size_push]; omega) ?_ ?_ fun h2 tk2 acc2 c2 hk2 hS2 hz2 hp2 ha2 => ?_⟩)
      (by omega) (by show (acc.push (.ref T)).size ≤ sizeLine + 1; rw [Array.size_push]; omega)
    · show lo ≤ (h'.update S (Obj.mapSeq (·.push (.ref T)))).objs.size
      rw [hsz]; omega
    · intro j v e
      rw [Array.getElem?_push] at e
      by_cases hj : j = acc.size
      · rw [if_pos hj] at e
        cases e
        refine ⟨T, u, _, rfl, Nat.le_trans hlo hT, oth _ _ (fun z => Nat.lt_irrefl _ (Nat.lt_of_lt_of_le hS0 (z ▸ Nat.le_trans hlo hT))) hpr, ?_, ?_⟩
        · rw [hj, hz]; exact hu
        · rw [hj, hz]; assumption
      · rw [if_neg hj] at e
        obtain ⟨T', a, b, h1, h2, h3, h4⟩ := hp j v e
        exact ⟨T', a, b, h1, h2, oth _ _ (fun z => Nat.lt_irrefl _ (Nat.lt_of_lt_of_le hS0 (z ▸ h2))) (hk _ _ (fun h => Nat.lt_irrefl _ (Nat.lt_of_lt_of_le (hf T' (sub T' h)).1 h2)) h3), h4⟩
    · intro j1 j2 T1 T2 hlt2 e1 e2
      rw [Array.getElem?_push] at e1 e2
      have l2 : j2 < acc.size + 1 := by
        by_cases q : j2 = acc.size
        · omega
        · rw [if_neg q] at e2
          have := (Array.getElem?_eq_some_iff.mp e2).1
          omega
      rw [if_neg (by omega)] at e1
      by_cases q : j2 = acc.size
      · rw [if_pos q] at e2
        cases e2
        obtain ⟨T', a, b, h1, h2, h3, h4⟩ := hp j1 _ e1
        cases h1
        exact Nat.lt_of_lt_of_le (Heap.lt_size h3) hT
      · rw [if_neg q] at e2
        exact ha j1 j2 T1 T2 hlt2 e1 e2
    · refine k h2 tk2 acc2 c2 (fun b o hb e => hk2 b o hb (oth _ _ (fun h => hb (by rw [h]; exact List.mem_cons_self)) (hk _ _ (fun h => hb (List.mem_cons_of_mem _ h)) e))) hS2 hz2 hp2 ha2
/-- list(zip) -/
theorem run_list_zip {z TI TO i1 i2 : Addr} {x y : Str} {tx ty : Tok} {Q : Value → Shared → Prop} (hh : A.handled = none) (Dp : Apart z TI TO i1 i2) (Z : ZipS s.heap z TI TO i1 i2 x y tx ty 0) (hf : ∀ b ∈ [z, TI, TO, i1, i2], b < s.heap.objs.size) (hl : x.cps.size = y.cps.size) (hn : x.cps.size ≤ sizeLine) (hzz : ∃ f0, IsZip s.heap z TI TO f0)
    (hQ : ∀ h' tk acc' c', (∀ b o, b ∉ [z, TO, i1, i2] → s.heap.get? b = some o → h'.get? b = some o) → h'.get? s.heap.objs.size = some { cls := .type "list", dict := none, data := .seq acc' c', slots := #[] } → acc'.size = x.cps.size → PrsAt h' x y (s.heap.objs.size + 1) acc' → Asc acc' → Q (.ref s.heap.objs.size) { s with heap := h', toks := tk }) :
    wpAny (model P w) A (call (.type "list") [.ref z]) Q E s := by
  obtain ⟨f0, hiz⟩ := hzz
  refine callType_codes (Q₁ := fun obj s₁ => obj = .ref s.heap.objs.size ∧ s₁ = { s with heap := s.heap.push { cls := .type "list", data := .seq #[] } }) F.called_list (F.typeCall_list_1 _) F.entry_list_init
    (code_list_new _ ⟨rfl, rfl⟩) fun obj s₁ h₁ => ?_
  obtain ⟨rfl, rfl⟩ := h₁
  have hS : (s.heap.push { cls := .type "list", data := .seq #[] }).get? s.heap.objs.size = some { cls := .type "list", data := .seq #[] } := Heap.get?_push_size _ rfl
  have sz0 : (s.heap.push { cls := .type "list", data := .seq #[] }).objs.size = s.heap.objs.size + 1 := Heap.size_push ..
  refine ⟨⟨_, hS, rfl⟩, F.args_list_init_2 _ _, ?_⟩
  have hzS : z ≠ s.heap.objs.size := Nat.ne_of_lt (hf z (by simp))
  generalize hSe : s.heap.objs.size = S at *
  show wpAny _ _ (do let old ← Builtin.List.listItems (.ref S); Builtin.List.listUpdate (.ref S) (fun _ => #[]); letGo old.toList.reverse; Builtin.List.listExtendWith (.ref S) (.ref z) .none) _ _ _
  refine wpAny_bind ?_
  unfold Builtin.List.listItems
  refine wpAny_bind (wpAny_seqItems hS rfl (wpAny_pure ?_))
  show wpAny _ _ (updateSeq S (fun _ => #[]) >>= fun _ => letGo (#[] : Array Value).toList.reverse >>= fun _ => Builtin.List.listExtendWith (.ref S) (.ref z) .none) _ _ _
  refine wpAny_bind (wpAny_updateSeq hS rfl ?_)
  have hS₂ := Heap.get?_update_self (Obj.mapSeq (fun _ => (#[] : Array Value))) hS rfl
  have oth : ∀ b o, b ≠ S → s.heap.get? b = some o → ((s.heap.push { cls := .type "list", data := .seq #[] }).update S (Obj.mapSeq (fun _ => (#[] : Array Value)))).get? b = some o :=
    fun b o hb e => (Heap.get?_update_other _ _ (Ne.symm hb)).trans (Heap.get?_push_of_some _ e)
  refine wpAny_bind (wpAny_letGo ?_)
  have hsz1 : ((s.heap.push { cls := .type "list", data := .seq #[] }).update S (Obj.mapSeq (fun _ => (#[] : Array Value)))).objs.size = S + 1 := by rw [Heap.size_update, sz0]
  generalize (s.heap.push { cls := .type "list", data := .seq #[] }).update S (Obj.mapSeq (fun _ => (#[] : Array Value))) = h1 at hS₂ oth hsz1 ⊢
  have hz1 : IsZip h1 z TI TO f0 := oth _ _ hzS hiz
  have hT : Shared.TypeIs { s with heap := h1 } (.ref z) "zip" := ⟨_, hz1, rfl⟩
  unfold Builtin.List.listExtendWith
  refine wpAny_bind (wpAny_typeOf hT ?_)
  have g1 : Builtin.List.listSameRef (.ref S) (.ref z) = false := by simp [Builtin.List.listSameRef, hzS.symm]
  have g2 : (Value.type "zip" == Value.type "list") = false := by decide
  have g3 : (Value.type "zip" == Value.type "tuple") = false := by decide
  simp only [g1, g2, g3, Bool.or_false, Bool.false_eq_true, if_false]
  refine wpAny_bind (wpAny_pyIter_zip hz1 ?_)
  refine wpAny_bind (wpAny_holding ?_)
  unfold Builtin.List.listLengthHint
  refine wpAny_bind (wpAny_specialOf hT zip_no_len ?_)
  show wpAny _ _ (specialOf (Value.ref z) (Str.ofString "__length_hint__") >>= _) _ _ _
  refine wpAny_bind (wpAny_specialOf hT zip_no_hint ?_)
  refine wpAny_pure ?_
  show wpAny _ _ (rule "list.extend.makes-room" >>= fun _ => Builtin.List.listTouch (.ref S) >>= fun _ =>
    again (.builtin "list.extend.loop" ⟨[.ref S, .ref z, .none], []⟩)) _ _ _
  refine wpAny_bind (wpAny_rule ?_)
  refine wpAny_bind ?_
  show wpAny _ _ (updateSeq S (·.push .none) >>= fun _ => updateSeq S (·.pop)) _ _ _
  refine wpAny_bind (wpAny_updateSeq hS₂ rfl ?_)
  have hS3 := Heap.get?_update_self (Obj.mapSeq (·.push Value.none)) hS₂ rfl
  refine wpAny_updateSeq (hz := by seq_fits) hS3 rfl ?_
  have hS4 := Heap.get?_update_self (Obj.mapSeq (·.pop)) hS3 rfl
  have oth2 : ∀ b o, b ≠ S → s.heap.get? b = some o → ((h1.update S (Obj.mapSeq (·.push Value.none))).update S (Obj.mapSeq (·.pop))).get? b = some o :=
    fun b o hb e => (Heap.get?_update_other _ _ (Ne.symm hb)).trans ((Heap.get?_update_other _ _ (Ne.symm hb)).trans (oth b o hb e))
  have hsz2 : ((h1.update S (Obj.mapSeq (·.push Value.none))).update S (Obj.mapSeq (·.pop))).objs.size = S + 1 := by rw [Heap.size_update, Heap.size_update, hsz1]
  refine wpAny_pure ⟨plainId_quiet F.plain_extend_loop _, ?_⟩
  refine zip_loop (by simpa using hh) Dp hl hn .none (S + 1) (Nat.lt_succ_self _) (fun b hb => ⟨Nat.lt_succ_of_lt (hf b hb), Nat.ne_of_lt (hf b hb)⟩) x.cps.size 0 _ #[] _ rfl (Nat.zero_le _) (by show S + 1 ≤ _; exact Nat.le_of_eq hsz2.symm) (Z.keep fun b hb o e => oth2 b o (Nat.ne_of_lt (hf b hb)) e) hS4 rfl (fun i v e => by simp at e) (fun i j T T' _ e => by simp at e) fun h' tk acc c hk hS' hz' hp' ha' => ?_
  refine ⟨rfl, hQ h' tk acc c (fun b o hb e => hk b o (fun h => ?_) (oth2 b o ?_ e)) hS' hz' hp' ha'⟩
  · rcases List.mem_cons.mp h with h | h
    · exact Nat.lt_irrefl _ (Nat.lt_of_lt_of_eq (Heap.lt_size e) (hSe.trans h.symm))
    · exact hb h
  · exact fun h => Nat.lt_irrefl _ (Nat.lt_of_lt_of_eq (Heap.lt_size e) (hSe.trans h.symm))
end
/-! ### the rule -/
theorem lay_many {P : Program} {w : World} {h' : Heap} : ∀ (L : List (Addr × HO)) (H : Hp), HOk P w H h' → (L.map (·.1)).Nodup → (∀ t ∈ L, H t.1 = none) → (∀ t ∈ L, ∀ H', ObjOk P w H' h' t.1 t.2) → ∃ H2, Same H H2 ∧ HOk P w H2 h' ∧ (∀ t ∈ L, H2 t.1 = some t.2) ∧ ∀ b, b ∉ L.map (·.1) → H2 b = H b
  | [], H, hk, _, _, _ => ⟨H, Same.refl _, hk, by simp, fun _ _ => rfl⟩
  | t :: L, H, hk, nd, hn, ho => by
    rw [List.map_cons, List.nodup_cons] at nd
    have k1 := hk.laidN (h' := h') (a := t.1) (o := t.2) (fun _ _ e => e) (hn t List.mem_cons_self) (ho t List.mem_cons_self _)
    obtain ⟨H2, h1, h2, h3, h4⟩ := lay_many L (upd H t.1 t.2) k1 nd.2 (fun u hu => by
      rw [upd_ne (fun z : u.1 = t.1 => nd.1 (List.mem_map.mpr ⟨u, hu, z⟩))]
      exact hn u (List.mem_cons_of_mem _ hu)) fun u hu => ho u (List.mem_cons_of_mem _ hu)
    refine ⟨H2, fun a o e => h1 a o (by rw [upd_ne (ne_of_none e (hn t List.mem_cons_self))]; exact e), h2, fun u hu => ?_, fun b hb => ?_⟩
    · rcases List.mem_cons.mp hu with rfl | hu
      · rw [h4 _ nd.1, upd_same]
      · exact h3 u hu
    · rw [List.map_cons, List.mem_cons, not_or] at hb
      rw [h4 b hb.2, upd_ne hb.1]
theorem Un.grow {fs ex : List Addr} {H H' : Hp} {h h' : Heap} (k : ∀ b u, h.get? b = some u → h'.get? b = some u) (sm : Same H H') (fr : ∀ b o, h.get? b = some o → H b = none → H' b = none) : Un fs ex H H' h h' where
  keep := fun b u q _ _ _ => k b u q
  slot := fun b u q _ _ _ => ⟨u.slots, k b u q⟩
  free := fun b u q n _ => fr b u q n
  there := fun b u q _ => ⟨u, k b u q⟩
  tups := fun b xs q => sm b _ q
  frzs := fun b u xs q => sm b _ q
  tbls := fun b ps q => ⟨#[], by rw [sm b _ q]; simp⟩
theorem vals_refs : ∀ ts : List Addr, Vals (ts.map V.ref) (ts.map Value.ref)
  | [] => .nil
  | _ :: ts => .cons rfl (vals_refs ts)
def tListZip (ta : TA) : TE := fun σ H Q => ta σ H fun vs H1 => ∃ x y : Str, vs = [.str x, .str y] ∧ x.length = y.length ∧ x.length ≤ sizeLine ∧
  ∀ p (ts : List Addr) H2, Same H1 H2 → H1 p = none → H2 p = some (.lst (ts.map V.ref)) → ts.length = x.length →
    (∀ (i : Nat) (t : Addr), ts[i]? = some t → H1 t = none ∧ ∃ a b, H2 t = some (.tup [.str ⟨#[a]⟩, .str ⟨#[b]⟩]) ∧ x.cps[i]? = some a ∧ y.cps[i]? = some b) → Q (.ref p) H2
theorem pe_listZip {X : Cx} {a b : Expr} {ta : TA} {p p2 q pos : Pos} (hc : X.calm = true) (hg : Gl X "list") (hm : X.mg "list" = none) (hg2 : Gl X "zip") (hm2 : X.mg "zip" = none) (ha : PA X [a, b] ta)
    (hs : starEach [a, b] X.env = (false, eval a X.env) :: starEach [b] X.env := by rfl) (hpl : (backTo q (starEach [b] X.env)).any (·.1) = false := by rfl)
    (na : starEach [Expr.Call (.Name "zip" p2) [a, b] [] q] X.env = (false, eval (Expr.Call (.Name "zip" p2) [a, b] [] q) X.env) :: starEach [] X.env := by rfl) :
    PE X (.Call (.Name "list" p) [.Call (.Name "zip" p2) [a, b] [] q] [] pos) (tListZip ta) := by
  refine ⟨fun pins s σ H R I h => ?_⟩
  refine Call_ (ld_blt I hg hm boot_list (callWith_type1 (args_cons ?_ na) na rfl))
  refine Call_ (ld_blt I hg2 hm2 boot_zip (callWith_type1 (thn (ha.run q pins s σ H _ I h) fun us s1 ⟨vs, H1, I1, r1, q1⟩ => ?_) hs hpl))
  obtain ⟨x, y, ex, hl, hz, qq⟩ := q1
  subst ex
  cases r1 with
  | cons r rr =>
    cases rr with
    | cons r' rr =>
      cases rr
      obtain ⟨tx, rfl⟩ := r
      obtain ⟨ty, rfl⟩ := r'
      refine run_zipS fun h' hzip Z hsz hk => args_nil ?_
      have n : ∀ i j : Nat, i ≠ j → s1.heap.objs.size + i ≠ s1.heap.objs.size + j := fun i j h z => h (Nat.add_left_cancel z)
      refine run_list_zip (s := { s1 with heap := h' }) (I1.ok.hd hc) ⟨n 2 4 (by decide), n 3 4 (by decide), n 0 4 (by decide), n 1 4 (by decide), n 2 3 (by decide), n 2 0 (by decide), n 2 1 (by decide), n 3 0 (by decide), n 3 1 (by decide), n 0 1 (by decide)⟩ Z ?_ hl hz ⟨_, hzip⟩ fun h2 tk acc c hk2 hS2 hz2 hp2 ha2 => ?_
      · intro b hb
        show b < h'.objs.size
        rw [hsz]
        simp only [List.mem_cons, List.not_mem_nil, or_false] at hb
        rcases hb with rfl | rfl | rfl | rfl | rfl
        · exact Nat.add_lt_add_left (by decide) _
        · exact Nat.add_lt_add_left (by decide) _
        · exact Nat.add_lt_add_left (by decide) _
        · exact Nat.lt_add_of_pos_right (by decide)
        · exact Nat.add_lt_add_left (by decide) _
      have hk2 : ∀ b o, b ∉ [s1.heap.objs.size + 4, s1.heap.objs.size + 3, s1.heap.objs.size, s1.heap.objs.size + 1] → h'.get? b = some o → h2.get? b = some o := hk2
      have hS2 : h2.get? h'.objs.size = some { cls := .type "list", dict := none, data := .seq acc c, slots := #[] } := hS2
      have hp2 : PrsAt h2 x y (h'.objs.size + 1) acc := hp2
      rw [hsz] at hS2 hp2
      have kk : ∀ b o, s1.heap.get? b = some o → h2.get? b = some o := fun b o e => hk2 b o (fun h => by
        have := Heap.lt_size e
        simp only [List.mem_cons, List.not_mem_nil, or_false] at h
        rcases h with rfl | rfl | rfl | rfl
        · exact Nat.not_lt.mpr (Nat.le_add_right _ _) this
        · exact Nat.not_lt.mpr (Nat.le_add_right _ _) this
        · exact Nat.lt_irrefl _ this
        · exact Nat.not_lt.mpr (Nat.le_add_right _ _) this) (hk b o e)
      have all : ∃ ts : List Addr, acc.toList = ts.map Value.ref := by
        have : ∀ v ∈ acc.toList, ∃ T, v = Value.ref T := fun v hv => by
          obtain ⟨i, hi, e⟩ := List.getElem_of_mem hv
          obtain ⟨T, _, _, h1, _⟩ := hp2 i v (by rw [← e]; simp at hi ⊢)
          exact ⟨T, h1⟩
        generalize acc.toList = l at this
        induction l with
        | nil => exact ⟨[], rfl⟩
        | cons v l ih =>
          obtain ⟨T, rfl⟩ := this v List.mem_cons_self
          obtain ⟨ts, e⟩ := ih fun u hu => this u (List.mem_cons_of_mem _ hu)
          exact ⟨T :: ts, by rw [e]; rfl⟩
      obtain ⟨ts, ets⟩ := all
      have tl : ts.length = x.length := by
        have := congrArg List.length ets
        rw [Array.length_toList, List.length_map] at this
        rw [← this]; exact hz2
      have at_ : ∀ (i : Nat) (t : Addr), ts[i]? = some t → acc[i]? = some (.ref t) := fun i t e => by
        rw [← Array.getElem?_toList, ets, List.getElem?_map, e]; rfl
      have pr : ∀ (i : Nat) (t : Addr), ts[i]? = some t → s1.heap.objs.size + 5 + 1 ≤ t ∧ ∃ a b u v, IsPair h2 t (.str ⟨#[a]⟩ u) (.str ⟨#[b]⟩ v) ∧ x.cps[i]? = some a ∧ y.cps[i]? = some b := fun i t e => by
        obtain ⟨T, a, b, h1, h2, h3, ⟨c1, u1, h4, rfl⟩, ⟨c2, u2, h5, rfl⟩⟩ := hp2 i _ (at_ i t e)
        cases h1
        exact ⟨h2, c1, c2, u1, u2, h3, h4, h5⟩
      have lens : x.cps.size = x.length := rfl
      let hoOf : Nat → Addr → Addr × HO := fun i t => (t, .tup [.str ⟨#[(x.cps[i]?).getD 0]⟩, .str ⟨#[(y.cps[i]?).getD 0]⟩])
      let L : List (Addr × HO) := (s1.heap.objs.size + 5, .lst (ts.map V.ref)) :: ts.mapIdx hoOf
      have eL : L.map (·.1) = (s1.heap.objs.size + 5) :: ts := by
        show _ :: (ts.mapIdx hoOf).map (·.1) = _
        congr 1
        apply List.ext_getElem?
        intro i
        rw [List.getElem?_map, List.getElem?_mapIdx]
        cases ts[i]? <;> rfl
      have memL : ∀ u ∈ L, u = (s1.heap.objs.size + 5, .lst (ts.map V.ref)) ∨ ∃ (i : Nat) (t : Addr), ts[i]? = some t ∧ u = hoOf i t := fun u hu => by
        rcases List.mem_cons.mp hu with h | h
        · exact .inl h
        · obtain ⟨i, hi, e⟩ := List.getElem_of_mem h
          have g := List.getElem?_eq_getElem hi
          rw [List.getElem?_mapIdx] at g
          obtain ⟨t, ht, e2⟩ := Option.map_eq_some_iff.mp g
          exact .inr ⟨i, t, ht, by rw [← e, ← e2]⟩
      have nd : (L.map (·.1)).Nodup := by
        rw [eL, List.nodup_cons]
        refine ⟨fun hm => ?_, ?_⟩
        · obtain ⟨i, hi, e⟩ := List.getElem_of_mem hm
          have := (pr i _ (List.getElem?_eq_getElem hi)).1
          rw [e] at this
          exact Nat.lt_irrefl _ this
        · rw [List.nodup_iff_pairwise_ne, List.pairwise_iff_getElem]
          intro i j hi hj hij e
          have g := List.getElem?_eq_getElem hj
          have g' := List.getElem?_eq_getElem hi
          rw [e] at g'
          have := ha2 i j _ _ hij (at_ i _ g') (at_ j _ g)
          exact Nat.lt_irrefl _ this
      have lo5 : ∀ u ∈ L, s1.heap.objs.size ≤ u.1 := fun u hu => by
        rcases memL u hu with rfl | ⟨i, t, ht, rfl⟩
        · exact Nat.le_add_right _ _
        · exact Nat.le_trans (Nat.le_add_right _ 6) (pr i t ht).1
      obtain ⟨H2, e1, e2, e3, e4⟩ := lay_many L H1 (I1.hok.kept kk) nd (fun u hu => I1.hok.fresh (lo5 u hu)) (fun u hu H' => by
        rcases memL u hu with rfl | ⟨i, t, ht, rfl⟩
        · refine ⟨by rw [List.length_map, tl]; exact hz, acc.toList, c, ?_, by simpa using hS2⟩
          rw [ets]
          exact vals_refs ts
        · obtain ⟨_, a, b, u, v, h1, h2, h3⟩ := pr i t ht
          have g1 : (x.cps[i]?).getD 0 = a := by rw [h2]; rfl
          have g2 : (y.cps[i]?).getD 0 = b := by rw [h3]; rfl
          show ObjOk _ _ _ _ t (.tup [.str ⟨#[(x.cps[i]?).getD 0]⟩, .str ⟨#[(y.cps[i]?).getD 0]⟩])
          rw [g1, g2]
          exact ⟨sz2, [_, _], .cons ⟨u, rfl⟩ (.cons ⟨v, rfl⟩ .nil), _, h1, rfl, _, rfl⟩)
      have I2 : L2.Inv X pins σ H2 { s1 with heap := h2, toks := tk } := I1.un (Un.grow kk e1 fun b o e n => by
        rw [e4 b (fun hm => ?_)]; exact n
        obtain ⟨u, hu, rfl⟩ := List.mem_map.mp hm
        exact Nat.lt_irrefl _ (Nat.lt_of_lt_of_le (Heap.lt_size e) (lo5 u hu))) e2
      refine ⟨.ref (s1.heap.objs.size + 5), H2, I2, by show _ = _; rw [← hsz], qq _ ts H2 e1 (I1.hok.fresh (Nat.le_add_right _ _)) (e3 _ List.mem_cons_self) tl fun i t ht => ?_⟩
      obtain ⟨g0, a, b, u, v, g1, g2, g3⟩ := pr i t ht
      refine ⟨I1.hok.fresh (Nat.le_trans (Nat.le_add_right _ 6) g0), a, b, ?_, g2, g3⟩
      have := e3 (hoOf i t) (List.mem_cons_of_mem _ (List.mem_of_getElem? (i := i) (by rw [List.getElem?_mapIdx, ht]; rfl)))
      rw [show hoOf i t = (t, .tup [.str ⟨#[a]⟩, .str ⟨#[b]⟩]) from by show (t, _) = _; rw [g2, g3]; rfl] at this
      exact this
theorem denL_ix {K : PySem.W.Frag} {F : Hp} : ∀ {vs : List V} {ds : List D}, vs.length = ds.length → (∀ (i : Nat) v d, vs[i]? = some v → ds[i]? = some d → Den K F v d) → DenL K F vs ds
  | [], [], _, _ => .nil
  | v :: vs, d :: ds, h, k => .cons (k 0 v d rfl rfl) (denL_ix (by simpa using h) fun i v' d' h1 h2 => k (i + 1) v' d' (by simpa using h1) (by simpa using h2))
section
variable {K : PySem.W.Frag} {F H : Hp} {σ : L2.St} {ta : TA}
theorem ev_listZip {l m : List Nat} {d e : D} (h : EvA K ta σ F [d, e]) (e1 : d = txt l) (e2 : e = txt m) (hl : l.length = m.length) (hz : l.length ≤ 16777216) : EvD K (tListZip ta) σ F (.lst ((l.zip m).map fun p => .tup [txt [p.1], txt [p.2]])) := fun H s Q q => h H s _ fun vs F1 H1 x1 dl => by
  subst e1 e2
  cases dl with
  | cons a t =>
    cases t with
    | cons b t =>
      cases t
      cases a
      cases b
      refine ⟨_, _, rfl, by rw [txt_len, txt_len]; exact hl, by rw [txt_len, sizeLine_eq]; exact hz, fun p ts H2 sm hp hpl tl hts => ?_⟩
      rw [txt_len] at tl
      let F2 : Hp := fun b => match H1 b with | none => H2 b | some _ => F1 b
      have f2n : ∀ b, H1 b = none → F2 b = H2 b := fun b hb => by show (match H1 b with | none => H2 b | some _ => F1 b) = _; rw [hb]
      have f2s : ∀ b o, H1 b = some o → F2 b = F1 b := fun b o hb => by show (match H1 b with | none => H2 b | some _ => F1 b) = _; rw [hb]
      have x2 : Ext [] F1 H1 F2 H2 := Ext.of (fun a o ha => by rw [f2s a o (x1.s a o ha)]; exact ha) sm (fun a o ha => by
        cases hh : H1 a with
        | none => rw [f2n a hh] at ha; exact ha
        | some u => rw [f2s a u hh] at ha; exact sm a o (x1.s a o ha)) fun a ha hk => by
          cases hh : H1 a with
          | none => exact absurd hh hk
          | some u => rw [f2s a u hh]; exact ha
      refine q _ F2 H2 (x1.tr x2) (.lst (xs := ts.map V.ref) (by rw [f2n p hp]; exact hpl) ?_)
      refine denL_ix (by rw [List.length_map, List.length_map, List.length_zip]; omega) fun i v dd hv hd => ?_
      rw [List.getElem?_map] at hv hd
      obtain ⟨t, ht, rfl⟩ := Option.map_eq_some_iff.mp hv
      obtain ⟨pq, hpq, rfl⟩ := Option.map_eq_some_iff.mp hd
      obtain ⟨h1, a, b, h2, h3, h4⟩ := hts i t ht
      have ea : l[i]? = some a := by simpa using h3
      have eb : m[i]? = some b := by simpa using h4
      have : pq = (a, b) := by
        have hz := List.getElem?_zip_eq_some.mp hpq
        rw [ea, eb] at hz
        exact Prod.ext (Option.some.inj hz.1).symm (Option.some.inj hz.2).symm
      subst this
      exact .tup (SqT.of (by rw [f2n t h1]; exact h2)) (.cons (.str _) (.cons (.str _) .nil))
end
end Nm

set_option Elab.async false
set_option linter.all false
set_option maxRecDepth 100000
set_option maxHeartbeats 2000000
/-! cls(*parts); enumerate(list); text.split(sep); int(text); (int, text) <= (int, text); a class method. -/
namespace Nm
open PySem PySem.Spec L2
def tMakeLS (K : PySem.W.Frag) (i : Nat) (C : Addr) (sp : Sp) (E : XK) (te : TE) : TE := fun σ H Q => σ[i]? = some (some (.ref C)) ∧ te σ H fun y H1 => ∃ a xs, y = V.ref a ∧ (SqT K H1 a xs ∨ SqL K H1 a xs) ∧
  ∀ x dx, H1 x = none → H1 dx = none → dx ≠ x → sp (V.ref x :: xs) (upd (upd H1 dx (.own x)) x (.ins C dx [])) (fun v H2 => v = .non ∧ Q (.ref x) H2) E
theorem pe_makeLS {X : Cx} {CX : CXT} {k i : Nat} {f C : Addr} {fd : FuncData} {ps : List Str} {sp : Sp} {E : XK} {x : Str} {e : Expr} {te : TE} {p sp_ pos : Pos} (M : Mk X.K C f) (G : FnOk X.prog X.w X.K X.mg X.base CX k f fd ps sp) (hr : Room (k + 1) X.A) (hN : X.N[i]? = some x) (hv : Vis X.env.scope x) (hb : Binds X.K fd ps []) (hx : Passes CX X E) (he : PE X e te)
    (hdb : (x == ("__debug__" : Str)) = false := by decide) (hcd : (x == ("__classdict__" : Str)) = false := by decide) (hst : starEach [.Starred e sp_] X.env = [(true, eval e X.env)] := by rfl) :
    PE X (.Call (.Name x p) [.Starred e sp_] [] pos) (tMakeLS X.K i C sp E te) := by
  have R : FnR X.prog X.w X.K X.mg X.base CX k f sp := (G.raw hb .nil).imp fun vs H Q E h => by rw [List.append_nil]; exact h
  refine ⟨fun pins s σ H Q I h => ?_⟩
  obtain ⟨hs, ht⟩ := h
  refine wpAny_Call_Name_kw (thn ((pe_var (pos := p) hN hv hdb hcd).run pins s σ H (fun v H1 => v = .ref C ∧ H1 = H) I ⟨.ref C, hs, rfl, rfl⟩) fun u s1 ⟨v, H1, I1, r1, q1⟩ => ?_)
  obtain ⟨rfl, rfl⟩ := q1
  cases r1
  refine PySem.W.callWith_S (h₀ := X.base) I.ok.mod.kin M.kp (thn (he.run pins s1 σ _ _ I1 ht) fun v s2 ⟨y, H2, I2, ry, a, xs, ey, hxs, q⟩ => ?_) hst
  subst ey
  obtain rfl : v = Value.ref a := ry
  exact StX.star_any I2 hxs fun us s3 I3 rv => ⟨I3.kIn, StX.run_makeR M R hr hx I3 rv q⟩
/-! ### (int, text) <= (int, text) -/
def leIS (i : Int) (z : Str) (j : Int) (w : Str) : Bool := if i = j then (if z = w then true else !decide (w.cps.toList < z.cps.toList)) else decide (i ≤ j)
def rLeIS (K : PySem.W.Frag) : R2 := fun x y H Q => ∃ (a b : Addr) (i j : Int) (z w : Str), x = .ref a ∧ y = .ref b ∧ SqT K H a [.int i, .str z] ∧ SqT K H b [.int j, .str w] ∧ Q (.bl (leIS i z j w)) H
theorem op_leIS {X : Cx} (hu : X.A.units < cLine) : OpR X (compareOp .LtE) (rLeIS X.K) := by
  intro pins s σ H x y v u Q I rx ry h
  obtain ⟨a, b, i, j, z, w, rfl, rfl, ha, hb, q⟩ := h
  cases rx
  cases ry
  obtain ⟨its, r1, p1, _⟩ := I.tuple ha
  obtain ⟨its2, r2, p2, _⟩ := I.tuple hb
  obtain ⟨ti, tz, rfl⟩ : ∃ ti tz, its = [.int i ti, .str z tz] := by
    cases r1 with
    | cons a1 t1 => cases t1 with
      | cons a2 t2 =>
        cases t2
        obtain ⟨ti, rfl⟩ := a1
        obtain ⟨tz, rfl⟩ := a2
        exact ⟨_, _, rfl⟩
  obtain ⟨tj, tw, rfl⟩ : ∃ ti tz, its2 = [.int j ti, .str w tz] := by
    cases r2 with
    | cons a1 t1 => cases t1 with
      | cons a2 t2 =>
        cases t2
        obtain ⟨ti, rfl⟩ := a1
        obtain ⟨tz, rfl⟩ := a2
        exact ⟨_, _, rfl⟩
  have R := Ob.RcOp.tuples_le (A := X.A) (s := s) (e := fun k => match k with | 0 => decide (i = j) | _ => decide (z = w)) (r := fun k => match k with | 0 => decide (i ≤ j) | _ => !decide (w.cps.toList < z.cps.toList)) p1 p2 hu (fun k h1 h2 => by
      match k, h1, h2 with
      | 0, h1, h2 =>
        show SeqAt.EqAt _ _ (Value.int i ti) (Value.int j tj) (decide (i = j))
        have zz : (i == j) = decide (i = j) := rfl
        rw [← zz]
        exact SeqAt.EqAt.int_int _ _ _ _
      | 1, h1, h2 =>
        show SeqAt.EqAt _ _ (Value.str z tz) (Value.str w tw) (decide (z = w))
        have zz : (z == w) = decide (z = w) := by
          by_cases e : z = w
          · subst e; simp
          · rw [decide_eq_false e]; exact beq_eq_false_iff_ne.mpr e
        rw [← zz]
        exact SeqAt.EqAt.str_str _ _ _ _) (fun k h1 h2 _ => by
      match k, h1, h2 with
      | 0, h1, h2 => exact Ob.RcOp.le_int _ _ _ _
      | 1, h1, h2 =>
        show Ob.RcOp .LtE _ _ (Value.str z tz) (Value.str w tw) _
        intro prog w' E' Q' hq
        exact PySem.P.le_str hq)
  have zz : wpAny (model X.prog X.w) X.A (compareOp .LtE (.ref a) (.ref b)) (EP X pins σ Q) X.xe s := R X.prog X.w X.xe (EP X pins σ Q) ⟨.bl _, H, I, rfl, ?_⟩
  · exact zz
  · refine cast (congrArg (fun b => Q (.bl b) H) ?_) q
    unfold leIS
    show _ = (if (decide (i = j)) = true then (if (decide (z = w)) = true then decide (2 ≤ 2) else _) else decide (i ≤ j))
    by_cases e1 : i = j
    · by_cases e2 : z = w
      · simp [e1, e2]
      · simp [e1, e2]
    · simp [e1]
def rLeM (K : PySem.W.Frag) : R2 := fun x y H Q => rLeIS K x y H Q
section
variable {K : PySem.W.Frag} {F H : Hp} {σ : L2.St} {ta tb te : TE} {tr : TA}
theorem rv_leIS {i j : Int} {z w : Str} : RvD K (rLeIS K) (.tup [.int i, .str z]) (.tup [.int j, .str w]) (.bl (leIS i z j w)) := fun F H x y s hx hy Q q => by
  cases hx with
  | tup a l =>
    cases hy with
    | tup b m =>
      cases l with
      | cons l1 l2 => cases l2 with
        | cons l3 l4 =>
          cases l4
          cases l1
          cases l3
          cases m with
          | cons m1 m2 => cases m2 with
            | cons m3 m4 =>
              cases m4
              cases m1
              cases m3
              exact ⟨_, _, _, _, _, _, rfl, rfl, same_t s a, same_t s b, q _ F H (Ext.refl s) (.bl _)⟩
/-! ### enumerate(list) -/
theorem ei_enumL {ds : List D} (h : EvA K tr σ F [.lst ds]) : EvI K (iEnum K tr) σ F ((List.range ds.length).map fun i => .tup [.int (i : Nat), ds.getD i .non]) := fun H s R q => h H s _ fun vs F1 H1 x1 dl => by
  cases dl with
  | cons a t =>
    cases t
    cases a with
    | lst hh l =>
      rename_i a xs
      refine ⟨a, xs, rfl, SqL.of (x1.s _ _ hh), q _ F1 H1 x1 ⟨fun H => SqL K H a xs, YPair (fun i => some (.int (i : Nat))) (fun i => xs[i]?), ?_, fun H s => SqL.of (s _ _ hh), fun i H v H' hi s y => ?_⟩⟩
      · rw [List.length_map, List.length_range, ← l.length]; exact walk_enum
      · obtain ⟨T, a1, b1, rfl, h2, rfl, h4, h5⟩ := y
        cases h4
        obtain ⟨d, g1, g2⟩ := l.getV h5
        have lt := (List.getElem?_eq_some_iff.mp g1).1
        refine ⟨_, upd F1 T (.tup [.int (i : Nat), b1]), ?_, Ext.new s h2, .tup (SqT.of upd_same) (.cons (.int _) (.cons (g2.up (Ext.new (o := .tup [.int (i : Nat), b1]) s h2).f) .nil))⟩
        rw [List.getElem?_map, List.getElem?_range lt, Option.map_some, List.getD_eq_getElem?_getD, g1]
        rfl
/-! ### text.split(sep), int(text) -/
def rSplitT : V → List V → Hp → VK → Prop := fun x xs H Q => ∃ a b, x = .str a ∧ xs = [.str b] ∧ (b.length == 0) = false ∧ a.length + 2 ≤ sizeLine ∧ rNewStrs (Txt.split a b) H Q
theorem ev_split {z b : Str} (h1 : EvD K ta σ F (.str z)) (h2 : EvD K tb σ F (.str b)) (hb : (b.length == 0) = false) (hz : z.length ≤ 10000) : EvD K (tM1 rSplitT ta tb) σ F (.lst ((Txt.split z b).map D.str)) := fun H s Q q =>
  h1 H s _ fun x F1 H1 x1 d1 => by
    cases d1
    refine ⟨⟨_, rfl⟩, (h2.up x1.f) H1 x1.s _ fun y F2 H2 x2 d2 => ?_⟩
    cases d2
    refine ⟨_, _, rfl, rfl, hb, by rw [sizeLine_eq]; omega, fun p hp => ?_⟩
    exact q _ _ _ ((x1.tr x2).tr (Ext.new x2.s hp)) (.lst upd_same (DenL.strs _))
def rIntT : List V → Hp → VK → Prop := fun xs H Q => ∃ a n, xs = [.str a] ∧ PySem.intText? a = some n ∧ a.length ≤ 640 ∧ Q (.int n) H
theorem rc_int {a : Str} {n : Int} (h : PySem.intText? a = some n) (hz : a.length ≤ 640) : RcD K rIntT [.str a] (.int n) := fun F H xs s hx Q q => by
  cases hx with
  | cons h1 t =>
    cases t
    cases h1
    exact ⟨_, _, rfl, h, hz, q _ F H (Ext.refl s) (.int _)⟩
/-! ### a class method -/
theorem ev_cmeth {C : Addr} {n : Nat} {R : List D → D → Prop} {E : XK} {ds : List D} {d : D} (h1 : EvD K te σ F (.cls C)) (ha : EvA K tr σ F ds) (he : R (.cls C :: ds) d) (hn : (D.cls C :: ds).length = n) : EvD K (ClX.tCMeth C (spR K n R) E te tr) σ F d := fun H s Q q =>
  h1 H s _ fun v F1 H1 x1 d1 => by
    cases d1
    refine ⟨rfl, (ha.up x1.f) H1 x1.s _ fun vs F2 H2 x2 l2 => ?_⟩
    exact ⟨F2, _, d, x2.s, .cons (.cls C) l2, he, hn, fun w F3 H3 x3 d3 => q w F3 H3 ((x1.tr x2).tr x3) d3⟩
end
theorem c_int {X : Cx} : CallR X (.type "int") rIntT := call_int_str
theorem mt_splitT {X : Cx} : MtR X "str.split" rSplitT := mt_split
theorem pe_cmethG {X : Cx} {CX : CXT} {k : Nat} {C p g : Addr} {mc : Value} {fd : FuncData} {ps : List Str} {sp : Sp} {E : XK} {m : Str} {o e : Expr} {es : List Expr} {ta : TE} {t : TA} {apos pos : Pos} {pl : Sem Bool} (he : PE X o ta) (r : ClX.CRead X.K C mc) (c : ClX.CMet X.K C mc m p g) (G : FnOk X.prog X.w X.K X.mg X.base CX k g fd ps sp) (hb : Binds X.K fd ps []) (hr : Room k X.A) (hx : Passes CX X E) (ha : PA X (e :: es) t)
    (hst : starEach (e :: es) X.env = (false, eval e X.env) :: starEach es X.env := by rfl) (hpl : (backTo pos (starEach es X.env)).any (·.1) = false := by rfl)
    (ht : eval (.Call (.Attribute o m apos) (e :: es) [] pos) X.env = (do
      let ov ← eval o X.env
      standAt apos.atName
      let (f, first) ← holding [ov] (getMethod ov m pl)
      callWith pos f first (backTo pos (starEach (e :: es) X.env)) (backToKw pos (keywordEach [] X.env))) := by rfl) :
    PE X (.Call (.Attribute o m apos) (e :: es) [] pos) (ClX.tCMeth C sp E ta t) :=
  ClX.pe_cmeth he r c ((G.raw hb .nil).imp fun vs H Q E h => by rw [List.append_nil]; exact h) hr hx ha hst hpl ht
/-! ### two dicts of one's own are locked -/
def tLk2 (te : TE) : TE := fun σ H Q => te σ H fun v H1 => ∃ p q u w, p ≠ q ∧ H1 p = some u ∧ Mut (some u) ∧ H1 q = some w ∧ Mut (some w) ∧ ∀ od od', Q v (upd (upd H1 p (.frz od u)) q (.frz od' w))
theorem pe_lk2 {X : Cx} {e : Expr} {t : TE} (h : PE X e t) : PE X e (tLk2 t) := by
  refine ⟨fun pins s σ H Q I hw => ?_⟩
  refine thn (h.run pins s σ H _ I hw) fun u s1 ⟨x, H1, I1, r, p, q, uu, ww, pq, hp, mp, hq, mq, k⟩ => ?_
  obtain ⟨od, I2⟩ := I1.lock hp mp
  obtain ⟨od', I3⟩ := I2.lock (d := q) (by rw [upd_ne pq.symm]; exact hq) mq
  exact ⟨_, _, I3, r, k od od'⟩
end Nm

set_option Elab.async false
set_option linter.all false
set_option maxRecDepth 100000
set_option maxHeartbeats 2000000
/-! repr of data of any depth, dicts among them: only the dicts' places must not be the place of the modules. -/
namespace Nm
open PySem PySem.Spec L2
mutual
/-- what stands at a value -/
inductive Tells (h : Heap) : Value → PyData → Prop
  | nn : Tells h .none .none
  | bb (b) : Tells h (.bool b) (.bool b)
  | ii (i t) : Tells h (.int i t) (.int i)
  | ss (x t) : Tells h (.str x t) (.str x)
  | ll {p ob its n ds} : h.get? p = some ob → ob.cls = .type "list" → ob.data = .seq its n → TellsL h its.toList ds → Tells h (.ref p) (.list ds)
  | tt {p ob its n ds} : h.get? p = some ob → ob.cls = .type "tuple" → ob.data = .seq its n → TellsL h its.toList ds → Tells h (.ref p) (.tuple ds)
  | dd {p ob ents n prs} : (p == sysModules) = false → h.get? p = some ob → ob.cls = .type "dict" → ob.data = .dict ents n → TellsL h (ents.toList.map fun e => e.key) (prs.map fun q => q.1) → TellsL h (ents.toList.map fun e => e.val) (prs.map fun q => q.2) → Tells h (.ref p) (.dict prs)
inductive TellsL (h : Heap) : List Value → List PyData → Prop
  | e : TellsL h [] []
  | c {v vs d ds} : Tells h v d → TellsL h vs ds → TellsL h (v :: vs) (d :: ds)
end
mutual
theorem Tells.rd {h : Heap} : ∀ {v : Value} {d : PyData}, Tells h v d → ∃ l, Reads h v d l
  | _, _, .nn => ⟨_, Reads.none⟩
  | _, _, .bb x => ⟨_, Reads.bool x⟩
  | _, _, .ii x u => ⟨_, Reads.int x u⟩
  | _, _, .ss x u => ⟨_, Reads.str x u⟩
  | _, _, .ll a b c m => m.rd.elim fun _ z => ⟨_, Reads.list a b c z⟩
  | _, _, .tt a b c m => m.rd.elim fun _ z => ⟨_, Reads.tuple a b c z⟩
  | _, _, .dd _ a b c m m' => m.rd.elim fun _ z => m'.rd.elim fun _ z' => ⟨_, Reads.dict a b c z z'⟩
theorem TellsL.rd {h : Heap} : ∀ {vs : List Value} {ds : List PyData}, TellsL h vs ds → ∃ l, ReadsAll h vs ds l
  | _, _, .e => ⟨_, ReadsAll.nil⟩
  | _, _, .c a b => a.rd.elim fun _ z => b.rd.elim fun _ z' => ⟨_, ReadsAll.cons z z'⟩
end
section
variable {P : Program} {w : World} {g : Heap}
/-- it can be shown within what guards the places bs -/
def Sw (P : Program) (w : World) (g : Heap) (n : Nat) (v : Value) (t : Str) : Prop := ∃ bs, ReadAtMost g n bs ∧ ReprK P w bs g n v t
def SwL (P : Program) (w : World) (g : Heap) (n : Nat) (vs : List Value) (ts : List Str) : Prop := ∃ bs, ReadAtMost g n bs ∧ ReprAllK P w bs g n vs ts
theorem sw_flat {n : Nat} {v : Value} {t : Str} (h : ReprIs P w v t) : Sw P w g n v t := ⟨[], (fun _ z => nomatch z), ReprK.of_is h _ _ _⟩
/-- within, and by itself -/
def Both (P : Program) (w : World) (g : Heap) (p : Addr) (d : PyData) : Prop := Sw P w g d.depth (.ref p) d.shown ∧ ∃ T i, ShowsBy P w g p d T i
theorem both_list {p : Addr} {ob : Obj} {its : Array Value} {n : Nat} {ds : List PyData} (h1 : g.get? p = some ob) (h2 : ob.cls = .type "list") (h3 : ob.data = .seq its n) (m : TellsL g its.toList ds) (hm : SwL P w g (PyData.depthAll ds) its.toList (PyData.shownAll ds)) (hz : (PyData.list ds).shown.length ≤ sizeLine) : Both P w g p (.list ds) := by
  simp only [PyData.shown] at hz
  obtain ⟨bs, low, all⟩ := hm
  obtain ⟨_, rm⟩ := m.rd
  have me : Reads g (.ref p) (.list ds) _ := Reads.list h1 h2 h3 rm
  have far : p ∉ bs := not_mem_of_deeper me (by simp only [PyData.depth]; omega) low
  have len := all.length_eq
  rcases its with ⟨_ | ⟨y, ys⟩⟩
  · obtain rfl : ds = [] := by cases m; rfl
    refine ⟨⟨p :: bs, ReadAtMost.cons me (by simp only [PyData.depth]; omega) low, ?_⟩, "list", "list.__repr__", F.slot_list_repr.toG, F.slot_list_str, F.slot_list_format, fun s k => ⟨ob, k _ _ h1, h2⟩, fun A E s Q _ _ k q => ?_⟩
    · simp only [PyData.depth, PyData.shown, PyData.shownAll, listText_nil]
      exact ReprK.listEmpty h1 h2 h3
    · simp only [PyData.shown, PyData.shownAll, listText_nil] at q
      exact call_list_repr_empty ⟨ob, k _ _ h1, h2⟩ (k _ _ h1) h3 (q s.heap _ _ fun _ _ z => z)
  · have at_ : ∀ (i : Nat) (z : Value), (y :: ys).toArray[i]? = some z → _ := fun i z e => all.item i z (by simpa using e)
    refine ⟨⟨p :: bs, ReadAtMost.cons me (by simp only [PyData.depth]; omega) low, ?_⟩, "list", "list.__repr__", F.slot_list_repr.toG, F.slot_list_str, F.slot_list_format, fun s k => ⟨ob, k _ _ h1, h2⟩, fun A E s Q gd un k q => ?_⟩
    · simp only [PyData.depth, PyData.shown]
      exact ReprK.list h1 h2 h3 far (by simpa using len) at_
    · simp only [PyData.depth] at un
      simp only [PyData.shown] at q
      exact call_list_reprK h1 h2 h3 far (by simpa using len) at_ gd (fun b _ => Clear.nil b) un k q hz
theorem both_tuple {p : Addr} {ob : Obj} {its : Array Value} {n : Nat} {ds : List PyData} (h1 : g.get? p = some ob) (h2 : ob.cls = .type "tuple") (h3 : ob.data = .seq its n) (m : TellsL g its.toList ds) (hm : SwL P w g (PyData.depthAll ds) its.toList (PyData.shownAll ds)) (hz : (PyData.tuple ds).shown.length ≤ sizeLine) : Both P w g p (.tuple ds) := by
  simp only [PyData.shown] at hz
  obtain ⟨bs, low, all⟩ := hm
  obtain ⟨_, rm⟩ := m.rd
  have me : Reads g (.ref p) (.tuple ds) _ := Reads.tuple h1 h2 h3 rm
  have far : p ∉ bs := not_mem_of_deeper me (by simp only [PyData.depth]; omega) low
  refine ⟨⟨p :: bs, ReadAtMost.cons me (by simp only [PyData.depth]; omega) low, ?_⟩, "tuple", "tuple.__repr__", F.slot_tuple_repr, F.slot_tuple_str, F.slot_tuple_format, fun s k => ⟨ob, k _ _ h1, h2⟩, fun A E s Q gd un k q => ?_⟩
  · simp only [PyData.depth, PyData.shown]
    exact ReprK.tuple h1 h2 h3 far all
  · simp only [PyData.depth] at un
    simp only [PyData.shown] at q
    exact call_tuple_reprK h1 h2 h3 far all gd (fun b _ => Clear.nil b) un k q hz
theorem both_dict {p : Addr} {ob : Obj} {ents : Array DictEntry} {n : Nat} {prs : List (PyData × PyData)} (h0 : (p == sysModules) = false) (h1 : g.get? p = some ob) (h2 : ob.cls = .type "dict") (h3 : ob.data = .dict ents n) (m : TellsL g (ents.toList.map fun e => e.key) (prs.map fun q => q.1)) (m' : TellsL g (ents.toList.map fun e => e.val) (prs.map fun q => q.2))
    (hm : SwL P w g (PyData.depthAll (prs.map fun q => q.1)) (ents.toList.map fun e => e.key) (PyData.shownAll (prs.map fun q => q.1))) (hm' : SwL P w g (PyData.depthAll (prs.map fun q => q.2)) (ents.toList.map fun e => e.val) (PyData.shownAll (prs.map fun q => q.2))) (hz : (PyData.dict prs).shown.length ≤ sizeLine) : Both P w g p (.dict prs) := by
  simp only [PyData.shown] at hz
  obtain ⟨b1, low1, all1⟩ := hm
  obtain ⟨b2, low2, all2⟩ := hm'
  obtain ⟨_, r1⟩ := m.rd
  obtain ⟨_, r2⟩ := m'.rd
  have me : Reads g (.ref p) (.dict prs) _ := Reads.dict h1 h2 h3 r1 r2
  have low := (low1.mono (PyData.depthAll_keys_le prs)).append (low2.mono (PyData.depthAll_vals_le prs))
  have far : p ∉ b1 ++ b2 := not_mem_of_deeper me (by simp only [PyData.depth]; omega) low
  have both := ReprEntriesK.of_two ents.toList _ _ (all1.more_le (as' := b1 ++ b2) (fun b z => List.mem_append_left _ z) (PyData.depthAll_keys_le prs)) (all2.more_le (as' := b1 ++ b2) (fun b z => List.mem_append_right _ z) (PyData.depthAll_vals_le prs))
  refine ⟨⟨p :: (b1 ++ b2), ReadAtMost.cons me (by simp only [PyData.depth]; omega) low, ?_⟩, "dict", "dict.__repr__", F.slot_dict_repr, F.slot_dict_str, F.slot_dict_format, fun s k => ⟨ob, k _ _ h1, h2⟩, fun A E s Q gd un k q => ?_⟩
  · simp only [PyData.depth, PyData.shown, PyData.shownKv_eq]
    exact ReprK.dict h1 h2 h3 h0 far both
  · simp only [PyData.depth] at un
    simp only [PyData.shown, PyData.shownKv_eq] at q
    exact call_dict_reprK h1 h2 h3 h0 far both gd (fun b _ => Clear.nil b) un k q (by rw [← PyData.shownKv_eq]; exact hz)
theorem ReprAllK.up {bs bs' : List Addr} {n n' : Nat} {vs : List Value} {ts : List Str} (h : ReprAllK P w bs g n vs ts) (a : ∀ b ∈ bs, b ∈ bs') (l : n ≤ n') : ReprAllK P w bs' g n' vs ts := h.more_le a l
mutual
theorem tells_sw : ∀ {v : Value} {d : PyData}, Tells g v d → d.showable = true → d.shown.length ≤ sizeLine → Sw P w g d.depth v d.shown
  | _, _, .nn, _, _ => by rw [show PyData.none.shown = "None" from by simp only [PyData.shown]]; exact sw_flat ReprIs.none
  | _, _, .bb x, _, _ => by simp only [PyData.shown]; exact sw_flat (ReprIs.bool x)
  | _, _, .ii x u, hs, _ => by simp only [PyData.shown]; exact sw_flat (ReprIs.int u (by simpa [PyData.showable] using hs))
  | _, _, .ss x u, _, hz => by simp only [PyData.shown] at hz ⊢; exact sw_flat (ReprIs.str x u hz)
  | _, _, .ll (ds := ds) a b c m, hs, hz => (both_list a b c m (tells_swL m (by simpa [PyData.showable] using hs) fun t z => Nat.le_trans (listText_mem_le z) (by simpa only [PyData.shown] using hz)) hz).1
  | _, _, .tt (ds := ds) a b c m, hs, hz => (both_tuple a b c m (tells_swL m (by simpa [PyData.showable] using hs) fun t z => Nat.le_trans (tupleText_mem_le z) (by simpa only [PyData.shown] using hz)) hz).1
  | _, _, .dd (prs := prs) o a b c m m', hs, hz => by
    have sp := PyData.showableKv_split prs (by simpa [PyData.showable] using hs)
    have dz : ∀ q ∈ PyData.shownKv prs, _ := fun q z => Nat.le_trans (dictText_mem_le z) (show (dictText (PyData.shownKv prs)).length ≤ sizeLine by simpa only [PyData.shown] using hz)
    exact (both_dict o a b c m m' (tells_swL m sp.1 fun t z => (PyData.shownKv_key_le prs t z).elim fun q y => Nat.le_trans y.2 (dz q y.1)) (tells_swL m' sp.2 fun t z => (PyData.shownKv_val_le prs t z).elim fun q y => Nat.le_trans y.2 (dz q y.1)) hz).1
theorem tells_swL : ∀ {vs : List Value} {ds : List PyData}, TellsL g vs ds → PyData.showableAll ds = true → (∀ t ∈ PyData.shownAll ds, t.length ≤ sizeLine) → SwL P w g (PyData.depthAll ds) vs (PyData.shownAll ds)
  | _, _, .e, _, _ => ⟨[], (fun _ z => nomatch z), by simp only [PyData.shownAll]; exact ReprAllK.nil⟩
  | _, _, .c (d := d) (ds := ds) a b, hs, hz => by
    simp only [PyData.showableAll, Bool.and_eq_true] at hs
    simp only [PyData.shownAll] at hz
    obtain ⟨b1, low1, k1⟩ := tells_sw a hs.1 (hz _ (List.mem_cons_self ..))
    obtain ⟨b2, low2, k2⟩ := tells_swL b hs.2 fun t z => hz t (List.mem_cons_of_mem _ z)
    have e : PyData.depthAll (d :: ds) = max d.depth (PyData.depthAll ds) := by simp only [PyData.depthAll]
    have l1 : d.depth ≤ PyData.depthAll (d :: ds) := by rw [e]; exact Nat.le_max_left _ _
    have l2 : PyData.depthAll ds ≤ PyData.depthAll (d :: ds) := by rw [e]; exact Nat.le_max_right _ _
    refine ⟨b1 ++ b2, (low1.mono l1).append (low2.mono l2), ?_⟩
    have k3 : ReprK P w (b1 ++ b2) g (PyData.depthAll (d :: ds)) _ d.shown := (k1.more fun b z => List.mem_append_left _ z).level_le l1
    have k4 : ReprAllK P w (b1 ++ b2) g (PyData.depthAll (d :: ds)) _ (PyData.shownAll ds) := k2.more_le (fun b z => List.mem_append_right _ z) l2
    rw [show PyData.shownAll (d :: ds) = d.shown :: PyData.shownAll ds from by simp only [PyData.shownAll]]
    exact ReprAllK.cons k3 k4
end
theorem tells_by {p : Addr} {d : PyData} (r : Tells g (.ref p) d) (hs : d.showable = true) (hz : d.shown.length ≤ sizeLine) : ∃ T i, ShowsBy P w g p d T i := by
  cases r with
  | ll a b c m => exact (both_list a b c m (tells_swL m (by simpa [PyData.showable] using hs) fun t z => Nat.le_trans (listText_mem_le z) (by simpa only [PyData.shown] using hz)) hz).2
  | tt a b c m => exact (both_tuple a b c m (tells_swL m (by simpa [PyData.showable] using hs) fun t z => Nat.le_trans (tupleText_mem_le z) (by simpa only [PyData.shown] using hz)) hz).2
  | dd o a b c m m' =>
    rename_i ob ents n prs
    have sp := PyData.showableKv_split prs (by simpa [PyData.showable] using hs)
    have dz : ∀ q ∈ PyData.shownKv prs, _ := fun q z => Nat.le_trans (dictText_mem_le z) (show (dictText (PyData.shownKv prs)).length ≤ sizeLine by simpa only [PyData.shown] using hz)
    exact (both_dict o a b c m m' (tells_swL m sp.1 fun t z => (PyData.shownKv_key_le prs t z).elim fun q y => Nat.le_trans y.2 (dz q y.1)) (tells_swL m' sp.2 fun t z => (PyData.shownKv_val_le prs t z).elim fun q y => Nat.le_trans y.2 (dz q y.1)) hz).2
/-- repr -/
theorem run_tells {A : Around} {E : Value → Shared → Prop} {s : Shared} {Q : Value → Shared → Prop} {p : Addr} {d : PyData} (r : Tells s.heap (.ref p) d) (hs : d.showable = true) (hg : A.guards = some []) (hu : A.units + (d.depth + 1) < cLine) (hz : d.shown.length ≤ sizeLine)
    (k : ∀ h' u tk, (∀ b o, s.heap.get? b = some o → h'.get? b = some o) → Q (.str d.shown u) { s with heap := h', toks := tk }) : wpAny (model P w) A (call (.builtin "repr") [.ref p]) Q E s := by
  obtain ⟨T, i, S⟩ := tells_by (P := P) (w := w) r hs hz
  refine call_repr_slot (by omega) (S.typeIs s fun _ _ z => z) S.slotRepr (S.call A.in1 E s _ hg ?_ (fun _ _ z => z) fun h' u tk hk => ⟨_, _, rfl, k h' u tk hk⟩)
  show A.units + 1 + d.depth < cLine
  omega
end
/-! ### over the layer's heap -/
mutual
inductive DpN (K : PySem.W.Frag) (H : Hp) : V → PyData → Prop
  | non : DpN K H .non .none
  | bl (b : Bool) : DpN K H (.bl b) (.bool b)
  | int (i : Int) : DpN K H (.int i) (.int i)
  | str (x : Str) : DpN K H (.str x) (.str x)
  | lst {a : Addr} {xs : List V} {ds : List PyData} : SqL K H a xs → DpNL K H xs ds → DpN K H (.ref a) (.list ds)
  | tup {a : Addr} {xs : List V} {ds : List PyData} : SqT K H a xs → DpNL K H xs ds → DpN K H (.ref a) (.tuple ds)
  | dic {a : Addr} {kvs : List (Key × V)} {prs : List (PyData × PyData)} : Rd H a (.dK kvs) → prs.map (·.1) = kvs.map (fun p => kPy p.1) → DpNL K H (kvs.map (·.2)) (prs.map fun q => q.2) → DpN K H (.ref a) (.dict prs)
inductive DpNL (K : PySem.W.Frag) (H : Hp) : List V → List PyData → Prop
  | nil : DpNL K H [] []
  | cons {v : V} {vs : List V} {d : PyData} {ds : List PyData} : DpN K H v d → DpNL K H vs ds → DpNL K H (v :: vs) (d :: ds)
end
theorem tells_key {h : Heap} {k : Key} {u : Value} (r : keyIs k u = true) : Tells h u (kPy k) := by
  obtain ⟨_, q⟩ : ∃ l, Reads h u (kPy k) l := ⟨_, reads_key r⟩
  cases k with
  | inl i =>
    have q : Reads h u (.int i) _ := q
    cases q
    exact .ii _ _
  | inr x =>
    have q : Reads h u (.str x) _ := q
    cases q
    exact .ss _ _
theorem tells_keys {P : Program} {w : World} {h : Heap} : ∀ {es : List DictEntry} {vs : List (Key × Value)}, Pairs (mixKind P w) es vs → TellsL h (es.map fun e => e.key) (vs.map fun p => kPy p.1)
  | [], [], _ => .e
  | e :: es, v :: vs, p => by
    cases p with
    | cons a b t => exact .c (tells_key a) (tells_keys t)
theorem vals_ents {P : Program} {w : World} : ∀ {es : List DictEntry} {vs : List (Key × Value)} {kvs : List (Key × V)}, Pairs (mixKind P w) es vs → KV kvs vs → Vals (kvs.map (·.2)) (es.map fun e => e.val)
  | [], [], [], _, _ => .nil
  | e :: es, v :: vs, kv :: kvs, p, q => by
    cases p with
    | cons a b t =>
      cases q with
      | cons q1 q2 => exact .cons (by show RelV _ (DictEntry.val _); rw [b]; exact q1.2) (vals_ents t q2)
section
variable {X : Cx} {pins : List (Addr × Obj)} {σ : L2.St} {H : Hp} {s : Shared}
mutual
theorem DpN.tells (I : L2.Inv X pins σ H s) : ∀ {d : PyData} {v : V} {u : Value}, DpN X.K H v d → RelV v u → Tells s.heap u d
  | _, _, _, .non, r => by cases r; exact .nn
  | _, _, _, .bl b, r => by cases r; exact .bb b
  | _, _, _, .int i, r => by obtain ⟨t, rfl⟩ := r; exact .ii i t
  | _, _, _, .str x, r => by obtain ⟨t, rfl⟩ := r; exact .ss x t
  | _, _, _, .lst q l, r => by
    obtain ⟨its, rv, pl, _⟩ := I.list q
    obtain ⟨o, ho, hc, n, hd⟩ := pl.isList
    cases r
    exact .ll ho hc hd (by simpa using DpNL.tells I l rv)
  | _, _, _, .tup q l, r => by
    obtain ⟨its, rv, ⟨o, ho, hc, n, hd⟩, _⟩ := I.tuple q
    cases r
    exact .tt ho hc hd (by simpa using DpNL.tells I l rv)
  | _, _, _, .dic q e l, r => by
    obtain ⟨_, ns, vs, rv, o, es, ep, h1, h2, h3, _, h4, _⟩ := dk_rd I.hok q
    cases r
    refine .dd ns h1 h2.1 h3 ?_ ?_
    · rw [e]
      have ek : (_ : List PyData) = _ := congrArg (List.map kPy) rv.keys
      rw [List.map_map, List.map_map] at ek
      have tk := tells_keys (h := s.heap) h4
      rw [show (vs.map fun p => kPy p.1) = _ from ek.symm] at tk
      exact tk
    · exact DpNL.tells I l (vals_ents h4 rv)
theorem DpNL.tells (I : L2.Inv X pins σ H s) : ∀ {ds : List PyData} {vs : List V} {us : List Value}, DpNL X.K H vs ds → Vals vs us → TellsL s.heap us ds
  | _, _, _, .nil, r => by cases r; exact .e
  | _, _, _, .cons a b, r => by cases r with | cons r1 r2 => exact .c (DpN.tells I a r1) (DpNL.tells I b r2)
end
end
def rReprN (K : PySem.W.Frag) : List V → Hp → VK → Prop := fun xs H Q => ∃ v d, xs = [v] ∧ DpN K H v d ∧ d.showable = true ∧ d.depth ≤ 40 ∧ d.shown.length ≤ sizeLine ∧ Q (.str d.shown) H
theorem c_reprN {X : Cx} (hg : X.A.guards = some []) (hu : X.A.units + 64 < cLine) : CallR X (.builtin "repr") (rReprN X.K) := by
  intro pins s σ H xs us Q I r h
  obtain ⟨v, d, rfl, dp, hs, hd, hz, q⟩ := h
  have flat : ∀ {v : V} {d : PyData}, Dp X.K H v d → d.showable = true → d.depth ≤ 40 → d.shown.length ≤ sizeLine → Q (.str d.shown) H → Vals [v] us → wpAny (model X.prog X.w) X.A (call (.builtin "repr") us) (EP X pins σ Q) X.xe s :=
    fun {v} {d} a b c e f g => c_reprD hg hu pins s σ H [v] us Q I g ⟨v, d, rfl, a, b, c, e, f⟩
  have big : ∀ {p : Addr} {d : PyData}, DpN X.K H (.ref p) d → d.showable = true → d.depth ≤ 40 → d.shown.length ≤ sizeLine → Q (.str d.shown) H → Vals [.ref p] us → wpAny (model X.prog X.w) X.A (call (.builtin "repr") us) (EP X pins σ Q) X.xe s := fun {p} {d} a b c e f g => by
    obtain ⟨u, rfl, ru⟩ := vals1 g
    cases (show u = Value.ref p from ru)
    exact run_tells (DpN.tells I a rfl) b hg (by omega) e fun h' u tk hk => ⟨.str d.shown, H, I.kept (t' := tk) hk, ⟨_, rfl⟩, f⟩
  cases dp with
  | non => exact flat .non hs hd hz q r
  | bl b => exact flat (.bl b) hs hd hz q r
  | int i => exact flat (.int i) hs hd hz q r
  | str x => exact flat (.str x) hs hd hz q r
  | lst a l => exact big (.lst a l) hs hd hz q r
  | tup a l => exact big (.tup a l) hs hd hz q r
  | dic a e l => exact big (.dic a e l) hs hd hz q r
mutual
/-- no objects -/
def plainN : D → Bool
  | .non => true
  | .bl _ => true
  | .int _ => true
  | .str _ => true
  | .lst ds => plainNL ds
  | .tup ds => plainNL ds
  | .dic es => plainNK es
  | _ => false
def plainNL : List D → Bool
  | [] => true
  | d :: ds => plainN d && plainNL ds
def plainNK : List (Key × D) → Bool
  | [] => true
  | (_, d) :: ds => plainN d && plainNK ds
end
section
variable {K : PySem.W.Frag} {F H : Hp}
theorem toPyK_fst : ∀ es : List (Key × D), (toPyK es).map (·.1) = es.map fun e => kPy e.1
  | [] => by simp [toPyK]
  | (k, d) :: es => by simp [toPyK, toPyK_fst es]
mutual
theorem den_dpN (s : Same F H) : ∀ (d : D) {v : V}, Den K F v d → plainN d = true → DpN K H v (toPy d)
  | .non, _, h, _ => by cases h; unfold toPy; exact .non
  | .bl _, _, h, _ => by cases h; unfold toPy; exact .bl _
  | .int _, _, h, _ => by cases h; unfold toPy; exact .int _
  | .str _, _, h, _ => by cases h; unfold toPy; exact .str _
  | .lst ds, _, h, p => by
    cases h with
    | lst a l =>
      unfold plainN at p
      unfold toPy
      exact .lst (SqL.of (s _ _ a)) (den_dpNL s ds l p)
  | .tup ds, _, h, p => by
    cases h with
    | tup a l =>
      unfold plainN at p
      unfold toPy
      exact .tup (same_t s a) (den_dpNL s ds l p)
  | .dic es, _, h, p => by
    cases h with
    | dic a l =>
      unfold plainN at p
      unfold toPy
      refine .dic (.inr ⟨_, s _ _ a⟩) ?_ (den_dpNK s es l p)
      rw [toPyK_fst]
      have := congrArg (List.map kPy) l.keys
      rw [List.map_map, List.map_map] at this
      exact this.symm
  | .obj _ _, _, _, p => by unfold plainN at p; cases p
  | .ty _, _, _, p => by unfold plainN at p; cases p
  | .cls _, _, _, p => by unfold plainN at p; cases p
theorem den_dpNL (s : Same F H) : ∀ (ds : List D) {vs : List V}, DenL K F vs ds → plainNL ds = true → DpNL K H vs (toPyL ds)
  | [], _, h, _ => by cases h; unfold toPyL; exact .nil
  | d :: ds, _, h, p => by
    cases h with
    | cons a b =>
      unfold plainNL at p
      rw [Bool.and_eq_true] at p
      unfold toPyL
      exact .cons (den_dpN s d a p.1) (den_dpNL s ds b p.2)
theorem den_dpNK (s : Same F H) : ∀ (es : List (Key × D)) {kvs : List (Key × V)}, DenK K F kvs es → plainNK es = true → DpNL K H (kvs.map (·.2)) ((toPyK es).map fun q => q.2)
  | [], _, h, _ => by cases h; unfold toPyK; exact .nil
  | (k, d) :: es, _, h, p => by
    cases h with
    | cons a b =>
      unfold plainNK at p
      rw [Bool.and_eq_true] at p
      unfold toPyK
      exact .cons (den_dpN s d a p.1) (den_dpNK s es b p.2)
end
/-- data that repr is asked of, dicts among it -/
def okN (d : D) : Bool := plainN d && ((toPy d).showable && (decide ((toPy d).depth ≤ 40) && decide ((shownD d).length ≤ 16777216)))
theorem rc_reprN {d : D} (ok : okN d = true) : RcD K (rReprN K) [d] (.str (shownD d)) := fun F H xs s hx Q q => by
  unfold okN at ok
  simp only [Bool.and_eq_true, decide_eq_true_eq] at ok
  obtain ⟨h1, h2, h3, h4⟩ := ok
  cases hx with
  | cons h t =>
    cases t
    exact ⟨_, toPy d, rfl, den_dpN s d h h1, h2, h3, by rw [sizeLine_eq]; exact h4, q _ F H (Ext.refl s) (.str _)⟩
end
end Nm

set_option Elab.async false
set_option linter.all false
set_option maxRecDepth 100000
set_option maxHeartbeats 2000000
/-! len(x), repr(x), str(x), x == y by an own class's defs. -/
namespace Nm
open PySem PySem.Spec L2
/-- an object of the class at C whose def NAME is at g -/
structure OwnDef (K : PySem.W.Frag) (C : Addr) (m : Str) (g : Addr) : Prop where
  at_ : PySem.W.findIn K (.ref C) m = some (some (.ref g))
  fn : PySem.W.isFn K (.ref g) = true
def rOwn1 (C : Addr) (sp : Sp) (E : XK) (ok : V → Prop) : List V → Hp → VK → Prop := fun xs H Q => ∃ a dx fs, xs = [V.ref a] ∧ H a = some (.ins C dx fs) ∧ sp [.ref a] H (fun z H' => ok z ∧ Q z H') E
section
variable {X : Cx} {CX : CXT} {n : Nat} {C g : Addr} {fd : FuncData} {ps : List Str} {sp : Sp} {E : XK}
theorem raw0 (G : FnOk X.prog X.w X.K X.mg X.base CX n g fd ps sp) (hb : Binds X.K fd ps []) : FnR X.prog X.w X.K X.mg X.base CX n g sp := (G.raw hb .nil).imp fun vs H Q E h => by rw [List.append_nil]; exact h
theorem c_lenOwn (o : OwnDef X.K C "__len__" g) (G : FnOk X.prog X.w X.K X.mg X.base CX n g fd ps sp) (hb : Binds X.K fd ps []) (hr : Room (n + 1) X.A) (hx : Passes CX X E) : CallR X (.builtin "len") (rOwn1 C sp E fun z => ∃ i : Nat, z = .int (i : Nat) ∧ i < 1000000) := by
  intro pins s σ H xs us Q I r h
  obtain ⟨a, dx, fs, rfl, ha, q⟩ := h
  obtain ⟨u, rfl, ru⟩ := vals1 r
  cases (show u = Value.ref a from ru)
  obtain ⟨ox, od, J, _⟩ := StX.insC_at I (.inr ⟨dx, fs, ha⟩ : StX.InsC X H a C)
  obtain ⟨m, hF⟩ := I.fr
  refine PySem.W.len_K hF I.ok.mod.kin J o.at_ o.fn (wpAny_mono (wpAny_call (SlX.run_at (us := [.ref a]) (ws := [.ref a]) (raw0 G hb) (Room.in1 hr) I.env0.in1 hx I (.cons rfl .nil) q)) (fun w s' z => ?_) fun _ _ x => x)
  obtain ⟨z', H', I', rz, ⟨i, ei, hi⟩, qz⟩ := z
  subst ei
  obtain ⟨t, e⟩ := (show ∃ t, w = Value.int (i : Nat) t from rz)
  cases e
  exact ⟨⟨by omega, by omega⟩, .int (i : Nat), H', I'.kept (t' := s'.toks + 1) fun b o e => e, ⟨_, rfl⟩, qz⟩
theorem c_reprOwn (o : OwnDef X.K C "__repr__" g) (G : FnOk X.prog X.w X.K X.mg X.base CX n g fd ps sp) (hb : Binds X.K fd ps []) (hr : Room (n + 1) X.A) (hx : Passes CX X E) : CallR X (.builtin "repr") (rOwn1 C sp E fun z => ∃ y : Str, z = .str y) := by
  intro pins s σ H xs us Q I r h
  obtain ⟨a, dx, fs, rfl, ha, q⟩ := h
  obtain ⟨u, rfl, ru⟩ := vals1 r
  cases (show u = Value.ref a from ru)
  obtain ⟨ox, od, J, _⟩ := StX.insC_at I (.inr ⟨dx, fs, ha⟩ : StX.InsC X H a C)
  obtain ⟨m, hF⟩ := I.fr
  refine PySem.W.repr_K (Room.in1 hr).units0 hF I.ok.mod.kin J o.at_ o.fn (wpAny_mono (wpAny_call (SlX.run_at (us := [.ref a]) (ws := [.ref a]) (raw0 G hb) (Room.in1 hr) I.env0.in1 hx I (.cons rfl .nil) q)) (fun w s' z => ?_) fun _ _ x => x)
  obtain ⟨z', H', I', rz, ⟨y, ei⟩, qz⟩ := z
  subst ei
  obtain ⟨t, e⟩ := (show ∃ t, w = Value.str y t from rz)
  cases e
  exact ⟨.str y, H', I', ⟨_, rfl⟩, qz⟩
theorem c_strOwn (o : OwnDef X.K C "__str__" g) (G : FnOk X.prog X.w X.K X.mg X.base CX n g fd ps sp) (hb : Binds X.K fd ps []) (hr : Room (n + 2) X.A) (hx : Passes CX X E) : CallR X (.type "str") (rOwn1 C sp E fun z => ∃ y : Str, z = .str y) := by
  intro pins s σ H xs us Q I r h
  obtain ⟨a, dx, fs, rfl, ha, q⟩ := h
  obtain ⟨u, rfl, ru⟩ := vals1 r
  cases (show u = Value.ref a from ru)
  obtain ⟨ox, od, J, _⟩ := StX.insC_at I (.inr ⟨dx, fs, ha⟩ : StX.InsC X H a C)
  have hr2 : Room n X.A.in1.in1 := (show Room (n + 1) X.A.in1 from Room.in1 hr).in1
  refine PySem.W.kso_call hr2.units0 I.kIn J o.at_ o.fn (wpAny_mono (wpAny_call (SlX.run_at (us := [.ref a]) (ws := [.ref a]) (raw0 G hb) hr2 I.env0.in1.in1 hx I (.cons rfl .nil) q)) (fun w s' z => ?_) fun _ _ x => x)
  obtain ⟨z', H', I', rz, ⟨y, ei⟩, qz⟩ := z
  subst ei
  obtain ⟨t, e⟩ := (show ∃ t, w = Value.str y t from rz)
  cases e
  exact ⟨.str y, H', I', ⟨_, rfl⟩, qz⟩
end
/-! ### x == y, x != y -/
/-- the type of what stands to the right -/
inductive TyV (K : PySem.W.Frag) (H : Hp) : V → Value → Prop
  | non : TyV K H .non (.type "NoneType")
  | bl (b : Bool) : TyV K H (.bl b) (.type "bool")
  | int (i : Int) : TyV K H (.int i) (.type "int")
  | str (x : Str) : TyV K H (.str x) (.type "str")
  | tup {a : Addr} {xs : List V} : SqT K H a xs → TyV K H (.ref a) (.type "tuple")
  | ins {a C dx : Addr} {fs : List (Str × V)} : H a = some (.ins C dx fs) → TyV K H (.ref a) (.ref C)
def rEqOwn (K : PySem.W.Frag) (C : Addr) (sp : Sp) (E : XK) : R2 := fun x y H Q => ∃ a dx fs tb, x = .ref a ∧ H a = some (.ins C dx fs) ∧ TyV K H y tb ∧ PySem.W.notFirst K C tb = true ∧ sp [x, y] H (fun z H' => ∃ b, z = .bl b ∧ Q z H') E
def rNeOwn (C : Addr) (sp : Sp) (E : XK) : R2 := fun x y H Q => ∃ a dx fs b dy gs, x = .ref a ∧ y = .ref b ∧ H a = some (.ins C dx fs) ∧ H b = some (.ins C dy gs) ∧ sp [x, y] H (fun z H' => ∃ b, z = .bl b ∧ Q (.bl (!b)) H') E
/-- a class right under object whose own __eq__ is at g, and which has no __ne__ -/
structure OwnEq (K : PySem.W.Frag) (C g N : Addr) : Prop where
  eq : OwnDef K C "__eq__" g
  cl : ∃ nm q bs hdct sn sub ab col dd k0 k1 k2 k3 k5 newId, K.lookup C = some (excClassObj nm q C N bs [.type "object"] hdct sn sub ab col dd k0 k1 k2 k3 k5 newId)
  ns : PySem.W.nsOkIn K N = true
  e1 : PySem.W.nsIn K N "__eq__" = some (some (.ref g))
  e2 : PySem.W.nsIn K N "__ne__" = some none
theorem ns_at {K : PySem.W.Frag} {h : Heap} {N : Addr} {mg : Str → Option Value} {n : Str} {v : Value} (X : K.In h) (G : h.Ns N mg) (e : PySem.W.nsIn K N n = some (some v)) : mg n = some v := by
  obtain ⟨o, es, ep, ho, hd, _, hf⟩ := G
  unfold PySem.W.nsIn at e
  split at e
  · rename_i q
    have w := X _ _ q
    rw [ho] at w
    cases w
    cases hd
    split at e
    · rename_i he
      cases e
      rw [← hf]
      unfold nsFind findBy
      rw [← Array.find?_toList, he]
      rfl
    · split at e <;> cases e
  · cases e
section
variable {X : Cx} {CX : CXT} {n : Nat} {C g N : Addr} {fd : FuncData} {ps : List Str} {sp : Sp} {E : XK}
theorem TyV.looks {pins : List (Addr × Obj)} {σ : L2.St} {H : Hp} {s : Shared} {y : V} {tb v : Value} {M : Model} (I : L2.Inv X pins σ H s) (h : TyV X.K H y tb) (r : RelV y v) : PySem.W.Looks M s.heap (typeOf v) tb := by
  cases h with
  | non => cases r; exact PySem.W.Looks.of_pure rfl
  | bl b => cases r; exact PySem.W.Looks.of_pure rfl
  | int i => obtain ⟨t, rfl⟩ := r; exact PySem.W.Looks.of_pure rfl
  | str x => obtain ⟨t, rfl⟩ := r; exact PySem.W.Looks.of_pure rfl
  | tup q =>
    obtain ⟨its, _, ⟨o, ho, hc, _⟩, _⟩ := I.tuple q
    cases r
    intro A Q E' s' k q'
    exact wpAny_typeOf_ref (k _ _ ho) (by rw [hc]; exact q')
  | ins q =>
    obtain ⟨ox, od, J, _⟩ := StX.insC_at I (.inr ⟨_, _, q⟩ : StX.InsC X H _ _)
    cases r
    exact J.type
theorem op_eqOwn (o : OwnDef X.K C "__eq__" g) (G : FnOk X.prog X.w X.K X.mg X.base CX n g fd ps sp) (hb : Binds X.K fd ps []) (hr : Room n X.A) (hx : Passes CX X E) : OpR X (compareOp .Eq) (rEqOwn X.K C sp E) := by
  intro pins s σ H x y v u Q I rx ry h
  obtain ⟨a, dx, fs, tb, rfl, ha, ty, hn, q⟩ := h
  cases (show v = Value.ref a from rx)
  obtain ⟨ox, od, J, _⟩ := StX.insC_at I (.inr ⟨dx, fs, ha⟩ : StX.InsC X H a C)
  obtain ⟨m, hF⟩ := I.fr
  show wpAny _ _ (richCompare .Eq (.ref a) u) _ _ _
  refine PySem.W.cmp_K (op := .Eq) (tb := tb) hr.units0 hF I.ok.mod.kin J (ty.looks I ry) hn o.at_ o.fn ?_
  refine wpAny_mono (wpAny_call (run_fnR (us := [.ref a, u]) (vs := [.ref a, y]) (raw0 G hb) hr hx I (.cons rfl (.cons ry .nil)) q)) (fun w s' z => ?_) fun _ _ x => x
  obtain ⟨z', H', I', rz, b, eb, qz⟩ := z
  subst eb
  exact SlX.cmpback rz ⟨.bl b, H', I', rz, qz⟩
theorem op_neOwn (o : OwnEq X.K C g N) (G : FnOk X.prog X.w X.K X.mg X.base CX n g fd ps sp) (hb : Binds X.K fd ps []) (hr : Room (n + 1) X.A) (hx : Passes CX X E) (hu : X.A.units + 1 < cLine) : OpR X (compareOp .NotEq) (rNeOwn C sp E) := by
  intro pins s σ H x y v u Q I rx ry h
  obtain ⟨a, dx, fs, b, dy, gs, rfl, rfl, ha, hbb, q⟩ := h
  cases (show v = Value.ref a from rx)
  cases (show u = Value.ref b from ry)
  obtain ⟨ox, od, J, _⟩ := StX.insC_at I (.inr ⟨dx, fs, ha⟩ : StX.InsC X H a C)
  obtain ⟨oy, od', J', _⟩ := StX.insC_at I (.inr ⟨dy, gs, hbb⟩ : StX.InsC X H b C)
  obtain ⟨nm, qn, bs, hdct, sn, sub, ab, col, dd, k0, k1, k2, k3, k5, newId, hl⟩ := o.cl
  have G2 : s.heap.Ns N (s.heap.nsMap N) := .of_isNs (PySem.W.isNs_of_in I.kIn o.ns)
  have hfn : ((X.K.lookup g).map (fun x => x.cls) == some (Value.type "function")) = true := o.eq.fn
  obtain ⟨og, hog, hcg⟩ : ∃ og, X.K.lookup g = some og ∧ og.cls = .type "function" := by
    cases e : X.K.lookup g with
    | none => rw [e] at hfn; cases hfn
    | some og => rw [e] at hfn; exact ⟨og, rfl, by simpa using hfn⟩
  have OE : s.heap.OwnEqNoNe a C g "object" [.type "object"] :=
    ⟨ox, og, nm, qn, N, bs, hdct, sn, sub, ab, col, dd, k0, k1, k2, k3, k5, newId, _, _, J.at_, J.cls, I.kIn _ _ hl, G2, ns_at I.kIn G2 o.e1, I.kIn _ _ hog, hcg, F.cmp_object.mro, F.cmp_object.eq.lookup, PySem.W.ns_none_of I.kIn G2 o.e2⟩
  obtain ⟨hp, gg, dd', tk, os⟩ := s
  refine compareOp_ne_ownEq F.cmp_object OE J'.at_ J'.cls hu ?_
  refine wpAny_mono (wpAny_call (SlX.run_at (us := [.ref a, .ref b]) (ws := [.ref a, .ref b]) (raw0 G hb) (Room.in1 hr) I.env0.in1 hx I (.cons rfl (.cons rfl .nil)) q)) (fun w s' z => ?_) fun _ _ x => x
  obtain ⟨z', H', I', rz, b', eb, qz⟩ := z
  subst eb
  cases (show w = Value.bool b' from rz)
  exact ⟨b', rfl, .bl (!b'), H', I', rfl, qz⟩
end
end Nm

set_option Elab.async false
set_option linter.all false
set_option maxRecDepth 100000
set_option maxHeartbeats 1000000
/-! Keys of words put together. -/
namespace Nm
open PySem PySem.Spec L2
section
variable {sg : Nat → Bool} {fo : Fo} {ma : Ma}
theorem ex1C {x y : List Nat} (u v : List Nat) (h : Ex1 fo ma x y) : Ex1 fo ma (u ++ x ++ v) (u ++ y ++ v) := by
  cases h with
  | fold a b e =>
    have := Ex1.fold (ma := ma) (u ++ a) (b ++ v) e
    simpa [List.append_assoc] using this
  | back a b e =>
    have := Ex1.back (ma := ma) (u ++ a) (b ++ v) e
    simpa [List.append_assoc] using this
  | swap a b e =>
    have := Ex1.swap (fo := fo) (u ++ a) (b ++ v) e
    simpa [List.append_assoc] using this
theorem isWC {R R' : List Nat → List Nat → Prop} {f : List Nat → List Nat} (h : ∀ x y, R x y → R' (f x) (f y)) : ∀ {ws : List (List Nat)}, isW R ws → isW R' (ws.map f)
  | [], _ => trivial
  | [_], _ => trivial
  | _ :: _ :: _, w => ⟨h _ _ w.1, isWC h w.2⟩
theorem key_sgn (ok : okTab sg fo ma) {a : List Nat} (sa : ∀ c ∈ a, sg c = true) (la : 1 ≤ a.length) : ∀ c ∈ key fo ma a, sg c = true := by
  obtain ⟨r, hr⟩ := wayK_head fo ma a
  have hw := wayK_isW fo ma a
  have hl := wayK_last ok a
  rw [hr] at hw hl
  exact (isW_all ok hw sa la _ (List.mem_of_getLast? hl)).1
/-- in the place of a word may stand its key -/
theorem key_ctx (ok : okTab sg fo ma) {u a v : List Nat} (s : ∀ c ∈ u ++ a ++ v, sg c = true) (la : 1 ≤ a.length) : key fo ma (u ++ key fo ma a ++ v) = key fo ma (u ++ a ++ v) := by
  obtain ⟨r, hr⟩ := wayK_head fo ma a
  have hw := isWC (f := fun x => u ++ x ++ v) (fun x y h => ex1C u v h) (wayK_isW fo ma a)
  have hl : ((wayK fo ma a).map fun x => u ++ x ++ v).getLast? = some (u ++ key fo ma a ++ v) := by rw [List.getLast?_map, wayK_last ok a]; rfl
  rw [hr] at hw hl
  have := isW_all ok (a := u ++ a ++ v) (ws := r.map fun x => u ++ x ++ v) hw s (by rw [List.length_append, List.length_append]; omega) _ (List.mem_of_getLast? hl)
  exact this.2.2
theorem one_ctx (ok : okTab sg fo ma) {u a b v : List Nat} (sa : ∀ c ∈ u ++ a ++ v, sg c = true) (sb : ∀ c ∈ u ++ b ++ v, sg c = true) (la : 1 ≤ a.length) (lb : 1 ≤ b.length) (e : key fo ma a = key fo ma b) : key fo ma (u ++ a ++ v) = key fo ma (u ++ b ++ v) := by
  rw [← key_ctx ok sa la, e, key_ctx ok sb lb]
theorem key_cat (ok : okTab sg fo ma) {a b c : List Nat} (sa : ∀ x ∈ a, sg x = true) (sb : ∀ x ∈ b, sg x = true) (sc : ∀ x ∈ c, sg x = true) (la : 1 ≤ a.length) (lb : 1 ≤ b.length) (lc : 1 ≤ c.length) : key fo ma (key fo ma a ++ key fo ma b ++ key fo ma c) = key fo ma (a ++ b ++ c) := by
  have ka := key_sgn ok sa la
  have kb := key_sgn ok sb lb
  have all3 : ∀ {x y z : List Nat}, (∀ c ∈ x, sg c = true) → (∀ c ∈ y, sg c = true) → (∀ c ∈ z, sg c = true) → ∀ c ∈ x ++ y ++ z, sg c = true := fun h1 h2 h3 c hc => by
    rcases List.mem_append.mp hc with hc | hc
    · rcases List.mem_append.mp hc with hc | hc
      · exact h1 c hc
      · exact h2 c hc
    · exact h3 c hc
  have e1 := key_ctx ok (u := []) (a := a) (v := b ++ c) (by have := all3 sa sb sc; simpa [List.append_assoc] using this) la
  have e2 := key_ctx ok (u := key fo ma a) (a := b) (v := c) (all3 ka sb sc) lb
  have e3 := key_ctx ok (u := key fo ma a ++ key fo ma b) (a := c) (v := []) (by have := all3 ka kb sc; simpa using this) lc
  simp only [List.nil_append, List.append_nil, List.append_assoc] at e1 e2 e3 ⊢
  rw [e3, e2, e1]
theorem inOrd_nil : inOrd ma [] = [] := rfl
/-! ### a sign that is no mark and no fold -/
theorem runs_last {z : Nat} (hz : lk ma z = none) : ∀ (l r : List Nat), runs ma r (l ++ [z]) = runs ma r l ++ [z]
  | [], r => by simp [runs, hz, inOrd]
  | c :: l, r => by
    have h1 := runs_last hz l (r ++ [c])
    have h2 := runs_last hz l []
    simp only [List.cons_append, runs]
    split
    · exact h1
    · rw [h2]; simp
theorem runs_first {z : Nat} (hz : lk ma z = none) (l : List Nat) : runs ma [] (z :: l) = z :: runs ma [] l := by
  simp [runs, hz, inOrd]
theorem folded_z {z : Nat} (hz : lk fo z = none) : folded fo [z] = [z] := by
  unfold folded
  simp [foldS_none hz]
theorem key_guard {z : Nat} (h1 : lk fo z = none) (h2 : lk ma z = none) (w : List Nat) : key fo ma ([z] ++ w ++ [z]) = [z] ++ key fo ma w ++ [z] := by
  have e : folded fo ([z] ++ w ++ [z]) = z :: (folded fo w ++ [z]) := by
    unfold folded
    simp [foldS_none h1]
  unfold key
  rw [e, runs_first h2, runs_last h2]
  rfl
end
/-! ### signs led to other signs -/
theorem lk_ren {α β : Type} {f : Nat → Nat} {g : α → β} {c : Nat} : ∀ {m : List (Nat × α)}, (∀ p ∈ m, f p.1 = f c → p.1 = c) → lk (m.map fun p => (f p.1, g p.2)) (f c) = (lk m c).map g
  | [], _ => rfl
  | p :: m, h => by
    have ih := lk_ren (f := f) (g := g) (c := c) (m := m) fun q hq => h q (List.mem_cons_of_mem _ hq)
    unfold lk at ih ⊢
    rw [List.map_cons, List.find?_cons, List.find?_cons]
    by_cases e : p.1 = c
    · rw [decide_eq_true e]
      have : decide ((f p.1, g p.2).1 = f c) = true := decide_eq_true (by rw [e])
      rw [this]
      rfl
    · rw [decide_eq_false e]
      have : decide ((f p.1, g p.2).1 = f c) = false := decide_eq_false fun z => e (h p (List.mem_cons_self ..) z)
      rw [this]
      exact ih
def renF (f : Nat → Nat) (fo : Fo) : Fo := fo.map fun p => (f p.1, p.2.map f)
def renM (f : Nat → Nat) (ma : Ma) : Ma := ma.map fun p => (f p.1, p.2)
section
variable {f : Nat → Nat} {fo : Fo} {ma : Ma}
theorem lk_renM {c : Nat} (h : ∀ p ∈ ma, f p.1 = f c → p.1 = c) : lk (renM f ma) (f c) = lk ma c := by
  have := lk_ren (g := fun n : Nat => n) h
  unfold renM
  rw [this]
  cases lk ma c <;> rfl
theorem filt_ren {n : Nat} : ∀ {l : List Nat}, (∀ c ∈ l, ∀ p ∈ ma, f p.1 = f c → p.1 = c) → (l.map f).filter (ofCls (renM f ma) n) = (l.filter (ofCls ma n)).map f
  | [], _ => rfl
  | c :: l, h => by
    have ih := filt_ren (n := n) (l := l) fun c hc => h c (List.mem_cons_of_mem _ hc)
    have e : ofCls (renM f ma) n (f c) = ofCls ma n c := by unfold ofCls; rw [lk_renM (h c (List.mem_cons_self ..))]
    rw [List.map_cons, List.filter_cons, List.filter_cons, e, ih]
    split <;> rfl
theorem inOrd_ren {l : List Nat} (h : ∀ c ∈ l, ∀ p ∈ ma, f p.1 = f c → p.1 = c) : inOrd (renM f ma) (l.map f) = (inOrd ma l).map f := by
  unfold inOrd
  rw [filt_ren h, filt_ren h, filt_ren h, List.map_append, List.map_append]
theorem runs_ren : ∀ (l r : List Nat), (∀ c ∈ r ++ l, ∀ p ∈ ma, f p.1 = f c → p.1 = c) → runs (renM f ma) (r.map f) (l.map f) = (runs ma r l).map f
  | [], r, h => by
    simp only [List.map_nil, runs]
    exact inOrd_ren (by simpa using h)
  | c :: l, r, h => by
    have hc := h c (by simp)
    have h1 := runs_ren l (r ++ [c]) (by simpa [List.append_assoc] using h)
    have h2 := runs_ren l [] (fun x hx => h x (by simp at hx ⊢; exact .inr (.inr hx)))
    have h3 := inOrd_ren (f := f) (ma := ma) (l := r) fun x hx => h x (by simp [hx])
    simp only [List.map_cons, runs, lk_renM hc]
    split
    · rw [List.map_append] at h1
      exact h1
    · rw [h3]
      simp only [List.map_append, List.map_cons]
      rw [← h2]
      rfl
theorem folded_ren : ∀ {l : List Nat}, (∀ c ∈ l, ∀ p ∈ fo, f p.1 = f c → p.1 = c) → folded (renF f fo) (l.map f) = (folded fo l).map f
  | [], _ => rfl
  | c :: l, h => by
    have ih := folded_ren (l := l) fun c hc => h c (List.mem_cons_of_mem _ hc)
    have e : foldS (renF f fo) (f c) = (foldS fo c).map f := by
      unfold foldS renF
      rw [lk_ren (g := fun w : List Nat => w.map f) (h c (List.mem_cons_self ..))]
      cases lk fo c <;> rfl
    rw [List.map_cons, folded_cons, folded_cons, e, ih, List.map_append]
theorem key_ren {l : List Nat} (h1 : ∀ c ∈ l, ∀ p ∈ fo, f p.1 = f c → p.1 = c) (h2 : ∀ c ∈ folded fo l, ∀ p ∈ ma, f p.1 = f c → p.1 = c) : key (renF f fo) (renM f ma) (l.map f) = (key fo ma l).map f := by
  unfold key
  rw [folded_ren h1]
  exact runs_ren _ [] (by simpa using h2)
end
end Nm

set_option Elab.async false
set_option linter.all false
set_option maxRecDepth 100000
set_option maxHeartbeats 2000000
/-! dicts compared, tuples of dicts compared, f-strings, stars of dicts. -/
namespace Nm
open PySem PySem.Spec L2
/-! ### dict == dict -/
def sV : V → V → Bool
  | .str x, .str y => x == y
  | .int i, .int j => i == j
  | _, _ => false
def SmK (x y : V) : Prop := (∃ a b, x = .str a ∧ y = .str b) ∨ ∃ i j, x = .int i ∧ y = .int j
def eqK (ks ls : List (Key × V)) : Bool := ks.all fun p => match valV ls p.1 with
  | none => false
  | some u => sV p.2 u
theorem smk_eq {A : Around} {s : Shared} {x y : V} {v u : Value} (h : SmK x y) (rx : RelV x v) (ry : RelV y u) : SeqAt.EqAt A s v u (sV x y) := by
  rcases h with ⟨a, b, rfl, rfl⟩ | ⟨a, b, rfl, rfl⟩
  · obtain ⟨t, rfl⟩ := rx
    obtain ⟨t', rfl⟩ := ry
    exact SeqAt.EqAt.str_str a t b t'
  · obtain ⟨t, rfl⟩ := rx
    obtain ⟨t', rfl⟩ := ry
    exact SeqAt.EqAt.int_int a t b t'
theorem hits_any {A : Around} {s : Shared} {ls : List (Key × V)} {vb : List (Key × Value)} (rb : KV ls vb) {ks : List (Key × V)} {va : List (Key × Value)} (ra : KV ks va) :
    (∀ p ∈ ks, ∀ u, valV ls p.1 = some u → SmK p.2 u) → PySem.W.KeqHits A s vb va (eqK ks ls) := by
  unfold KV at ra
  induction ra with
  | nil => intro _; exact .nil
  | @cons p q ps qs h t ih =>
    intro hp
    obtain ⟨h1, h2⟩ := h
    obtain ⟨key, v⟩ := q
    have h1' : p.1 = key := h1
    have rr := rb.val p.1
    have hrest := ih fun p' hm => hp p' (List.mem_cons_of_mem _ hm)
    show PySem.W.KeqHits A s vb ((key, v) :: qs) ((match valV ls p.1 with | none => false | some u => sV p.2 u) && eqK ps ls)
    cases e : valV ls p.1 with
    | none =>
      rw [e] at rr
      have hn : valueAt vb p.1 = none := by
        cases e2 : valueAt vb p.1 with
        | none => rfl
        | some z => rw [e2] at rr; cases rr
      rw [h1'] at hn
      exact .miss hn
    | some u =>
      rw [e] at rr
      obtain ⟨y, hy, ry⟩ := rr.some_of
      rw [h1'] at hy
      exact .hit hy (smk_eq (hp p List.mem_cons_self u e) h2 ry) hrest
theorem hits_in {P : Program} {w : World} {A : Around} {s : Shared} {vb : List (Key × Value)} : ∀ {va : List (Key × Value)} {b : Bool}, PySem.W.KeqHits A s vb va b → PySem.W.KeqHitsIn P w A s vb va b
  | _, _, .nil => .nil
  | _, _, .miss h => .miss h
  | _, _, .hit h e t => .hit h (SeqAt.EqAt.inModel e P w) (hits_in t)
structure DD (H : Hp) (a b : Addr) (ks ls : List (Key × V)) : Prop where
  l : Rd H a (.dK ks)
  r : Rd H b (.dK ls)
  s : ∀ p ∈ ks, ∀ u, valV ls p.1 = some u → SmK p.2 u
def rEqDic : R2 := fun x y H Q => ∃ a b ks ls, x = .ref a ∧ y = .ref b ∧ DD H a b ks ls ∧ Q (.bl (ks.length == ls.length && eqK ks ls)) H
def rNeDic : R2 := fun x y H Q => ∃ a b ks ls, x = .ref a ∧ y = .ref b ∧ DD H a b ks ls ∧ Q (.bl (!(ks.length == ls.length && eqK ks ls))) H
def rEqTwo (K : PySem.W.Frag) : R2 := fun x y H Q => ∃ t t' a a' b b' ka kb ka' kb', x = .ref t ∧ y = .ref t' ∧ SqT K H t [.ref a, .ref b] ∧ SqT K H t' [.ref a', .ref b'] ∧ DD H a a' ka ka' ∧ DD H b b' kb kb' ∧
  (a = a' → (ka.length == ka'.length && eqK ka ka') = true) ∧ (b = b' → (kb.length == kb'.length && eqK kb kb') = true) ∧ Q (.bl ((ka.length == ka'.length && eqK ka ka') && (kb.length == kb'.length && eqK kb kb'))) H
section
variable {X : Cx}
theorem op_eqDic (hu : X.A.units < cLine) : OpR X (compareOp .Eq) rEqDic := by
  intro pins s σ H x y v u Q I rx ry h
  obtain ⟨a, b, ks, ls, rfl, rfl, d, q⟩ := h
  obtain rfl : v = Value.ref a := rx
  obtain rfl : u = Value.ref b := ry
  obtain ⟨_, ya, va, ra, da⟩ := dk_rd I.hok d.l
  obtain ⟨_, yb, vb, rb, db⟩ := dk_rd I.hok d.r
  exact PySem.W.keq_eq (knd := mixKind X.prog X.w) (r := eqK ks ls) ya yb da db hu (fun _ => hits_any rb ra d.s) (fin_bl I q (by rw [ra.length, rb.length]))
theorem op_neDic (hu : X.A.units < cLine) : OpR X (compareOp .NotEq) rNeDic := by
  intro pins s σ H x y v u Q I rx ry h
  obtain ⟨a, b, ks, ls, rfl, rfl, d, q⟩ := h
  obtain rfl : v = Value.ref a := rx
  obtain rfl : u = Value.ref b := ry
  obtain ⟨_, ya, va, ra, da⟩ := dk_rd I.hok d.l
  obtain ⟨_, yb, vb, rb, db⟩ := dk_rd I.hok d.r
  exact PySem.W.keq_ne (knd := mixKind X.prog X.w) (r := eqK ks ls) ya yb da db hu (fun _ => hits_any rb ra d.s) (fin_bl I q (by rw [ra.length, rb.length]))
theorem dd_in {pins : List (Addr × Obj)} {σ : L2.St} {H : Hp} {s : Shared} {A : Around} {a b : Addr} {ks ls : List (Key × V)} (I : L2.Inv X pins σ H s) (d : DD H a b ks ls) (hs : a = b → (ks.length == ls.length && eqK ks ls) = true) (hu : A.units < cLine) :
    SeqAt.EqIn X.prog X.w A s (.ref a) (.ref b) (ks.length == ls.length && eqK ks ls) := by
  by_cases z : a = b
  · rw [hs z, z]
    exact (PySem.W.EqTree.same (n := 0)).at A (by simpa using hu)
  · refine SeqAt.EqIn.of_refs z fun E Q q => ?_
    obtain ⟨_, ya, va, ra, da⟩ := dk_rd I.hok d.l
    obtain ⟨_, yb, vb, rb, db⟩ := dk_rd I.hok d.r
    refine PySem.W.keq_eqIn (knd := mixKind X.prog X.w) (r := eqK ks ls) ya yb da db hu (fun _ => hits_in (hits_any rb ra d.s)) ?_
    rw [← ra.length, ← rb.length]
    exact q
theorem op_eqTwo (hu : X.A.units + 2 < cLine) : OpR X (compareOp .Eq) (rEqTwo X.K) := by
  intro pins s σ H x y v u Q I rx ry h
  obtain ⟨t, t', a, a', b, b', ka, kb, ka', kb', rfl, rfl, ht, ht', d1, d2, i1, i2, q⟩ := h
  obtain rfl : v = Value.ref t := rx
  obtain rfl : u = Value.ref t' := ry
  obtain ⟨its, r1, p1, _⟩ := I.tuple ht
  obtain ⟨its', r2, p2, _⟩ := I.tuple ht'
  obtain ⟨u1, u2, rfl, e1, e2⟩ := r1.two
  obtain ⟨w1, w2, rfl, f1, f2⟩ := r2.two
  cases (show u1 = Value.ref a from e1)
  cases (show u2 = Value.ref b from e2)
  cases (show w1 = Value.ref a' from f1)
  cases (show w2 = Value.ref b' from f2)
  show wpAny _ _ (richCompare .Eq _ _) _ _ _
  refine SeqAt.rcIn_tuples (e := fun j => if j = 0 then (ka.length == ka'.length && eqK ka ka') else (kb.length == kb'.length && eqK kb kb')) p1 p2 (by omega) (fun j h1 h2 => ?_) ?_
  · have hj : j = 0 ∨ j = 1 := by simp at h1; omega
    rcases hj with rfl | rfl
    · exact dd_in I d1 i1 (by show X.A.units + 1 < cLine; omega)
    · exact dd_in I d2 i2 (by show X.A.units + 1 < cLine; omega)
  · exact fin_bl I q (by simp [List.range, List.range.loop])
end
end Nm

set_option Elab.async false
set_option linter.all false
set_option maxRecDepth 100000
set_option maxHeartbeats 2000000
namespace Nm
open PySem PySem.Spec L2
def eqM {α : Type} [DecidableEq α] (m m' : List (Nat × α)) : Bool := m.length == m'.length && m.all fun p => decide (lk m' p.1 = some p.2)
def enM {α : Type} (g : α → D) (m : List (Nat × α)) : List (Key × D) := m.map fun p => ((.inr ⟨#[p.1]⟩ : Key), g p.2)
/-- a kind of values that are compared: texts or whole numbers -/
inductive Kd {α : Type} (g : α → D) : Prop
  | s (f : α → Str) (i : ∀ a b, f a = f b → a = b) (e : ∀ a, g a = .str (f a)) : Kd g
  | n (f : α → Int) (i : ∀ a b, f a = f b → a = b) (e : ∀ a, g a = .int (f a)) : Kd g
theorem kd_txt : Kd txt := .s (fun l => ⟨l.toArray⟩) (fun a b h => by have h := congrArg Str.cps h; have h : a.toArray = b.toArray := h; simpa using congrArg Array.toList h) fun _ => rfl
theorem kd_int : Kd (fun n : Nat => D.int (n : Nat)) := .n (fun n => (n : Nat)) (fun a b h => Int.ofNat.inj h) fun _ => rfl
section
variable {K : PySem.W.Frag} {F H : Hp} {α : Type} [DecidableEq α] {g : α → D} {m m' : List (Nat × α)}
theorem kd_sV (hg : Kd g) {a b : α} {v u : V} (hv : Den K F v (g a)) (hu : Den K F u (g b)) : SmK v u ∧ sV v u = decide (a = b) := by
  cases hg with
  | s f i e =>
    rw [e] at hv hu
    cases hv; cases hu
    refine ⟨.inl ⟨_, _, rfl, rfl⟩, ?_⟩
    by_cases z : a = b
    · subst z; simp [sV]
    · have : f a ≠ f b := fun h => z (i a b h)
      simp [sV, z, this]
  | n f i e =>
    rw [e] at hv hu
    cases hv; cases hu
    refine ⟨.inr ⟨_, _, rfl, rfl⟩, ?_⟩
    by_cases z : a = b
    · subst z; simp [sV]
    · have : f a ≠ f b := fun h => z (i a b h)
      simp [sV, z, this]
theorem eqK_map (hg : Kd g) {ls : List (Key × V)} (d2 : DenK K F ls (enM g m')) : ∀ {m : List (Nat × α)} {ks : List (Key × V)}, DenK K F ks (enM g m) → eqK ks ls = (m.all fun p => decide (lk m' p.1 = some p.2)) ∧ ∀ p ∈ ks, ∀ u, valV ls p.1 = some u → SmK p.2 u
  | [], _, h => by cases h; exact ⟨rfl, fun p hp => by cases hp⟩
  | (c, a) :: m, _, h => by
    cases h with
    | @cons k v vs d ds hv ht =>
      obtain ⟨e1, e2⟩ := eqK_map hg d2 ht
      have key := DenK.val (K := K) (F := F) (.inr ⟨#[c]⟩ : Key) d2
      rw [show valD (enM g m') (.inr ⟨#[c]⟩) = (lk m' c).map g from valD_map g c m'] at key
      have step : (∀ u, valV ls (.inr ⟨#[c]⟩) = some u → SmK v u) ∧ (match valV ls (.inr ⟨#[c]⟩) with | none => false | some u => sV v u) = decide (lk m' c = some a) := by
        rcases key with ⟨v', d', h1, h2, h3⟩ | ⟨h1, h2⟩
        · obtain ⟨b, hb, rfl⟩ := Option.map_eq_some_iff.mp h2
          obtain ⟨s1, s2⟩ := kd_sV hg hv h3
          rw [h1, hb]
          refine ⟨fun u e => (by cases e; exact s1), ?_⟩
          show sV v v' = _
          rw [s2]
          by_cases z : a = b
          · subst z; simp
          · have z' : ¬ b = a := fun e => z e.symm
            simp [z, z']
        · have hb : lk m' c = none := by simpa using h2
          rw [h1, hb]
          exact ⟨fun u e => (nomatch e), rfl⟩
      refine ⟨?_, fun p hp u e => ?_⟩
      · show ((match valV ls (.inr ⟨#[c]⟩) with | none => false | some u => sV v u) && eqK vs ls) = _
        rw [step.2, e1]
        rfl
      · rcases List.mem_cons.mp hp with rfl | hp
        · exact step.1 u e
        · exact e2 p hp u e
theorem denK_len : ∀ {ks : List (Key × V)} {es : List (Key × D)}, DenK K F ks es → ks.length = es.length
  | _, _, .nil => rfl
  | _, _, .cons _ t => congrArg (· + 1) (denK_len t)
theorem denK_fun (hg : Kd g) : ∀ {m m' : List (Nat × α)} {ks : List (Key × V)}, DenK K F ks (enM g m) → DenK K F ks (enM g m') → m = m'
  | [], [], _, _, _ => rfl
  | [], _ :: _, _, h, h' => by cases h; cases h'
  | _ :: _, [], _, h, h' => by cases h'; cases h
  | (c, a) :: m, (c', b) :: m', ks, h, h' => by
    unfold enM at h h'
    rw [List.map_cons] at h h'
    generalize ek : (Sum.inr ⟨#[c]⟩ : Key) = k1 at h
    generalize ek' : (Sum.inr ⟨#[c']⟩ : Key) = k2 at h'
    cases h with
    | cons hv ht =>
      cases h' with
      | cons hv' ht' =>
        have e := one_eq.mp (ek.trans ek'.symm)
        have ab : a = b := by
          cases hg with
          | s f i e => rw [e] at hv hv'; generalize hx : f a = x at hv; generalize hy : f b = y at hv'; cases hv; cases hv'; exact i _ _ (hx.trans hy.symm)
          | n f i e => rw [e] at hv hv'; generalize hx : f a = x at hv; generalize hy : f b = y at hv'; cases hv; cases hv'; exact i _ _ (hx.trans hy.symm)
        rw [e, ab, denK_fun hg ht ht']
theorem eqM_refl (hn : (m.map (·.1)).Nodup) : eqM m m = true := by
  unfold eqM
  simp only [beq_self_eq_true, Bool.true_and, List.all_eq_true, decide_eq_true_eq]
  exact fun p hp => lk_self hn hp
theorem Den.dicR {v : V} {es : List (Key × D)} (s : Same F H) (h : Den K F v (.dic es)) : ∃ a o kvs, v = .ref a ∧ F a = some (.frz o (.dK kvs)) ∧ Rd H a (.dK kvs) ∧ DenK K F kvs es := by
  cases h with
  | @dic a o kvs _ hh l => exact ⟨a, o, kvs, rfl, hh, .inr ⟨o, s _ _ hh⟩, l⟩
theorem dd_of (hg : Kd g) {a b : Addr} {ks ls : List (Key × V)} (r1 : Rd H a (.dK ks)) (r2 : Rd H b (.dK ls)) (d1 : DenK K F ks (enM g m)) (d2 : DenK K F ls (enM g m')) : DD H a b ks ls ∧ (ks.length == ls.length && eqK ks ls) = eqM m m' := by
  obtain ⟨e1, e2⟩ := eqK_map hg d2 d1
  refine ⟨⟨r1, r2, e2⟩, ?_⟩
  rw [e1, denK_len d1, denK_len d2]
  unfold eqM enM
  rw [List.length_map, List.length_map]
theorem rv_eqMap (hg : Kd g) : RvD K rEqDic (.dic (enM g m)) (.dic (enM g m')) (.bl (eqM m m')) := fun F H x y s hx hy Q q => by
  obtain ⟨a, o, ks, rfl, _, ra, da⟩ := Den.dicR s hx
  obtain ⟨b, o', ls, rfl, _, rb, db⟩ := Den.dicR s hy
  obtain ⟨dd, e⟩ := dd_of hg ra rb da db
  exact ⟨a, b, ks, ls, rfl, rfl, dd, by rw [e]; exact q _ F H (Ext.refl s) (.bl _)⟩
theorem rv_neMap (hg : Kd g) : RvD K rNeDic (.dic (enM g m)) (.dic (enM g m')) (.bl (!eqM m m')) := fun F H x y s hx hy Q q => by
  obtain ⟨a, o, ks, rfl, _, ra, da⟩ := Den.dicR s hx
  obtain ⟨b, o', ls, rfl, _, rb, db⟩ := Den.dicR s hy
  obtain ⟨dd, e⟩ := dd_of hg ra rb da db
  exact ⟨a, b, ks, ls, rfl, rfl, dd, by rw [e]; exact q _ F H (Ext.refl s) (.bl _)⟩
end
section
variable {K : PySem.W.Frag} {F H : Hp} {σ : L2.St}
theorem two_of {xs : List V} {d e : D} (h : DenL K F xs [d, e]) : ∃ v w, xs = [v, w] ∧ Den K F v d ∧ Den K F w e := by
  cases h with
  | cons a t => cases t with
    | cons b t => cases t; exact ⟨_, _, rfl, a, b⟩
theorem tup_of {v : V} {ds : List D} (h : Den K F v (.tup ds)) : ∃ t xs, v = .ref t ∧ SqT K F t xs ∧ DenL K F xs ds := by
  cases h with
  | tup st l => exact ⟨_, _, rfl, st, l⟩
theorem rv_eqRule {fo fo' : Fo} {ma ma' : Ma} (hf : (fo.map (·.1)).Nodup) (hm : (ma.map (·.1)).Nodup) : RvD K (rEqTwo K) (ruleD fo ma) (ruleD fo' ma') (.bl (eqM fo fo' && eqM ma ma')) := fun F H x y s hx hy Q q => by
  obtain ⟨t, xs, rfl, st, l⟩ := tup_of hx
  obtain ⟨t', ys, rfl, st', l'⟩ := tup_of hy
  obtain ⟨v1, v2, rfl, h1, h2⟩ := two_of l
  obtain ⟨w1, w2, rfl, g1, g2⟩ := two_of l'
  obtain ⟨a, oa, ka, rfl, fa, ra, da⟩ := Den.dicR s h1
  obtain ⟨b, ob, kb, rfl, fb, rb, db⟩ := Den.dicR s h2
  obtain ⟨a', oa', ka', rfl, fa', ra', da'⟩ := Den.dicR s g1
  obtain ⟨b', ob', kb', rfl, fb', rb', db'⟩ := Den.dicR s g2
  obtain ⟨d1, e1⟩ := dd_of (m := fo) (m' := fo') kd_txt ra ra' da da'
  obtain ⟨d2, e2⟩ := dd_of (m := ma) (m' := ma') kd_int rb rb' db db'
  have i1 : a = a' → eqM fo fo' = true := fun z => by
    rw [← z, fa] at fa'
    have ek : ka = ka' := by injection fa' with h; injection h with h1 h2; injection h2
    rw [← ek] at da'
    rw [← denK_fun (m := fo) (m' := fo') kd_txt da da']
    exact eqM_refl hf
  have i2 : b = b' → eqM ma ma' = true := fun z => by
    rw [← z, fb] at fb'
    have ek : kb = kb' := by injection fb' with h; injection h with h1 h2; injection h2
    rw [← ek] at db'
    rw [← denK_fun (m := ma) (m' := ma') kd_int db db']
    exact eqM_refl hm
  refine ⟨t, t', a, a', b, b', ka, kb, ka', kb', rfl, rfl, same_t s st, same_t s st', d1, d2, fun z => e1.trans (i1 z), fun z => e2.trans (i2 z), ?_⟩
  rw [e1, e2]
  exact q _ F H (Ext.refl s) (.bl _)
end
end Nm

set_option Elab.async false
set_option linter.all false
set_option maxRecDepth 100000
set_option maxHeartbeats 1000000
namespace Nm
open PySem PySem.Spec L2
/-! ### stars of dicts -/
def tStarD (te : TE) (t : TA) : TA := fun σ H Q => te σ H fun x H1 => ∃ p kvs, x = V.ref p ∧ Rd H1 p (.dK kvs) ∧ t σ H1 fun ys H2 => Q ((kvs.map fun kv => kV kv.1) ++ ys) H2
theorem code_collect {P : Program} {w : World} {A : Around} {s : Shared} {T : String} {r d : Addr} {n : Nat} {Pv : Nat → Value → Prop} {OK : Heap → Prop} (R : Result → Shared → Prop)
    (S : PySem.W.KdlSrc P w T r d n Pv OK) (hh : A.handled = none) (hok : OK s.heap) (hn : n ≤ sizeLine)
    (hR : ∀ h' tk acc' c', (∀ b o, s.heap.get? b = some o → h'.get? b = some o) → h'.get? s.heap.objs.size = some { cls := .type "list", dict := none, data := .seq acc' c', slots := #[] } → ItemsOf Pv acc' n → R (.ok (.ret (.ref s.heap.objs.size))) { s with heap := h', toks := tk }) :
    codeAny (model P w) A (.builtin "proto.collect" ⟨[.ref r], []⟩) R s := by
  refine codeAny_builtin PySem.F.entry_proto_collect ?_
  rw [Around.under_plainId PySem.F.plain_proto_collect _]
  show wpAny _ A.in1 (newList [] >>= fun l => again (.builtin "list.__iadd__" ⟨[l, .ref r], []⟩)) _ _ s
  refine wpAny_bind (wpAny_newObj_type ?_)
  refine wpAny_pure ⟨plainId_quiet PySem.F.plain_list_iadd _, codeAny_builtin PySem.F.entry_list_iadd ?_⟩
  rw [Around.under_plainId PySem.F.plain_list_iadd _]
  show wpAny _ A.in1 (Builtin.List.listExtendWith (.ref s.heap.objs.size) (.ref r) (.ref s.heap.objs.size)) _ _ _
  have hlt := S.there _ hok
  have ne : ∀ b o, s.heap.get? b = some o → b ≠ s.heap.objs.size := fun b o e => Nat.ne_of_lt (Heap.lt_size e)
  exact PySem.W.kdl_extend (R := R) (s := { s with heap := s.heap.push { cls := .type "list", data := .seq ([] : List Value).toArray } }) S hh (S.keep _ _ hok fun b _ o e => Heap.get?_push_of_some _ e) s.heap.objs.size (Nat.ne_of_gt hlt.1) (Nat.ne_of_gt hlt.2) _ 0 (Heap.get?_push_size _ rfl) (fun h' tk acc' c' hk hS' hacc => hR h' tk acc' c' (fun b o e => hk b o (ne b o e) (Heap.get?_push_of_some _ e)) hS' hacc) hn
theorem collect_dk {P : Program} {w : World} {A : Around} {s : Shared} {T : String} {r d : Addr} {n : Nat} {Pv : Nat → Value → Prop} {OK : Heap → Prop} {Q : List Value → Shared → Prop} {E : Value → Shared → Prop}
    (S : PySem.W.KdlSrc P w T r d n Pv OK) (hh : A.handled = none) (hok : OK s.heap) (hn : n ≤ sizeLine)
    (hQ : ∀ h' tk acc', (∀ b o, s.heap.get? b = some o → h'.get? b = some o) → ItemsOf Pv acc' n → Q acc'.toList { s with heap := h', toks := tk }) : wpAny (model P w) A (collect (.ref r)) Q E s := by
  unfold collect
  refine wpAny_bind (wpAny_runValue (code_collect _ S hh hok hn fun h' tk acc' c' hk hS' hacc => ?_))
  show wpAny _ A (load s.heap.objs.size >>= _) _ _ _
  exact wpAny_bind (wpAny_load hS' (wpAny_pure (hQ h' tk acc' hk hacc)))
section
variable {X : Cx}
theorem pa_starD {e : Expr} {es : List Expr} {te : TE} {t : TA} {p : Pos} (hcalm : X.calm = true) (he : PE X e te) (hr : PA X es t) (hs : starEach (.Starred e p :: es) X.env = (true, eval e X.env) :: starEach es X.env := by rfl) : PA X (.Starred e p :: es) (tStarD te t) := by
  refine ⟨fun pos pins s σ H Q I h => ?_⟩
  refine PySem.W.items_star (thn (he.run pins s σ H _ I h) fun v s1 hv => ?_) hs
  obtain ⟨y, H1, I1, ry, a, kvs, ey, hx, q⟩ := hv
  subst ey
  obtain rfl : v = Value.ref a := ry
  obtain ⟨z, lo, vs, rel, dd⟩ := dk_rd I1.hok hx
  obtain ⟨ep, hat⟩ := dd.dictAt
  have ek : (kvs.map fun kv => kV kv.1) = vs.map fun p => kV p.1 := by
    have e1 := congrArg (List.map kV) rel.keys
    rwa [List.map_map, List.map_map] at e1
  unfold PySem.W.StarOf notIterableAtAll
  refine wpAny_bind (wpAny_specialOf dd.typeIs PySem.F.slot_dict_iter.lookup (wpAny_pure ⟨rfl, ?_⟩))
  refine collect_dk (PySem.W.kdl_dict (knd := mixKind X.prog X.w) (kvs := vs) (ep := ep) lo) (I1.ok.hd hcalm) hat (by rw [← rel.length]; exact z) fun h' tk acc hk hacc => ?_
  have hv : Vals (vs.map fun p => kV p.1) acc.toList := keys_at (by rw [Array.length_toList]; exact hacc.1) fun j v e => hacc.2 j v (by rw [← Array.getElem?_toList]; exact e)
  refine thn (hr.run pos pins _ σ H1 _ (I1.kept (t' := tk) hk) q) fun ws s3 hw => ?_
  obtain ⟨vs', H3, I3, r3, q3⟩ := hw
  exact ⟨_, H3, I3, (by rw [ek]; exact hv.append r3), q3⟩
/-! ### f-strings -/
def dig2 (n : Nat) : Str := ⟨#[48, 48 + n]⟩
def tFmt02 (te : TE) : TE := fun σ H Q => te σ H fun x H1 => ∃ n : Nat, x = .int (n : Nat) ∧ n < 10 ∧ Q (.str (dig2 n)) H1
theorem gives02 : ∀ n : Nat, n < 10 → ∀ t u, Gives (Builtin.«int.__format__» ⟨[.int (n : Nat) t, .str "02d" u], []⟩) (.str (dig2 n))
  | 0, _, t, u => .of_eq rfl
  | 1, _, t, u => .of_eq rfl
  | 2, _, t, u => .of_eq rfl
  | 3, _, t, u => .of_eq rfl
  | 4, _, t, u => .of_eq rfl
  | 5, _, t, u => .of_eq rfl
  | 6, _, t, u => .of_eq rfl
  | 7, _, t, u => .of_eq rfl
  | 8, _, t, u => .of_eq rfl
  | 9, _, t, u => .of_eq rfl
  | n + 10, h, _, _ => by omega
theorem pe_fmt02 {e g : Expr} {te : TE} {pos : Pos} (he : PE X e te) (hg : PE X g (tC (.str "02d"))) : PE X (.FormattedValue e (-1) (some g) pos) (tFmt02 te) := by
  refine ⟨fun pins s σ H Q I h => ?_⟩
  refine wpAny_FormattedValue_spec (thn (he.run pins s σ H _ I h) fun v s1 hv => ?_)
  obtain ⟨x, H1, I1, r1, n, rfl, hn, q⟩ := hv
  obtain ⟨t, rfl⟩ := (show ∃ t, v = Value.int (n : Nat) t from r1)
  refine thn (hg.run pins s1 σ H1 (fun y H2 => y = .str "02d" ∧ H2 = H1) I1 ⟨rfl, rfl⟩) fun r s2 hr => ?_
  obtain ⟨y, H2, I2, r2, rfl, rfl⟩ := hr
  obtain ⟨t2, rfl⟩ := (show ∃ t, r = Value.str "02d" t from r2)
  refine ⟨_, t2, rfl, ?_⟩
  refine wpAny_formatField_spec (T := "int") (by decide) (fun s' => rfl) PySem.F.slot_int_format PySem.F.entry_int_format PySem.F.args_int_format_2 (fun u => gives02 n hn t u) ?_ (by rw [sizeLine_eq]; decide) (by rw [sizeLine_eq]; show (2 : Nat) ≤ _; decide)
  exact ⟨.str (dig2 n), H2, (I2.tok _).tok _, ⟨_, rfl⟩, q⟩
end
end Nm

set_option Elab.async false
set_option linter.all false
set_option maxRecDepth 100000
set_option maxHeartbeats 1000000
namespace Nm
open PySem PySem.Spec L2
section
variable {K : PySem.W.Frag} {F H : Hp} {σ : L2.St} {te : TE} {E : XK}
theorem denK_keys {g : Nat → D} : ∀ {kvs : List (Key × V)} {es : List (Key × D)} {ks : List Str}, DenK K F kvs es → es.map (·.1) = ks.map Sum.inr → DenL K F (kvs.map fun kv => kV kv.1) (ks.map D.str)
  | _, _, [], .nil, _ => .nil
  | _, _, _ :: _, .nil, e => by cases e
  | _, _, [], .cons _ _, e => by cases e
  | _, _, k :: ks, .cons (k := k') h t, e => by
    have e1 : k' = Sum.inr k := (List.cons.inj e).1
    subst e1
    exact .cons (.str k) (denK_keys (g := g) t (List.cons.inj e).2)
theorem ea_starD {tr : TA} {es : List (Key × D)} {ks : List Str} {ds : List D} (h : EvD K te σ F (.dic es)) (e : es.map (·.1) = ks.map Sum.inr) (hr : EvA K tr σ F ds) : EvA K (tStarD te tr) σ F (ks.map D.str ++ ds) := fun H s Q q =>
  h H s _ fun v F1 H1 x1 d1 => by
    obtain ⟨a, o, kvs, rfl, fa, ra, da⟩ := Den.dicR x1.s d1
    exact ⟨a, kvs, rfl, ra, (hr.up x1.f) H1 x1.s _ fun vs F2 H2 x2 l2 => q _ F2 H2 (x1.tr x2) (((denK_keys (g := fun _ => .non) da e).up x2.f).append l2)⟩
theorem ev_fmt02 {n : Nat} (h : EvD K te σ F (.int (n : Nat))) (hn : n < 10) : EvD K (tFmt02 te) σ F (.str (dig2 n)) := fun H s Q q =>
  h H s _ fun v F1 H1 x1 d1 => by cases d1; exact ⟨n, rfl, hn, q _ F1 H1 x1 (.str _)⟩
theorem ev_fmtS {y : Str} (h : EvD K te σ F (.str y)) (hn : y.length ≤ 16777216) : EvD K (tFmt te) σ F (.str y) := fun H s Q q =>
  h H s _ fun v F1 H1 x1 d1 => by cases d1; exact .inl ⟨y, rfl, by rw [sizeLine_eq]; exact hn, q _ F1 H1 x1 (.str _)⟩
theorem ev_fmtI {i : Int} (h : EvD K te σ F (.int i)) (hn : i.natAbs.log2 < 1920) : EvD K (tFmt te) σ F (.str (toString i)) := fun H s Q q =>
  h H s _ fun v F1 H1 x1 d1 => by cases d1; exact .inr ⟨i, rfl, hn, q _ F1 H1 x1 (.str _)⟩
def tJoined (ts : List TE) : TE := fun σ H Q => tJs ts Str.empty σ H fun out H1 => Q (.str out) H1
inductive EvJ (K : PySem.W.Frag) (σ : L2.St) (F : Hp) : List TE → Str → Str → Prop
  | nil {acc : Str} : EvJ K σ F [] acc acc
  | cons {t : TE} {ts : List TE} {acc y out : Str} : EvD K t σ F (.str y) → (acc ++ y).length ≤ 16777216 → EvJ K σ F ts (acc ++ y) out → EvJ K σ F (t :: ts) acc out
theorem EvJ.up {ts : List TE} {acc out : Str} {F' : Hp} (h : EvJ K σ F ts acc out) (e : Same F F') : EvJ K σ F' ts acc out := by
  induction h with
  | nil => exact .nil
  | cons a b c ih => exact .cons (a.up e) b ih
theorem EvJ.run {ts : List TE} {acc out : Str} (h : EvJ K σ F ts acc out) : ∀ {F0 H : Hp}, Same F F0 → Same F0 H → ∀ Q : Str → Hp → Prop, (∀ F' H', Ext [] F0 H F' H' → Q out H') → tJs ts acc σ H Q := by
  induction h with
  | nil => exact fun e s Q q => q _ _ (Ext.refl s)
  | cons a b c ih =>
    intro F0 H e s Q q
    refine (a.up e) H s _ fun v F1 H1 x1 d1 => ?_
    cases d1
    exact ⟨_, rfl, by rw [sizeLine_eq]; exact b, ih (e.trans x1.f) x1.s Q fun F' H' x => q F' H' (x1.tr x)⟩
theorem ev_joined {ts : List TE} {out : Str} (h : EvJ K σ F ts Str.empty out) : EvD K (tJoined ts) σ F (.str out) := fun H s Q q => h.run (Same.refl _) s _ fun F' H' x => q _ F' H' x (.str _)
/-! ### a fresh dict -/
def spFD (K : PySem.W.Frag) (n : Nat) (R : List D → List (Key × D) → Prop) : Sp := fun vs H Q _ => ∃ F ds es, Same F H ∧ DenL K F vs ds ∧ ds.length = n ∧ R ds es ∧ ∀ p kvs F' H', H p = none → Ext [] F H F' H' → Own F' H' p (.dK kvs) → DenK K F' kvs es → Q (.ref p) H'
theorem spFD_len {n : Nat} {R : List D → List (Key × D) → Prop} {vs : List V} {Q : VK} (h : spFD K n R vs H Q E) : vs.length = n := by
  obtain ⟨F, ds, es, _, l, e, _⟩ := h
  rw [l.length, e]
/-- x.f, as it comes -/
theorem pr_new {C : Addr} {gs : List (Str × D)} {R : List D → List (Key × D) → Prop} {es : List (Key × D)} (h : EvD K te σ F (.obj C gs)) (hR : R [.obj C gs] es) : ∀ H, Same F H → ∀ Q : VK, (∀ p kvs F' H', H p = none → Ext [] F H F' H' → Own F' H' p (.dK kvs) → DenK K F' kvs es → Q (.ref p) H') → tProp C (spFD K 1 R) [] E te σ H Q := fun H s Q q =>
  h H s _ fun v F1 H1 x1 d1 => by
    have d1' := d1
    cases d1 with
    | @obj a _ dx fs _ hh l =>
      refine ⟨a, dx, fs, rfl, x1.s _ _ hh, F1, [_], es, x1.s, .cons d1' .nil, rfl, hR, fun p kvs F2 H2 hp x2 w dk => q p kvs F2 H2 ?_ (x1.tr x2) w dk⟩
      cases e : H p with
      | none => rfl
      | some o => rw [x1.same _ _ e] at hp; cases hp
theorem freeze_own {p : Addr} {kvs : List (Key × V)} {F0 H0 F' H' : Hp} (od : Obj) (hp : H0 p = none) (x : Ext [] F0 H0 F' H') (w : Own F' H' p (.dK kvs)) : Ext [] F0 H0 (upd F' p (.frz od (.dK kvs))) (upd H' p (.frz od (.dK kvs))) ∧ Same F' (upd F' p (.frz od (.dK kvs))) := by
  have e : Same F' (upd F' p (.frz od (.dK kvs))) := fun a u h => by rw [upd_ne (ne_of_none h w.f)]; exact h
  refine ⟨Ext.of (x.f.trans e) (fun a u h => ?_) (fun a u h => ?_) (fun a h k => ?_), e⟩
  · rw [upd_ne (ne_of_none h hp)]; exact x.same a u h
  · by_cases z : a = p
    · subst z; rw [upd_same] at h ⊢; exact h
    · rw [upd_ne z] at h ⊢; exact x.s a u h
  · rw [upd_ne (fun z => k (by rw [z]; exact hp))]; exact x.n a h k
/-- x.f, locked at once -/
theorem ev_propD {C : Addr} {gs : List (Str × D)} {R : List D → List (Key × D) → Prop} {es : List (Key × D)} (h : EvD K te σ F (.obj C gs)) (hR : R [.obj C gs] es) : EvD K (tLk (tProp C (spFD K 1 R) [] E te)) σ F (.dic es) := fun H s Q q =>
  pr_new h hR H s _ fun p kvs F' H' hp x w dk => .inr ⟨p, _, rfl, w.h, trivial, fun od => by
    obtain ⟨x2, e⟩ := freeze_own od hp x w
    exact q _ _ _ x2 (.dic upd_same (DenK.mono e _ dk))⟩
/-! ### own defs -/
theorem ev_own1 {C : Addr} {gs : List (Str × D)} {R : List D → D → Prop} {ok : V → Prop} {d : D} (h : EvD K te σ F (.obj C gs)) (hR : R [.obj C gs] d) (hk : ∀ F v, Den K F v d → ok v) : EvD K (tCB (rOwn1 C (spR K 1 R) E ok) (tCons te tNil)) σ F d := fun H s Q q =>
  (ea_cons h ea_nil) H s _ fun vs F1 H1 x1 l => by
    cases l with
    | cons d1 t =>
      cases t
      have d1' := d1
      cases d1 with
      | @obj a _ dx fs _ hh l => exact ⟨a, dx, fs, rfl, x1.s _ _ hh, F1, [_], d, x1.s, .cons d1' .nil, hR, rfl, fun v F2 H2 x2 d2 => ⟨hk _ _ d2, q _ _ _ (x1.tr x2) d2⟩⟩
/-- what may stand to the right of == -/
def rtD (C : Addr) : D → Bool
  | .non | .bl _ | .int _ | .str _ | .tup _ => true
  | .obj C' _ => decide (C' = C)
  | _ => false
structure NotF (K : PySem.W.Frag) (C : Addr) : Prop where
  non : PySem.W.notFirst K C (.type "NoneType") = true
  bl : PySem.W.notFirst K C (.type "bool") = true
  int : PySem.W.notFirst K C (.type "int") = true
  str : PySem.W.notFirst K C (.type "str") = true
  tup : PySem.W.notFirst K C (.type "tuple") = true
theorem rt_of {C : Addr} {y : D} {v : V} (nf : NotF K C) (s : Same F H) (h : Den K F v y) (t : rtD C y = true) : ∃ tb, TyV K H v tb ∧ PySem.W.notFirst K C tb = true := by
  cases h with
  | non => exact ⟨_, .non, nf.non⟩
  | bl b => exact ⟨_, .bl b, nf.bl⟩
  | int b => exact ⟨_, .int b, nf.int⟩
  | str b => exact ⟨_, .str b, nf.str⟩
  | tup st l => exact ⟨_, .tup (same_t s st), nf.tup⟩
  | obj hh l =>
    have e := of_decide_eq_true t
    subst e
    exact ⟨_, .ins (s _ _ hh), by unfold PySem.W.notFirst; simp⟩
  | lst _ _ => cases t
  | ty _ => cases t
  | cls _ => cases t
  | dic _ _ => cases t
theorem rv_eqOwn {C : Addr} {gs : List (Str × D)} {R : List D → D → Prop} {y : D} {b : Bool} (nf : NotF K C) (t : rtD C y = true) (hR : R [.obj C gs, y] (.bl b)) : RvD K (rEqOwn K C (spR K 2 R) E) (.obj C gs) y (.bl b) := fun F H v u s hv hu Q q => by
  obtain ⟨tb, ty, nt⟩ := rt_of nf s hu t
  have hv' := hv
  cases hv with
  | @obj a _ dx fs _ hh l => exact ⟨a, dx, fs, tb, rfl, s _ _ hh, ty, nt, F, [_, _], .bl b, s, .cons hv' (.cons hu .nil), hR, rfl, fun v F2 H2 x2 d2 => ⟨b, by cases d2; rfl, by cases d2; exact q _ _ _ x2 (.bl b)⟩⟩
theorem rv_neOwn {C : Addr} {gs gs' : List (Str × D)} {R : List D → D → Prop} {b : Bool} (hR : R [.obj C gs, .obj C gs'] (.bl b)) : RvD K (rNeOwn C (spR K 2 R) E) (.obj C gs) (.obj C gs') (.bl (!b)) := fun F H v u s hv hu Q q => by
  have hv' := hv
  have hu' := hu
  cases hv with
  | @obj a _ dx fs _ hh l =>
    cases hu with
    | @obj a2 _ dx2 fs2 _ hh2 l2 => exact ⟨a, dx, fs, a2, dx2, fs2, rfl, rfl, s _ _ hh, s _ _ hh2, F, [_, _], .bl b, s, .cons hv' (.cons hu' .nil), hR, rfl, fun v F2 H2 x2 d2 => ⟨b, by cases d2; rfl, by cases d2; exact q _ _ _ x2 (.bl _)⟩⟩
end
end Nm

set_option Elab.async false
set_option linter.all false
set_option maxRecDepth 100000
set_option maxHeartbeats 1000000
namespace Nm
open PySem PySem.Spec L2
/-- __init__ whose fields hold only what is new -/
def spIN (K : PySem.W.Frag) (C : Addr) (n : Nat) (R : List D → List (Str × D) → Prop) : Sp := fun vs H Q _ => ∃ F x dx ws ds gs, vs = .ref x :: ws ∧ Same F H ∧ H x = some (.ins C dx []) ∧ F x = none ∧ DenL K F ws ds ∧ ds.length = n ∧ R ds gs ∧
  ∀ fs G F' H', Ext [x] F H F' H' → F' x = none → H' x = some (.ins C dx fs) → Same G F' → (∀ a, H a ≠ none → G a = none) → DenF K G fs gs → Q .non H'
section
variable {K : PySem.W.Frag} {F H : Hp} {σ : L2.St} {E : XK} {n : Nat} {C : Addr} {R : List D → List (Str × D) → Prop} {gs : List (Str × D)}
theorem spIN_len {vs : List V} {Q : VK} (h : spIN K C n R vs H Q E) : vs.length = n + 1 := by
  obtain ⟨F, x, dx, ws, ds, gs, rfl, _, _, _, l, e, _⟩ := h
  rw [List.length_cons, l.length, e]
theorem ev_makeN {tr : TA} {ds : List D} (ha : EvA K tr σ F ds) (hf : R ds gs) (hn : ds.length = n) : EvD K (tMake C (spIN K C n R) [] E tr) σ F (.obj C gs) := fun H s Q q =>
  ha H s _ fun vs F1 H1 x1 l1 x dx hx hdx ne => by
    have y1 : Ext [] F1 H1 F1 (upd H1 dx (.own x)) := Ext.newM x1.s hdx
    have hx' : upd H1 dx (.own x) x = none := by rw [upd_ne (Ne.symm ne)]; exact hx
    have y2 : Ext [] F1 (upd H1 dx (.own x)) F1 (upd (upd H1 dx (.own x)) x (.ins C dx [])) := Ext.newM y1.s hx'
    refine ⟨F1, x, dx, vs, ds, gs, by simp, y2.s, upd_same, x1.s.free hx, l1, hn, hf, fun fs G F2 H2 x2 fx hx2 sg ng l2 => ⟨rfl, ?_⟩⟩
    have z : Ext [] F1 H1 F2 H2 := Ext.forget (y1.tr y2) x2 hx
    have z2 := Ext.freeze z hx hx2 fx
    exact q _ _ _ (x1.tr z2) (.obj upd_same (DenF.mono (sg.trans (same_new fx)) gs l2))
theorem mk_lent {i j : Nat} {a b : Addr} {kva kvb : List (Key × V)} {esa esb : List (Key × D)} (hi : σ[i]? = some (some (.ref a))) (hj : σ[j]? = some (some (.ref b))) (S : Same F H) (wa : Own F H a (.dK kva)) (wb : Own F H b (.dK kvb)) (ne : a ≠ b)
    (da : DenK K F kva esa) (db : DenK K F kvb esb) (hR : R [.dic esa, .dic esb] gs) (Q : VK) (q : ∀ v F' H', Ext [] F H F' H' → Den K F' v (.obj C gs) → Q v H') :
    tLockE (tLockE (tMake C (spIN K C 2 R) [] E (tCons (tVar i) (tCons (tVar j) tNil)))) σ H Q := by
  refine ⟨a, .dK kva, wa.h, trivial, fun oa => ⟨b, .dK kvb, (by rw [upd_ne (Ne.symm ne)]; exact wb.h), trivial, fun ob => ?_⟩⟩
  refine ⟨_, hi, _, hj, ?_⟩
  intro x dx hx hdx nx
  generalize e1 : upd (upd H a (.frz oa (.dK kva))) b (.frz ob (.dK kvb)) = H1 at hx hdx ⊢
  have H1o : ∀ c, c ≠ a → c ≠ b → H1 c = H c := fun c h1 h2 => by rw [← e1, upd_ne h2, upd_ne h1]
  have H1a : H1 a = some (.frz oa (.dK kva)) := by rw [← e1, upd_ne ne, upd_same]
  have H1b : H1 b = some (.frz ob (.dK kvb)) := by rw [← e1, upd_same]
  have xa : x ≠ a := fun z => by rw [z, H1a] at hx; cases hx
  have xb : x ≠ b := fun z => by rw [z, H1b] at hx; cases hx
  have ya : dx ≠ a := fun z => by rw [z, H1a] at hdx; cases hdx
  have yb : dx ≠ b := fun z => by rw [z, H1b] at hdx; cases hdx
  have Hx : H x = none := by rw [← H1o x xa xb]; exact hx
  have Fx : F x = none := S.free Hx
  have F1s : Same F (upd (upd F a (.frz oa (.dK kva))) b (.frz ob (.dK kvb))) := fun c o h => by rw [upd_ne (ne_of_none h wb.f), upd_ne (ne_of_none h wa.f)]; exact h
  have S1 : Same (upd (upd F a (.frz oa (.dK kva))) b (.frz ob (.dK kvb))) (upd (upd H1 dx (.own x)) x (.ins C dx [])) := fun c o h => by
    have k : H1 c = some o := by
      by_cases cb : c = b
      · subst cb; rw [upd_same] at h; cases h; exact H1b
      · rw [upd_ne cb] at h
        by_cases ca : c = a
        · subst ca; rw [upd_same] at h; cases h; exact H1a
        · rw [upd_ne ca] at h; rw [H1o c ca cb]; exact S c o h
    rw [upd_ne (ne_of_none k hx), upd_ne (ne_of_none k hdx)]; exact k
  refine ⟨_, x, dx, [.ref a, .ref b], [.dic esa, .dic esb], gs, by simp, S1, upd_same, (by rw [upd_ne xb, upd_ne xa]; exact Fx), .cons (.dic (by rw [upd_ne ne, upd_same]) (DenK.mono F1s _ da)) (.cons (.dic upd_same (DenK.mono F1s _ db)) .nil), rfl, hR, fun fs G F2 H2 x2 fx hx2 sg ng l2 => ⟨rfl, ?_⟩⟩
  have up : ∀ c, H1 c ≠ none → upd (upd H1 dx (.own x)) x (.ins C dx []) c ≠ none := fun c h => upd_keeps c (upd_keeps c h)
  have k2 : ∀ c o, H1 c = some o → H2 c = some o := fun c o h => x2.h c o (by simpa using ne_of_none h hx) (by rw [upd_ne (ne_of_none h hx), upd_ne (ne_of_none h hdx)]; exact h)
  refine ⟨k2 b _ H1b, ?_, ?_⟩
  · rw [upd_ne ne]; exact k2 a _ H1a
  have Gn : ∀ c, H c ≠ none → G c = none := fun c h => ng c (up c (by
    by_cases ca : c = a
    · rw [ca, H1a]; simp
    · by_cases cb : c = b
      · rw [cb, H1b]; simp
      · rw [H1o c ca cb]; exact h))
  have Gx : G x = none := by
    cases e : G x with
    | none => rfl
    | some o => rw [sg x o e] at fx; cases fx
  have sG : Same G (upd (uni F G) x (.ins C dx fs)) := fun c o h => by
    rw [upd_ne (ne_of_none h Gx)]
    unfold uni
    cases e : F c with
    | none => exact h
    | some o' => rw [Gn c (by rw [S c o' e]; simp)] at h; cases h
  refine q _ (upd (uni F G) x (.ins C dx fs)) _ (Ext.of ?_ ?_ ?_ ?_) (.obj upd_same (DenF.mono sG gs l2))
  · intro c o h
    rw [upd_ne (ne_of_none h Fx)]
    exact uni_l c o h
  · intro c o h
    by_cases ca : c = a
    · rw [ca, upd_same]; rw [ca, wa.h] at h; exact h
    · rw [upd_ne ca]
      by_cases cb : c = b
      · rw [cb, upd_same]; rw [cb, wb.h] at h; exact h
      · rw [upd_ne cb]; exact k2 c o (by rw [H1o c ca cb]; exact h)
  · intro c o h
    by_cases cx : c = x
    · rw [cx, upd_same] at h; cases h; rw [cx, upd_ne xa, upd_ne xb]; exact hx2
    · rw [upd_ne cx] at h
      have cab : c ≠ a ∧ c ≠ b ∧ H2 c = some o := by
        unfold uni at h
        cases e : F c with
        | some o' =>
          rw [e] at h
          cases h
          have ca := ne_of_none e wa.f
          have cb := ne_of_none e wb.f
          exact ⟨ca, cb, k2 c _ (by rw [H1o c ca cb]; exact S c _ e)⟩
        | none =>
          rw [e] at h
          have h : G c = some o := h
          exact ⟨fun z => (by rw [z, Gn a (by rw [wa.h]; simp)] at h; cases h), fun z => (by rw [z, Gn b (by rw [wb.h]; simp)] at h; cases h), x2.s c o (sg c o h)⟩
      rw [upd_ne cab.1, upd_ne cab.2.1]
      exact cab.2.2
  · intro c h k
    rw [upd_ne (fun z => k (by rw [z]; exact Hx))]
    unfold uni
    rw [h]
    exact Gn c k
end
abbrev okLenZ : V → Prop := fun z => ∃ i : Nat, z = .int (i : Nat) ∧ i < 1000000
abbrev okStrZ : V → Prop := fun z => ∃ y : Str, z = .str y
theorem hu0 {k : Nat} {A : Around} (hr : Room k A) : A.units < cLine := Nat.lt_of_le_of_lt (Nat.le_add_right _ 64) (hu4 hr)
theorem hu1 {k : Nat} {A : Around} (hr : Room k A) : A.units + 1 < cLine := by have := hu4 hr; omega
theorem hu2 {k : Nat} {A : Around} (hr : Room k A) : A.units + 2 < cLine := by have := hu4 hr; omega
theorem pe_joinedT {X : Cx} {v1 v2 : Expr} {rest : List Expr} {ts : List TE} {pos : Pos} (h : PJ X (v1 :: v2 :: rest) ts) : PE X (.JoinedStr (v1 :: v2 :: rest) pos) (tJoined ts) := pe_joined h
end Nm

set_option Elab.async false
set_option linter.all false
set_option maxRecDepth 100000
set_option maxHeartbeats 1000000
namespace Nm
open PySem PySem.Spec L2
def rStrI : List V → Hp → VK → Prop := fun xs H Q => ∃ i, xs = [.int i] ∧ i.natAbs.log2 < 1920 ∧ Q (.str (toString i)) H
def rStrS : List V → Hp → VK → Prop := fun xs H Q => ∃ a, xs = [.str a] ∧ Q (.str a) H
def rStrA : List V → Hp → VK → Prop := fun xs H Q => rStrI xs H Q ∨ rStrS xs H Q
theorem c_str {X : Cx} : CallR X (.type "str") rStrA := calr_or call_str_int SkE.call_str_str
structure KitC (K : PySem.W.Frag) (C : Addr) : Prop where
  non : PySem.W.kitOne K (.type "NoneType") (.ref C) = some false
  bl : PySem.W.kitOne K (.type "bool") (.ref C) = some false
  int : PySem.W.kitOne K (.type "int") (.ref C) = some false
  str : PySem.W.kitOne K (.type "str") (.ref C) = some false
  tup : PySem.W.kitOne K (.type "tuple") (.ref C) = some false
  c1 : PySem.W.findIn K (.ref C) "__class__" = some (some (.builtin "object.__class__"))
  c2 : PySem.W.specialIn K (.builtin "object.__class__") "__get__" = some (some (.builtin "getset_descriptor.__get__"))
  c3 : PySem.W.takesIn K (.builtin "object.__class__") = some true
  c4 : PySem.W.mroIn K C (.type "object") = some true
def isO : D → Bool
  | .obj _ _ => true
  | _ => false
section
variable {K : PySem.W.Frag}
theorem rc_strI {i : Int} (h : i.natAbs.log2 < 1920) : RcD K rStrA [.int i] (.str (toString i)) := fun F H xs s l Q q => by
  cases l with
  | cons a t => cases t; cases a; exact .inl ⟨i, rfl, h, q _ F H (Ext.refl s) (.str _)⟩
theorem rc_isC {C : Addr} {y : D} (c : Cls K C) (k : KitC K C) (t : rtD C y = true) : RcD K (rIsiA K) [y, .cls C] (.bl (isO y)) := fun F H xs s l Q q => by
  cases l with
  | @cons v _ _ _ a l2 =>
    cases l2 with
    | @cons c _ _ _ b l3 =>
      cases l3
      cases b
      have fin : ∀ ty r, TyX K H v ty → PySem.W.kitOne K ty (.ref C) = some r → isO y = r → rIsiA K [v, .ref C] H Q := fun ty r h1 h2 h3 => .inl ⟨v, .ref C, ty, .ref C, r, rfl, .own C, h1, h2, by rw [← h3]; exact q _ F H (Ext.refl s) (.bl _)⟩
      cases a with
      | non => exact fin _ _ (ty_of s .non rfl) k.non rfl
      | bl x => exact fin _ _ (ty_of s (.bl x) rfl) k.bl rfl
      | int x => exact fin _ _ (ty_of s (.int x) rfl) k.int rfl
      | str x => exact fin _ _ (ty_of s (.str x) rfl) k.str rfl
      | tup st l => exact fin _ _ (ty_of s (.tup st l) rfl) k.tup rfl
      | obj hh l =>
        have e := of_decide_eq_true t
        subst e
        exact fin _ true (.base (.ins (s _ _ hh) c k.c1 k.c2 k.c3 k.c4)) (by unfold PySem.W.kitOne; simp) rfl
      | lst _ _ => cases t
      | ty _ => cases t
      | cls _ => cases t
      | dic _ _ => cases t
theorem dict_new {F : Hp} {σ : L2.St} {te : TE} {es : List (Key × D)} (h : EvD K te σ F (.dic es)) : ∀ H, Same F H → ∀ Q : VK, (∀ p od kvs F1 H1, Ext [] F H F1 H1 → H1 p = none → DenK K F1 kvs es → Q (.ref p) (upd H1 p (.frz od (.dK kvs)))) → tLk (tCB rDictA (tCons te tNil)) σ H Q := fun H s Q q =>
  (ea_cons h ea_nil) H s (fun vs H1 => rDictA vs H1 fun v H1 => Q v H1 ∨ ∃ d u, v = .ref d ∧ H1 d = some u ∧ Mut (some u) ∧ ∀ od, Q v (upd H1 d (.frz od u))) fun vs F1 H1 x1 l => by
    cases l with
    | cons a t =>
      cases t
      obtain ⟨b, o, kvs, rfl, _, rb, dk⟩ := Den.dicR x1.s a
      exact ⟨b, kvs, rfl, rb, fun p hp => .inr ⟨p, _, rfl, upd_same, trivial, fun od => by rw [upd_upd]; exact q p od kvs F1 H1 x1 hp dk⟩⟩
theorem dict_raw {F : Hp} {σ : L2.St} {te : TE} {es : List (Key × D)} (h : EvD K te σ F (.dic es)) : ∀ H, Same F H → ∀ Q : VK, (∀ p kvs F1 H1, Ext [] F H F1 H1 → H1 p = none → DenK K F1 kvs es → Q (.ref p) (upd H1 p (.dK kvs))) → tCB rDictA (tCons te tNil) σ H Q := fun H s Q q =>
  (ea_cons h ea_nil) H s _ fun vs F1 H1 x1 l => by
    cases l with
    | cons a t =>
      cases t
      obtain ⟨b, o, kvs, rfl, _, rb, dk⟩ := Den.dicR x1.s a
      exact ⟨b, kvs, rfl, rb, fun p hp => q p kvs F1 H1 x1 hp dk⟩
theorem flatK {α : Type} {g : α → D} (hg : Kd g) {F F' : Hp} : ∀ {m : List (Nat × α)} {kvs : List (Key × V)}, DenK K F kvs (enM g m) → DenK K F' kvs (enM g m)
  | [], _, h => by cases h; exact .nil
  | (c, a) :: m, _, h => by
    cases h with
    | cons hv ht =>
      refine .cons ?_ (flatK hg ht)
      cases hg with
      | s f i e => rw [e] at hv ⊢; cases hv; exact .str _
      | n f i e => rw [e] at hv ⊢; cases hv; exact .int _
end
end Nm

set_option Elab.async false
set_option linter.all false
set_option maxRecDepth 100000
set_option maxHeartbeats 1000000
namespace Nm
open PySem PySem.Spec L2
theorem kit_no {K : PySem.W.Frag} {t : Value} {C : Addr} {cd : ClassData} (h0 : (t == .ref C) = false) (h1 : PySem.W.clsIn K C = some cd) (h2 : PySem.W.typeIn K (.ref C) = some (.type "type")) (h3 : PySem.W.subIn K t (.ref C) = some false) : PySem.W.kitOne K t (.ref C) = some false := by
  unfold PySem.W.kitOne
  rw [if_neg (by rw [h0]; decide)]
  unfold PySem.W.kitCls
  dsimp only
  rw [h1, h2, if_pos (by rfl)]
  exact h3
def strKey : DictEntry → Bool := fun e => match e.key with | .str _ _ => true | _ => false
theorem ns_ok {K : PySem.W.Frag} {N : Addr} {c : Value} {d : Option Addr} {es : Array DictEntry} {n : Nat} {sl : Array (Option Value)} (h : K.lookup N = some ⟨c, d, .dict es n, sl⟩) (he : es.toList.all strKey = true) : PySem.W.nsOkIn K N = true := by
  unfold PySem.W.nsOkIn
  rw [h]
  show es.all strKey = true
  rw [← Array.all_toList]
  exact he
end Nm

set_option Elab.async false
set_option linter.all false
set_option maxRecDepth 100000
set_option maxHeartbeats 1000000
/-! any values: a list == [], tuple(list), how long a text of them is -/
namespace Nm
open PySem PySem.Spec L2
def rEqNil (K : PySem.W.Frag) : R2 := fun x y H Q => ∃ a b xs, x = .ref a ∧ y = .ref b ∧ SqL K H a xs ∧ SqL K H b [] ∧ Q (.bl xs.isEmpty) H
def rEqN (K : PySem.W.Frag) : R2 := fun x y H Q => rEqA K x y H Q ∨ rEqNil K x y H Q
def rTupleA (K : PySem.W.Frag) : List V → Hp → VK → Prop := fun xs H Q => ∃ p ys, xs = [.ref p] ∧ ((SqL K H p ys ∧ ∀ l, H l = none → Q (.ref l) (upd H l (.tup ys))) ∨ (SqT K H p ys ∧ Q (.ref p) H))
theorem c_tuple {X : Cx} : CallR X (.type "tuple") (rTupleA X.K) := call_tuple_of
section
variable {X : Cx}
theorem op_eqNil (hu : X.A.units < cLine) : OpR X (compareOp .Eq) (rEqNil X.K) := by
  intro pins s σ H x y v u Q I rx ry h
  obtain ⟨a, b, xs, rfl, rfl, ha, hb, q⟩ := h
  obtain rfl : v = Value.ref a := rx
  obtain rfl : u = Value.ref b := ry
  obtain ⟨its, r1, p1, _⟩ := I.list ha
  obtain ⟨its', r2, p2, _⟩ := I.list hb
  have e2 : its' = [] := by cases r2; rfl
  subst e2
  show wpAny _ _ (richCompare .Eq _ _) _ _ _
  cases r1 with
  | nil => exact (SeqAt.RcAt.lists (e := fun _ => true) p1.isList p2.isList rfl hu (fun j h1 h2 => absurd h1 (by simp))) _ _ _ _ (fin_bl I q rfl)
  | cons h t => exact (SeqAt.RcAt.lists_lengths p1.isList p2.isList (by simp) hu) _ _ _ _ (fin_bl I q rfl)
theorem o_eqN (hu : X.A.units + 64 < cLine) : OpR X (compareOp .Eq) (rEqN X.K) := opr_or (o_eq hu) (op_eqNil (by omega))
end
section
variable {K : PySem.W.Frag}
theorem rv_eqN {r : R2} {a b d : D} (h : RvD K (rEqA K) a b d) : RvD K (rEqN K) a b d := fun F H x y s hx hy Q q => .inl (h F H x y s hx hy Q q)
theorem rv_eqNil {ds : List D} : RvD K (rEqN K) (.lst ds) (.lst []) (.bl ds.isEmpty) := fun F H x y s hx hy Q q => .inr (by
  cases hx with
  | lst a l =>
    cases hy with
    | lst b m =>
      cases m
      refine ⟨_, _, _, rfl, rfl, SqL.of (s _ _ a), SqL.of (s _ _ b), ?_⟩
      have e : (‹List V› : List V).isEmpty = ds.isEmpty := by cases l <;> rfl
      rw [e]
      exact q _ F H (Ext.refl s) (.bl _))
theorem rc_tupleL {ds : List D} : RcD K (rTupleA K) [.lst ds] (.tup ds) := fun F H xs s hx Q q => by
  cases hx with
  | cons a t =>
    cases t
    cases a with
    | lst r l => exact ⟨_, _, rfl, .inl ⟨SqL.of (s _ _ r), fun p hp => q _ _ _ (Ext.new s hp) (.tup (SqT.of upd_same) (l.up (Ext.new (o := .tup _) s hp).f))⟩⟩
end
/-! ### how long -/
structure Shw (d : D) (n k : Nat) : Prop where
  pl : plainN d = true
  sh : (toPy d).showable = true
  de : (toPy d).depth ≤ k
  le : (toPy d).shown.length ≤ n
theorem Shw.ok {d : D} {n k : Nat} (h : Shw d n k) (hn : n ≤ 16777216) (hk : k ≤ 40) : okN d = true := by
  unfold okN shownD
  rw [h.pl, h.sh, decide_eq_true (Nat.le_trans h.de hk), decide_eq_true (Nat.le_trans h.le hn)]
  rfl
theorem Shw.mono {d : D} {n k n' k' : Nat} (h : Shw d n k) (hn : n ≤ n') (hk : k ≤ k') : Shw d n' k' := ⟨h.pl, h.sh, Nat.le_trans h.de hk, Nat.le_trans h.le hn⟩
theorem shw_str {z : Str} (h : PyData.strOk z = true) : Shw (.str z) (10 * z.length + 2) 0 := by
  obtain ⟨h1, h2, h3, h4⟩ := show_of (.str z) (by unfold txtD; exact h)
  refine ⟨by unfold plainN; rfl, h1, Nat.le_of_eq (h3.trans (by unfold dp; rfl)), ?_⟩
  have : wt (.str z) = 10 * z.length + 2 := by unfold wt; rfl
  omega
theorem shw_all {n k : Nat} : ∀ ds : List D, (∀ d ∈ ds, Shw d n k) → plainNL ds = true ∧ PyData.showableAll (toPyL ds) = true ∧ PyData.depthAll (toPyL ds) ≤ k ∧ piled (PyData.shownAll (toPyL ds)) ≤ ds.length * (n + 2)
  | [], _ => by unfold toPyL plainNL; simp only [PyData.showableAll, PyData.depthAll, PyData.shownAll, piled_nil]; exact ⟨trivial, trivial, Nat.zero_le _, Nat.zero_le _⟩
  | d :: ds, h => by
    have a := h d List.mem_cons_self
    obtain ⟨h1, h2, h3, h4⟩ := shw_all ds fun x hx => h x (List.mem_cons_of_mem _ hx)
    unfold toPyL plainNL
    simp only [PyData.showableAll, PyData.depthAll, PyData.shownAll, piled_cons, a.pl, a.sh, h1, h2, List.length_cons]
    have := a.de
    have := a.le
    refine ⟨rfl, rfl, by omega, ?_⟩
    rw [Nat.add_mul, Nat.one_mul]
    omega
theorem shw_lst {n k L : Nat} {ds : List D} (h : ∀ d ∈ ds, Shw d n k) (hl : ds.length ≤ L) : Shw (.lst ds) (L * (n + 2) + 2) (k + 1) := by
  obtain ⟨h1, h2, h3, h4⟩ := shw_all ds h
  have h5 : ds.length * (n + 2) ≤ L * (n + 2) := Nat.mul_le_mul_right _ hl
  have := listText_le (PyData.shownAll (toPyL ds))
  refine ⟨by unfold plainN; exact h1, by unfold toPy; simp only [PyData.showable]; exact h2, by unfold toPy; simp only [PyData.depth]; omega, by unfold toPy; simp only [PyData.shown]; omega⟩
theorem shw_tup {n k L : Nat} {ds : List D} (h : ∀ d ∈ ds, Shw d n k) (hl : ds.length ≤ L) : Shw (.tup ds) (L * (n + 2) + 4) (k + 1) := by
  obtain ⟨h1, h2, h3, h4⟩ := shw_all ds h
  have h5 : ds.length * (n + 2) ≤ L * (n + 2) := Nat.mul_le_mul_right _ hl
  have := tupleText_le (PyData.shownAll (toPyL ds))
  refine ⟨by unfold plainN; exact h1, by unfold toPy; simp only [PyData.showable]; exact h2, by unfold toPy; simp only [PyData.depth]; omega, by unfold toPy; simp only [PyData.shown]; omega⟩
end Nm

set_option Elab.async false
set_option linter.all false
set_option maxRecDepth 100000
set_option maxHeartbeats 1000000
/-! try with several clauses that name what they catch -/
namespace Nm
open PySem PySem.Spec L2 PyProof.Rows
structure Cl where
  c : Value
  i : Nat
  ts : Addr → Value → Option Addr → TS
def offE (D : Ends) (i : Nat) : Ends := { nx := fun τ G => D.nx (τ.set i none) G, rt := D.rt, bk := fun τ G => D.bk (τ.set i none) G, ct := fun τ G => D.ct (τ.set i none) G }
def wCls (K : PySem.W.Frag) (D : Ends) : List Cl → WX
  | [] => fun _ _ _ _ => False
  | k :: r => fun cl dd τ G => ∃ b, PySem.W.exmOne K cl k.c = some b ∧ (b = true → ∀ ad, G ad = none → k.ts ad cl dd (offE D k.i) (τ.set k.i (some (.ref ad))) G) ∧ (b = false → wCls K D r cl dd τ G)
inductive ClsOk (X : Cx) : List ExceptHandler → List Cl → Prop
  | rest {hs : List ExceptHandler} : ClsOk X hs []
  | cons {x n : Str} {q q' : Pos} {st : Stmt} {sts : List Stmt} {hs : List ExceptHandler} {k : Cl} {l : List Cl} (hi : X.N[k.i]? = some n) (hl : X.env.kindOf n = some .local) (hc : Names X x k.c)
      (hu : ∀ (ad : Addr) (ob : Obj) (cl : Value) (dd : Option Addr) (pn : List (Addr × Obj)), Zc cl dd ob → (∃ fs, ob.data = .fields fs) → PSs (X.suite ad ((ad, ob) :: pn)) (st :: sts) (k.ts ad cl dd)) (r : ClsOk X hs l) :
      ClsOk X (.ExceptHandler (some (.Name x q)) (some n) (st :: sts) q' :: hs) (k :: l)
def tTryL (K : PySem.W.Frag) (tb : WX → TS) (l : List Cl) : TS := fun D σ H => tb (wCls K D l) D σ H
section
variable {X : Cx} {body : List Stmt} {h1 : ExceptHandler} {hs : List ExceptHandler} {l : List Cl} {pos : Pos} {tb : WX → TS}
theorem ps_try_cl (es : X.stack = X.env :: X.outer) (ef : X.env.frame = some X.env.locals) (nd : X.N.Nodup)
    (kb : ∀ (W : WX) (pn : List (Addr × Obj)) (xe : Value → Shared → Prop), Takes (X.tr pn xe) W → PassesOwn (model X.prog X.w) X.A X.env xe → PSs (X.tr pn xe) body (tb W)) (kh : ClsOk X (h1 :: hs) l) :
    PS X (.Try body (h1 :: hs) [] [] pos) (tTryL X.K tb l) := by
  refine ⟨fun pins s σ H D I h => ?_⟩
  have hok := I.ok
  have frs1 : X.A.frames = some (X.env :: X.outer) := hok.frames.trans (congrArg some es)
  let XE1 : Value → Shared → Prop := fun u t₁ => wpAny (model X.prog X.w) X.A (noteFrame u X.env) (fun _ t₂ => wpAny (model X.prog X.w) X.A (setFlight u none) (fun _ t₃ => wpAny (model X.prog X.w) X.A (handleBy u X.env (h1 :: hs)) (SP X pins D) X.xe t₃) X.xe t₂) X.xe t₁
  have caught : Takes (X.tr (X.pn ++ pins) XE1) (wCls X.K D l) := by
    intro u t xx
    obtain ⟨ad, Bd, sI, pins', τ, G, cl, dd, rfl, Jt, nb, up, sky, na, os, ag, w⟩ := xx
    have J : Inv X pins τ G sI := Jt.ofTry hok
    have sky1 : Sky Bd (X.env :: X.outer) ad (Zc cl dd) X.env.locals t.heap := es ▸ sky
    show wpAny (model X.prog X.w) X.A (noteFrame (.ref ad) X.env) _ _ _
    refine Sky.land Zc.steady frs1 ef sky1 fun g3 fl up3 => ?_
    have J3 : Inv X pins τ G { t with heap := g3 } := J.landed nb fl.1 (up.trans up3) os ag
    obtain ⟨ob, fs, hob, hz, hd⟩ := fl.there
    have far : ad ∉ frs (X.env :: X.outer) := fun hm => by
      obtain ⟨_, o', e', hnf⟩ := fl.2.2.1.mem hm
      rw [hob] at e'
      cases e'
      exact hnf _ hd
    have nL : ad ≠ X.env.locals := fun z => far (List.mem_filterMap.mpr ⟨X.env, List.mem_cons_self, z ▸ ef⟩)
    have nF : ad ∉ X.fs := fun hm => by
      obtain ⟨e, he, q⟩ := List.mem_filterMap.mp hm
      exact far (List.mem_filterMap.mpr ⟨e, List.mem_cons_of_mem _ he, q⟩)
    have S3 := J3.suite hob hd na nL nF
    have each : ∀ {hds : List ExceptHandler} {ls : List Cl}, ClsOk X hds ls → wCls X.K D ls cl dd τ G → wpAny (model X.prog X.w) X.A (handleBy (.ref ad) X.env hds) (SP X pins D) X.xe { t with heap := g3 } := by
      intro hds ls hk
      induction hk with
      | rest => exact fun z => z.elim
      | @cons x n q q' st sts hs2 k l2 hi hl hc hu r ih =>
        rintro ⟨b, hb, yes, no⟩
        refine wpAny_handleBy_cons (codeAny_handlers_test ?_) (fun z => nomatch z)
        have ty : PySem.W.Looks (model X.prog X.w) g3 (typeOf (.ref ad)) cl := fun _ _ _ _ kk z => wpAny_typeOf_ref (kk _ _ hob) (hz.1.symm ▸ z)
        have mt := PySem.W.exm_one (M := model X.prog X.w) (J3.kIn) ty hb
        have named : ∀ {Q : Value → Shared → Prop} {E : Value → Shared → Prop}, Q k.c { t with heap := g3 } → wpAny (model X.prog X.w) (X.A.mark (some (.ref ad))) (eval (.Name x q) X.env) Q E { t with heap := g3 } := fun {Q E} z => by
          obtain ⟨hg, hdb, hm | ⟨hm, hv, hn⟩⟩ := hc
          · exact ld_glob (X := X.suite ad ((ad, ob) :: (X.pn ++ pins))) S3 hg hm z hdb
          · exact ld_blt (X := X.suite ad ((ad, ob) :: (X.pn ++ pins))) S3 hg hm hv z hn hdb
        refine named (mt.here ?_)
        cases b with
        | false => exact ih (no rfl)
        | true =>
          refine codeAny_handlers_suite_as ?_
          refine HandSPX.lands_againZ fl fun g4 fl4 up4 => ?_
          have J4 : Inv X pins τ G { t with heap := g4 } := J.landed nb fl4.1 ((up.trans up3).trans up4) os ag
          obtain ⟨ob4, fs4, hob4, hz4, hd4⟩ := fl4.there
          have S4 := J4.suite hob4 hd4 na nL nF
          refine store_ok (X := X.suite ad ((ad, ob4) :: (X.pn ++ pins))) (v := .ref ad) S4 nd hi (.inl hl) rfl (fun t5 S5 => ?_) (.inr hl)
          refine wpAny_mono ((hu ad ob4 cl dd (X.pn ++ pins) hz4 ⟨_, hd4⟩).run [] t5 _ G _ S5 (yes rfl ad na)) (fun f t6 hsp => ?_) (fun _ _ z => z.elim)
          have wipes : ∀ {τ6 : L2.St} {G6 : Hp} {Q : Shared → Prop}, Inv (X.suite ad ((ad, ob4) :: (X.pn ++ pins))) [] τ6 G6 t6 → (∀ t7, Inv X pins (τ6.set k.i none) G6 t7 → Q t7) →
              wpAny (model X.prog X.w) X.A (do bindName X.env n .none; unbindBehindTheSuite X.env n q') (fun _ t7 => Q t7) X.xe t6 := fun {τ6 G6 Q} S6 z => gone_ok (S6.unsuite hok) nd hi hl z
          cases f with
          | next => obtain ⟨τ6, G6, S6, z⟩ := hsp; exact wipes S6 fun t7 J7 => ⟨_, _, J7, z⟩
          | brk => obtain ⟨τ6, G6, S6, z⟩ := hsp; exact wipes S6 fun t7 J7 => ⟨_, _, J7, z⟩
          | cont => obtain ⟨τ6, G6, S6, z⟩ := hsp; exact wipes S6 fun t7 J7 => ⟨_, _, J7, z⟩
          | ret u => obtain ⟨v6, τ6, G6, S6, r6, z⟩ := hsp; exact wipes S6 fun t7 J7 => ⟨_, _, _, J7, r6, z⟩
    exact each kh w
  refine wpAny_Try_except (wpAny_mono ((kb (wCls X.K D l) (X.pn ++ pins) XE1 caught PassesOwn.looking).run [] s σ H D (I.toTry _) h) (fun f t1 hsp => ?_) (fun u t1 z => z))
  cases f with
  | next => obtain ⟨τ, G, J, z⟩ := hsp; exact wpAny_execs_nil ⟨τ, G, J.ofTry hok, z⟩
  | brk => obtain ⟨τ, G, J, z⟩ := hsp; exact ⟨τ, G, J.ofTry hok, z⟩
  | cont => obtain ⟨τ, G, J, z⟩ := hsp; exact ⟨τ, G, J.ofTry hok, z⟩
  | ret u => obtain ⟨v, τ, G, J, r, z⟩ := hsp; exact ⟨v, τ, G, J.ofTry hok, r, z⟩
end
end Nm

set_option Elab.async false
set_option linter.all false
set_option maxRecDepth 100000
set_option maxHeartbeats 1000000
namespace Nm
open PySem PySem.Spec L2 PyProof.Rows
section
variable {X : Cx} {CX : CXT} {k : Nat} {C p g : Addr} {mc : Value} {sp : Sp} {E : L2.St → XK}
/-- a class method whose error is caught -/
def tCMethS (C : Addr) (sp : Sp) (E : L2.St → XK) (ta : TE) (t : TA) : TE := fun σ H Q => ClX.tCMeth C sp (E σ) ta t σ H Q
theorem pe_cmethS {fd : FuncData} {ps : List Str} {m : Str} {o e : Expr} {es : List Expr} {ta : TE} {t : TA} {ap pos : Pos} {pl : Sem Bool} (he : PE X o ta) (r : ClX.CRead X.K C mc) (c : ClX.CMet X.K C mc m p g) (G : FnOk X.prog X.w X.K X.mg X.base CX k g fd ps sp) (hb : Binds X.K fd ps []) (hr : Room k X.A) (hx : ∀ σ, PassesAt CX X σ (E σ)) (ha : PA X (e :: es) t)
    (hst : starEach (e :: es) X.env = (false, eval e X.env) :: starEach es X.env := by rfl) (hpl : (backTo pos (starEach es X.env)).any (·.1) = false := by rfl)
    (ht : eval (.Call (.Attribute o m ap) (e :: es) [] pos) X.env = (do
      let w ← eval o X.env
      standAt ap.atName
      let (f, fst) ← holding [w] (getMethod w m pl)
      callWith pos f fst (backTo pos (starEach (e :: es) X.env)) (backToKw pos (keywordEach [] X.env))) := by rfl) : PE X (.Call (.Attribute o m ap) (e :: es) [] pos) (tCMethS C sp E ta t) := by
  have R : FnR X.prog X.w X.K X.mg X.base CX k g sp := (G.raw hb .nil).imp fun vs H Q E h => by rw [List.append_nil]; exact h
  refine ⟨fun pins s σ H Q I h => ?_⟩
  refine PySem.W.methodCall_KW (pl := pl) (thn (he.run pins s σ H _ I h) fun u s1 hh => ?_) ht
  obtain ⟨x, H1, I1, rx, ex, q⟩ := hh
  subst ex
  obtain rfl : u = Value.ref C := rx
  refine ClX.getmethcm_ok I1 r c fun s2 I2 => ?_
  refine ClX.callwith_cm I2 (ClX.base_none I1 (Nat.le_refl _)) c.fi (thn (ha.run pos _ s2 σ H1 _ I2 q) fun us s3 hh => ?_) hst hpl
  obtain ⟨vs, H2, I3, rv, q2⟩ := hh
  refine ⟨⟨ClX.pin_at I3, I3.kIn⟩, ?_⟩
  exact thn (wpAny_call (PySem.W.method_call (ClX.pin_at I3) (run_fnRS (us := .ref C :: us) (vs := .ref C :: vs) R hr (hx σ) I3 (.cons rfl rv) q2))) fun _ _ y => ClX.unpinE y
end
end Nm

set_option Elab.async false
set_option linter.all false
set_option maxRecDepth 100000
set_option maxHeartbeats 2000000
namespace PySem.SeqAt
open AutoSeq1 (wpAny_loadPart')
open MeetsSeq MeetsSeq2 MeetsSeq3 SeqRoads2
section
variable {prog : Program} {w : World}
theorem nm_tupNe (p q : Addr) (us vs : Array Value) (n m : Nat) (dp dq : Option Addr) (sp sq : Array (Option Value)) (f : Nat → Bool) :
    MeetsIn prog w (Builtin.«tuple.__ne__» ⟨[.ref p, .ref q], []⟩)
      (fun A R t => t.heap.get? p = some { cls := .type "tuple", dict := dp, data := .seq us n, slots := sp } ∧ t.heap.get? q = some { cls := .type "tuple", dict := dq, data := .seq vs m, slots := sq } ∧
        (∀ k (k1 : k < us.size) (k2 : k < vs.size), EqIn prog w A.in1 t us[k] vs[k] (f k)) ∧
        R (.ok (.ret (.bool (!((List.range (min us.size vs.size)).all f && us.size == vs.size))))) t) :=
  .of_wp fun A R t hh => by
    obtain ⟨hp, g, d, tk, os⟩ := t
    obtain ⟨gp, gq, ge, gr⟩ := hh
    have tt := AutoSeq1.sub_tuple_tuple
    have zl : (us.toList.zip vs.toList).length = min us.size vs.size := by simp
    wp_walk using wpAny_loadPart' gp, wpAny_loadPart' gq, wpAny_forIn_list _ (fun more c t' => c.1 = none ∧ t' = ⟨hp, g, d, tk, os⟩ ∧ ∃ k, more = (us.toList.zip vs.toList).drop k ∧
      R (.ok (.ret (.bool (!(((List.range (min us.size vs.size)).drop k).all f && us.size == vs.size))))) ⟨hp, g, d, tk, os⟩) _
    case turn =>
      rintro ⟨y, x⟩ more c t' ⟨hc, rfl, k, hz, hr⟩
      have lt : k < (us.toList.zip vs.toList).length := Nat.lt_of_not_le fun z => by
        rw [List.drop_of_length_le z] at hz
        cases hz
      have lm : k < min us.size vs.size := zl ▸ lt
      have k1 : k < us.size := by omega
      have k2 : k < vs.size := by omega
      rw [List.drop_eq_getElem_cons lt] at hz
      injection hz with e1 e2
      obtain rfl : y = us[k] := by simpa using congrArg Prod.fst e1
      obtain rfl : x = vs[k] := by simpa using congrArg Prod.snd e1
      have dr : (List.range (min us.size vs.size)).drop k = k :: (List.range (min us.size vs.size)).drop (k + 1) := by simp [List.drop_eq_getElem_cons, lm]
      rw [dr, List.all_cons] at hr
      refine wpAny_bind (ge k k1 k2 _ _ ?_)
      cases hf : f k with
      | true =>
        rw [hf] at hr
        wp_walk
        exact ⟨rfl, rfl, k + 1, e2, by simpa using hr⟩
      | false =>
        rw [hf] at hr
        wp_walk
        exact ⟨_, rfl, by simpa using hr⟩
    case fin =>
      rintro ⟨c1, c2⟩ t' ⟨hc, rfl, k, hz, hr⟩
      simp only at hc
      subst hc
      have ge' : min us.size vs.size ≤ k := Nat.le_of_not_lt fun z => by
        rw [← zl] at z
        rw [List.drop_eq_getElem_cons z] at hz
        cases hz
      rw [List.drop_of_length_le (by simpa using ge')] at hr
      wp_walk
      exact ⟨_, rfl, by simpa [Builtin.Tuple.tupleCompareSizes, bne] using hr⟩
    case h =>
      exact ⟨rfl, rfl, 0, rfl, by simpa using gr⟩
theorem nm_neTup {A : Around} {s : Shared} {E : Value → Shared → Prop} {p q : Addr} {us vs : Array Value} {f : Nat → Bool} {Q : Value → Shared → Prop} (gp : s.heap.IsTuple p us) (gq : s.heap.IsTuple q vs) (hu : A.units < cLine)
    (ge : ∀ k (k1 : k < us.size) (k2 : k < vs.size), EqIn prog w A.in1 s us[k] vs[k] (f k)) (gr : Q (.bool (!((List.range (min us.size vs.size)).all f && us.size == vs.size))) s) :
    wpAny (model prog w) A (richCompare .NotEq (.ref p) (.ref q)) Q E s := by
  obtain ⟨⟨c1, dp, da, s1⟩, o1, h1, n, d1⟩ := id gp
  obtain ⟨⟨c2, dq, db, s2⟩, o2, h2, m, d2⟩ := id gq
  simp only at h1 d1 h2 d2
  subst h1 d1 h2 d2
  exact wpAny_richCompare_same_room (T := "tuple") (op := .NotEq) ⟨_, o1, rfl⟩ ⟨_, o2, rfl⟩ F.slot_tuple_ne (call_meetsIn F.slot_tuple_ne ⟨_, o1, rfl⟩ F.entry_tuple_ne (F.args_tuple_ne_2 _ _) (nm_tupNe p q us vs n m dp dq s1 s2 f)
    ⟨o1, o2, ge, show Value.bool (!((List.range (min us.size vs.size)).all f && us.size == vs.size)) ≠ Value.notImplemented ∧ Q (.bool (!((List.range (min us.size vs.size)).all f && us.size == vs.size))) s from ⟨(fun z => nomatch z), gr⟩⟩) hu
end
end PySem.SeqAt

set_option Elab.async false
set_option linter.all false
set_option maxRecDepth 100000
set_option maxHeartbeats 2000000
/-! data compared, dicts among it -/
namespace Nm
open PySem PySem.Spec L2
theorem all_T (n : Nat) : ((List.range n).all fun _ => true) = true := List.all_eq_true.mpr fun _ _ => rfl
mutual
def okQ : D → Prop
  | .non => True
  | .bl _ => True
  | .int _ => True
  | .str _ => True
  | .lst ds => okQL ds
  | .tup ds => okQL ds
  | .dic es => (∃ fo : Fo, es = enM txt fo ∧ (fo.map (·.1)).Nodup) ∨ ∃ ma : Ma, es = enM (fun n : Nat => .int (n : Nat)) ma ∧ (ma.map (·.1)).Nodup
  | _ => False
def okQL : List D → Prop
  | [] => True
  | d :: ds => okQ d ∧ okQL ds
end
mutual
def dpq : D → Nat
  | .lst ds => dpqL ds + 1
  | .tup ds => dpqL ds + 1
  | .dic _ => 1
  | _ => 0
def dpqL : List D → Nat
  | [] => 0
  | d :: ds => max (dpq d) (dpqL ds)
end
section
variable {X : Cx} {pins : List (Addr × Obj)} {σ : L2.St} {H F : Hp} {s : Shared}
theorem dic_in {A : Around} {α : Type} [DecidableEq α] {g : α → D} {m : List (Nat × α)} (I : L2.Inv X pins σ H s) (S : Same F H) (hg : Kd g) (hn : (m.map (·.1)).Nodup) {p q : Addr} (h1 : Den X.K F (.ref p) (.dic (enM g m))) (h2 : Den X.K F (.ref q) (.dic (enM g m))) (hu : A.units < cLine) : SeqAt.EqIn X.prog X.w A s (.ref p) (.ref q) true := by
  obtain ⟨a, oa, ka, ea, _, ra, da⟩ := Den.dicR S h1
  obtain ⟨b, ob, kb, eb, _, rb, db⟩ := Den.dicR S h2
  cases ea
  cases eb
  obtain ⟨d1, e1⟩ := dd_of hg ra rb da db
  have e2 := e1.trans (eqM_refl hn)
  have := dd_in (A := A) I d1 (fun _ => e2) hu
  rw [e2] at this
  exact this
mutual
theorem eq_data (I : L2.Inv X pins σ H s) (S : Same F H) : ∀ (d : D) {v u : V} {a b : Value} {A : Around}, Den X.K F v d → Den X.K F u d → okQ d → RelV v a → RelV u b → A.units + dpq d < cLine → SeqAt.EqIn X.prog X.w A s a b true
  | .non, _, _, _, _, _, h1, h2, _, r1, r2, hu => by
    cases h1; cases h2; cases r1; cases r2
    exact (PySem.W.EqTree.same (n := 0)).at _ (by simpa [dpq] using hu)
  | .bl x, _, _, _, _, _, h1, h2, _, r1, r2, hu => by
    cases h1; cases h2; cases r1; cases r2
    exact (PySem.W.EqTree.same (n := 0)).at _ (by simpa [dpq] using hu)
  | .int x, _, _, _, _, _, h1, h2, _, r1, r2, hu => by
    cases h1; cases h2
    obtain ⟨t1, rfl⟩ := r1
    obtain ⟨t2, rfl⟩ := r2
    have := SeqAt.EqAt.inModel (SeqAt.EqAt.int_int (A := by assumption) (s := s) x t1 x t2) X.prog X.w
    rw [show (x == x) = true from by simp] at this
    exact this
  | .str x, _, _, _, _, _, h1, h2, _, r1, r2, hu => by
    cases h1; cases h2
    obtain ⟨t1, rfl⟩ := r1
    obtain ⟨t2, rfl⟩ := r2
    have := SeqAt.EqAt.inModel (SeqAt.EqAt.str_str (A := by assumption) (s := s) x t1 x t2) X.prog X.w
    rw [show (x == x) = true from by simp] at this
    exact this
  | .lst ds, _, _, _, _, A, h1, h2, ok, r1, r2, hu => by
    cases h1 with
    | @lst p xs _ f1 l1 =>
    cases h2 with
    | @lst q ys _ f2 l2 =>
    cases r1; cases r2
    unfold okQ at ok
    have hu' : A.units + 1 + dpqL ds < cLine := by unfold dpq at hu; omega
    by_cases z : p = q
    · subst z
      exact (PySem.W.EqTree.same (n := 0)).at _ (by simp; omega)
    obtain ⟨i1, v1, p1, _⟩ := I.list (SqL.of (S _ _ f1))
    obtain ⟨i2, v2, p2, _⟩ := I.list (SqL.of (S _ _ f2))
    have e1 : i1.length = i2.length := by rw [← v1.length, ← v2.length, l1.length, l2.length]
    refine SeqAt.EqIn.of_refs z fun E Q q => SeqAt.rcIn_lists (e := fun _ => true) p1.isList p2.isList (by simpa using e1) (by omega) (fun j k1 k2 => ?_) (by rw [all_T]; exact q)
    have := eq_dataL I S ds (A := A.in1) l1 l2 ok v1 v2 (show A.units + 1 + dpqL ds < cLine from hu') j (by simpa using k1) (by simpa using k2)
    simpa using this
  | .tup ds, _, _, _, _, A, h1, h2, ok, r1, r2, hu => by
    cases h1 with
    | @tup p xs _ f1 l1 =>
    cases h2 with
    | @tup q ys _ f2 l2 =>
    cases r1; cases r2
    unfold okQ at ok
    have hu' : A.units + 1 + dpqL ds < cLine := by unfold dpq at hu; omega
    by_cases z : p = q
    · subst z
      exact (PySem.W.EqTree.same (n := 0)).at _ (by simp; omega)
    obtain ⟨i1, v1, p1, _⟩ := I.tuple (same_t S f1)
    obtain ⟨i2, v2, p2, _⟩ := I.tuple (same_t S f2)
    have e1 : i1.length = i2.length := by rw [← v1.length, ← v2.length, l1.length, l2.length]
    refine SeqAt.EqIn.of_refs z fun E Q q => SeqAt.rcIn_tuples (e := fun _ => true) p1 p2 (by omega) (fun j k1 k2 => ?_) (by rw [all_T]; simpa [e1] using q)
    have := eq_dataL I S ds (A := A.in1) l1 l2 ok v1 v2 (show A.units + 1 + dpqL ds < cLine from hu') j (by simpa using k1) (by simpa using k2)
    simpa using this
  | .dic es, _, _, _, _, A, h1, h2, ok, r1, r2, hu => by
    unfold okQ at ok
    have hu' : A.units < cLine := by unfold dpq at hu; omega
    obtain ⟨p, _, _, rfl, _⟩ := Den.dicR S h1
    obtain ⟨q, _, _, rfl, _⟩ := Den.dicR S h2
    cases r1; cases r2
    rcases ok with ⟨fo, rfl, hn⟩ | ⟨ma, rfl, hn⟩
    · exact dic_in I S kd_txt hn h1 h2 hu'
    · exact dic_in I S kd_int hn h1 h2 hu'
  | .obj _ _, _, _, _, _, _, _, _, ok, _, _, _ => by unfold okQ at ok; exact ok.elim
  | .ty _, _, _, _, _, _, _, _, ok, _, _, _ => by unfold okQ at ok; exact ok.elim
  | .cls _, _, _, _, _, _, _, _, ok, _, _, _ => by unfold okQ at ok; exact ok.elim
theorem eq_dataL (I : L2.Inv X pins σ H s) (S : Same F H) : ∀ (ds : List D) {vs us : List V} {as bs : List Value} {A : Around}, DenL X.K F vs ds → DenL X.K F us ds → okQL ds → Vals vs as → Vals us bs → A.units + dpqL ds < cLine → ∀ (j : Nat) (k1 : j < as.length) (k2 : j < bs.length), SeqAt.EqIn X.prog X.w A s as[j] bs[j] true
  | [], _, _, _, _, _, h1, h2, _, r1, r2, _, j, k1, _ => by
    cases h1; cases r1
    cases k1
  | d :: ds, _, _, _, _, A, h1, h2, ok, r1, r2, hu, j, k1, k2 => by
    cases h1 with
    | cons a1 t1 =>
    cases h2 with
    | cons a2 t2 =>
    cases r1 with
    | cons c1 w1 =>
    cases r2 with
    | cons c2 w2 =>
    unfold okQL at ok
    unfold dpqL at hu
    cases j with
    | zero => exact eq_data I S d a1 a2 ok.1 c1 c2 (by omega)
    | succ j => exact eq_dataL I S ds t1 t2 ok.2 w1 w2 (by omega) j (by simpa using k1) (by simpa using k2)
end
end
/-- == and != of two that are worth the same -/
def rEqQ (K : PySem.W.Frag) : R2 := fun x y H Q => ∃ F d, Same F H ∧ Den K F x d ∧ Den K F y d ∧ okQ d ∧ dpq d ≤ 60 ∧ isListQ d = true ∧ Q (.bl true) H
where isListQ : D → Bool | .lst _ => true | .tup _ => true | _ => false
def rNeQ (K : PySem.W.Frag) : R2 := fun x y H Q => ∃ F d, Same F H ∧ Den K F x (.tup d) ∧ Den K F y (.tup d) ∧ okQL d ∧ dpqL d ≤ 60 ∧ Q (.bl false) H
def rNeTwo (K : PySem.W.Frag) : R2 := fun x y H Q => ∃ t t' a a' b b' ka kb ka' kb', x = .ref t ∧ y = .ref t' ∧ SqT K H t [.ref a, .ref b] ∧ SqT K H t' [.ref a', .ref b'] ∧ DD H a a' ka ka' ∧ DD H b b' kb kb' ∧
  (a = a' → (ka.length == ka'.length && eqK ka ka') = true) ∧ (b = b' → (kb.length == kb'.length && eqK kb kb') = true) ∧ Q (.bl (!((ka.length == ka'.length && eqK ka ka') && (kb.length == kb'.length && eqK kb kb')))) H
section
variable {X : Cx}
theorem op_eqQ (hu : X.A.units + 64 < cLine) : OpR X (compareOp .Eq) (rEqQ X.K) := by
  intro pins s σ H x y v u Q I rx ry h
  obtain ⟨F, d, S, h1, h2, ok, dq, isl, q⟩ := h
  cases d with
  | lst ds =>
    cases h1 with
    | @lst p xs _ f1 l1 =>
    cases h2 with
    | @lst r ys _ f2 l2 =>
    cases rx; cases ry
    unfold okQ at ok
    unfold dpq at dq
    obtain ⟨i1, v1, p1, _⟩ := I.list (SqL.of (S _ _ f1))
    obtain ⟨i2, v2, p2, _⟩ := I.list (SqL.of (S _ _ f2))
    have e1 : i1.length = i2.length := by rw [← v1.length, ← v2.length, l1.length, l2.length]
    show wpAny _ _ (richCompare .Eq _ _) _ _ _
    refine SeqAt.rcIn_lists (e := fun _ => true) p1.isList p2.isList (by simpa using e1) (by omega) (fun j k1 k2 => ?_) (fin_bl I q (by rw [all_T]))
    have := eq_dataL I S ds (A := X.A.in1) l1 l2 ok v1 v2 (show X.A.units + 1 + dpqL ds < cLine by omega) j (by simpa using k1) (by simpa using k2)
    simpa using this
  | tup ds =>
    cases h1 with
    | @tup p xs _ f1 l1 =>
    cases h2 with
    | @tup r ys _ f2 l2 =>
    cases rx; cases ry
    unfold okQ at ok
    unfold dpq at dq
    obtain ⟨i1, v1, p1, _⟩ := I.tuple (same_t S f1)
    obtain ⟨i2, v2, p2, _⟩ := I.tuple (same_t S f2)
    have e1 : i1.length = i2.length := by rw [← v1.length, ← v2.length, l1.length, l2.length]
    show wpAny _ _ (richCompare .Eq _ _) _ _ _
    refine SeqAt.rcIn_tuples (e := fun _ => true) p1 p2 (by omega) (fun j k1 k2 => ?_) (fin_bl I q (by rw [all_T]; simp [e1]))
    have := eq_dataL I S ds (A := X.A.in1) l1 l2 ok v1 v2 (show X.A.units + 1 + dpqL ds < cLine by omega) j (by simpa using k1) (by simpa using k2)
    simpa using this
  | _ => cases isl
theorem op_neQ (hu : X.A.units + 64 < cLine) : OpR X (compareOp .NotEq) (rNeQ X.K) := by
  intro pins s σ H x y v u Q I rx ry h
  obtain ⟨F, ds, S, h1, h2, ok, dq, q⟩ := h
  cases h1 with
  | @tup p xs _ f1 l1 =>
  cases h2 with
  | @tup r ys _ f2 l2 =>
  cases rx; cases ry
  obtain ⟨i1, v1, p1, _⟩ := I.tuple (same_t S f1)
  obtain ⟨i2, v2, p2, _⟩ := I.tuple (same_t S f2)
  have e1 : i1.length = i2.length := by rw [← v1.length, ← v2.length, l1.length, l2.length]
  show wpAny _ _ (richCompare .NotEq _ _) _ _ _
  refine SeqAt.nm_neTup (f := fun _ => true) p1 p2 (by omega) (fun j k1 k2 => ?_) (fin_bl I q (by rw [all_T]; simp [e1]))
  have := eq_dataL I S ds (A := X.A.in1) l1 l2 ok v1 v2 (show X.A.units + 1 + dpqL ds < cLine by omega) j (by simpa using k1) (by simpa using k2)
  simpa using this
theorem op_neTwo (hu : X.A.units + 2 < cLine) : OpR X (compareOp .NotEq) (rNeTwo X.K) := by
  intro pins s σ H x y v u Q I rx ry h
  obtain ⟨t, t', a, a', b, b', ka, kb, ka', kb', rfl, rfl, ht, ht', d1, d2, i1, i2, q⟩ := h
  obtain rfl : v = Value.ref t := rx
  obtain rfl : u = Value.ref t' := ry
  obtain ⟨its, r1, p1, _⟩ := I.tuple ht
  obtain ⟨its', r2, p2, _⟩ := I.tuple ht'
  obtain ⟨u1, u2, rfl, e1, e2⟩ := r1.two
  obtain ⟨w1, w2, rfl, f1, f2⟩ := r2.two
  cases (show u1 = Value.ref a from e1)
  cases (show u2 = Value.ref b from e2)
  cases (show w1 = Value.ref a' from f1)
  cases (show w2 = Value.ref b' from f2)
  show wpAny _ _ (richCompare .NotEq _ _) _ _ _
  refine SeqAt.nm_neTup (f := fun j => if j = 0 then (ka.length == ka'.length && eqK ka ka') else (kb.length == kb'.length && eqK kb kb')) p1 p2 (by omega) (fun j h1 h2 => ?_) ?_
  · have hj : j = 0 ∨ j = 1 := by simp at h1; omega
    rcases hj with rfl | rfl
    · exact dd_in I d1 i1 (by show X.A.units + 1 < cLine; omega)
    · exact dd_in I d2 i2 (by show X.A.units + 1 < cLine; omega)
  · exact fin_bl I q (by simp [List.range, List.range.loop])
/-- == and != of anything that this law compares -/
def rEqZ (K : PySem.W.Frag) : R2 := fun x y H Q => rEqA K x y H Q ∨ rEqQ K x y H Q
def rNeZ (K : PySem.W.Frag) : R2 := fun x y H Q => rNeA K x y H Q ∨ rNeQ K x y H Q ∨ rNeTwo K x y H Q
theorem o_eqZ (hu : X.A.units + 64 < cLine) : OpR X (compareOp .Eq) (rEqZ X.K) := opr_or (o_eq hu) (op_eqQ hu)
theorem o_neZ (hu : X.A.units + 64 < cLine) : OpR X (compareOp .NotEq) (rNeZ X.K) := opr_or (o_ne hu) (opr_or (op_neQ hu) (op_neTwo (by omega)))
end
section
variable {K : PySem.W.Frag}
theorem rv_eqZ {d : D} (ok : okQ d) (dq : dpq d ≤ 60) (il : rEqQ.isListQ d = true) : RvD K (rEqZ K) d d (.bl true) := fun F H x y s hx hy Q q => .inr ⟨F, d, s, hx, hy, ok, dq, il, q _ F H (Ext.refl s) (.bl _)⟩
theorem rv_neZ {ds : List D} (ok : okQL ds) (dq : dpqL ds ≤ 60) : RvD K (rNeZ K) (.tup ds) (.tup ds) (.bl false) := fun F H x y s hx hy Q q => .inr (.inl ⟨F, ds, s, hx, hy, ok, dq, q _ F H (Ext.refl s) (.bl _)⟩)
theorem rv_neStr {i j : Str} : RvD K (rNeZ K) (.str i) (.str j) (.bl (!decide (i = j))) := fun F H x y s hx hy Q q => .inl (rvA_ne_str F H x y s hx hy Q q)
theorem rv_neRule {fo fo' : Fo} {ma ma' : Ma} (hf : (fo.map (·.1)).Nodup) (hm : (ma.map (·.1)).Nodup) : RvD K (rNeZ K) (ruleD fo ma) (ruleD fo' ma') (.bl (!(eqM fo fo' && eqM ma ma'))) := fun F H x y s hx hy Q q => by
  obtain ⟨t, xs, rfl, st, l⟩ := tup_of hx
  obtain ⟨t', ys, rfl, st', l'⟩ := tup_of hy
  obtain ⟨v1, v2, rfl, h1, h2⟩ := two_of l
  obtain ⟨w1, w2, rfl, g1, g2⟩ := two_of l'
  obtain ⟨a, oa, ka, rfl, fa, ra, da⟩ := Den.dicR s h1
  obtain ⟨b, ob, kb, rfl, fb, rb, db⟩ := Den.dicR s h2
  obtain ⟨a', oa', ka', rfl, fa', ra', da'⟩ := Den.dicR s g1
  obtain ⟨b', ob', kb', rfl, fb', rb', db'⟩ := Den.dicR s g2
  obtain ⟨d1, e1⟩ := dd_of (m := fo) (m' := fo') kd_txt ra ra' da da'
  obtain ⟨d2, e2⟩ := dd_of (m := ma) (m' := ma') kd_int rb rb' db db'
  have i1 : a = a' → eqM fo fo' = true := fun z => by
    rw [← z, fa] at fa'
    have ek : ka = ka' := by injection fa' with h; injection h with h1 h2; injection h2
    rw [← ek] at da'
    rw [← denK_fun (m := fo) (m' := fo') kd_txt da da']
    exact eqM_refl hf
  have i2 : b = b' → eqM ma ma' = true := fun z => by
    rw [← z, fb] at fb'
    have ek : kb = kb' := by injection fb' with h; injection h with h1 h2; injection h2
    rw [← ek] at db'
    rw [← denK_fun (m := ma) (m' := ma') kd_int db db']
    exact eqM_refl hm
  refine .inr (.inr ⟨t, t', a, a', b, b', ka, kb, ka', kb', rfl, rfl, same_t s st, same_t s st', d1, d2, fun z => e1.trans (i1 z), fun z => e2.trans (i2 z), ?_⟩)
  rw [e1, e2]
  exact q _ F H (Ext.refl s) (.bl _)
end
end Nm

set_option Elab.async false
set_option linter.all false
set_option maxRecDepth 100000
set_option maxHeartbeats 4000000
/-! an own error, directly under a built-in class other than ValueError, whose __init__ stores a field -/
namespace PySem
namespace NmOx
open PySem.W PySem.Calls PyProof.Rows PySem.HandSPX Builtin Builtin.ObjectAttr
structure EB (newId : String) (tl : List Value) : Prop where
  fact : ∃ B initId, ExcBaseFacts B newId initId tl
  pass : ∀ self, refuseLoop self "__setattr__" tl = pure ()
  ob : tl.contains (.type "object") = true
theorem eb_over : EB "OverflowError.__new__" [.type "OverflowError", .type "ArithmeticError", .type "Exception", .type "BaseException", .type "object"] := ⟨⟨_, _, F.excBase_OverflowError⟩, fun self => by kernel_rfl, by decide +kernel⟩
theorem osaB {prog : Program} {w : World} {A : Around} {R : Result → Shared → Prop} {h0 : Heap} {gn : Array GenState} {dr : Drawn} {tk0 : Nat} {ost : OsState} {K : W.Frag} {fn : Str} {tf : Tok} {val : Value} {ea Cl : Addr} {flds : Array Value} {cdt : ClassData} {newId : String} {tl : List Value}
    (KI : K.In h0) (eb : EB newId tl) (hget : h0.get? ea = some { cls := .ref Cl, data := .fields flds }) (hcl : W.clsIn K Cl = some cdt) (hmro : cdt.mro = .ref Cl :: tl) (hdict : cdt.hasDict = true) (hnone : W.findIn K (.ref Cl) fn = some none)
    (done : ∀ h1 tk1 dx, (∀ b o, b ≠ ea → h0.get? b = some o → h1.get? b = some o) → h0.objs.size ≤ dx → dx ≠ ea → h1.get? ea = some { cls := .ref Cl, dict := some dx, data := .fields flds } → h1.Ns1 dx (fun y => if y = fn then some val else none) → R (.ok (.ret .none)) ⟨h1, gn, dr, tk1, ost⟩) :
    codeAny (model prog w) A (.call (.builtin "object.__setattr__") ⟨[.ref ea, .str fn tf, val], []⟩) R ⟨h0, gn, dr, tk0, ost⟩ := by
  have inst : W.InstAt h0 ea { cls := .ref Cl, data := .fields flds } Cl none := ⟨hget, rfl, rfl, trivial⟩
  have fo := F.store_object
  have mob : cdt.mro.contains (.type "object") = true := by rw [hmro, List.contains_cons, eb.ob]; rfl
  have mne : cdt.mro.isEmpty = false := by rw [hmro]; rfl
  have apart : ea ≠ h0.objs.size := Nat.ne_of_lt (Heap.lt_size hget)
  have isob : W.Looks (model prog w) h0 (isInstance (.ref ea) (.type "object")) true := inst.type.andThen (W.looks_mroIn KI (by unfold W.mroIn; rw [hcl, Option.bind_some, if_neg (by rw [mne]; decide), mob]))
  refine codeAny_call_builtin fo.slot.plain fo.entry (@W.check_slot (model prog w) _ _ ⟨h0, gn, dr, tk0, ost⟩ "object.__setattr__" "object" "__setattr__" (.ref ea) [.str fn tf, val] [] _ fo.kind fo.split isob (fo.args (.ref ea) (.str fn tf) val) ?_)
  have lm : W.Looks (model prog w) h0 (mroOf (.ref Cl)) cdt.mro := (W.looks_clsIn KI hcl).andThen .now
  have lt3 : W.Looks (model prog w) h0 (storeTaker? none) none := .now
  have lcd : W.Looks (model prog w) h0 (classData Cl) cdt := W.looks_clsIn KI hcl
  rw [W.osa_eq, refuse_eq]
  refine wpAny_bind (wpAny_bind (inst.type.at (wpAny_bind (lm.at ?_))))
  rw [hmro, refuseLoop_ref, eb.pass]
  refine wpAny_pure (wpAny_bind (inst.type.at (wpAny_bind ((W.looks_findIn KI hnone).at (wpAny_bind (lt3.at ?_))))))
  show wpAny _ _ (storeInOwnDict (.ref ea) (.ref Cl) (.str fn tf) fn val false) _ _ _
  obtain ⟨c1, c2, c3, c4, c5, c6, c7, c8, c9, c10, c11⟩ := cdt
  dsimp only at hdict
  subst hdict
  unfold storeInOwnDict ownDictForStores
  repeat (first | with_reducible refine store_in_new ?_ ?_ | with_reducible refine wpAny_loadPart_at hget ?_ | with_reducible refine lcd.at ?_ | wp_step)
  · exact ⟨_, #[], _, (Heap.get?_update_ne _ _ _ _ apart.symm).trans (Heap.get?_push_at rfl rfl), rfl, fun e he => absurd he (by simp), fun _ => rfl⟩
  · intro h1 tk1 ns1 sb1
    have got : (h0.push { cls := .type "dict", data := .dict #[] }).get? ea = some { cls := .ref Cl, data := .fields flds } := Heap.get?_push_of_some _ hget
    refine done h1 tk1 h0.objs.size (fun b o hb ho => ?_) (Nat.le_refl _) apart.symm ?_ ns1
    · exact (sb1.2 b (Nat.ne_of_lt (Heap.lt_size ho))).trans ((Heap.get?_update_ne _ _ _ _ hb).trans (Heap.get?_push_of_some _ ho))
    · exact (sb1.2 ea apart).trans (Heap.get?_update_self _ got rfl)
end NmOx
end PySem
namespace Nm
open PySem PySem.Spec L2 PyProof.Rows
/-- what the written part says of such a class -/
structure OexG (K : PySem.W.Frag) (C : Addr) : Prop where
  cls : ∃ nm q N bs bm sn sub ab col dd k0 k1 k2 k3 k5 newId, K.lookup C = some (excClassObj nm q C N bs bm true sn sub ab col dd k0 k1 k2 k3 k5 newId) ∧ NmOx.EB newId bm
  sa : PySem.W.findIn K (.ref C) "__setattr__" = some (some (.builtin "object.__setattr__"))
  exC : PySem.W.subIn K (.ref C) (.type "BaseException") = some true
  tyC : PySem.W.typeIn K (.ref C) = some (.type "type")
  kC : PySem.W.keepIn K (.ref C) = true
section
variable {X : Cx} {pins : List (Addr × Obj)} {σ : L2.St} {H : Hp} {s : Shared} {a C : Addr} {f : Str} {y : V} {u : Value} {Q : Unit → Shared → Prop} {E : Value → Shared → Prop} {A : Around}
theorem ost_newG (T : OexG X.K C) (I : L2.Inv X pins σ H s) (e : H a = some (exo a C none)) (hno : PySem.W.findIn X.K (.ref C) f = some none) (ry : RelV y u)
    (k : ∀ dx s', H dx = none → dx ≠ a → L2.Inv X pins σ (upd (upd H dx (exd dx [(f, y)])) a (exo a C (some dx))) s' → Q () s') : wpAny (model X.prog X.w) A (setAttr (.ref a) f u) Q E s := by
  obtain ⟨n1, n2, n3, n4, n5, n6, n7, n8, n9, n10, m1, m2, m3, m4, m5, nid, lkC, eb⟩ := T.cls
  have cin : PySem.W.clsIn X.K C = some { name := n1, bases := n4, mro := .ref C :: n5, ns := n3, qualname := n2, hasDict := true, slotNames := n6, subclasses := n7, abstract := n8, collection := n9, hasDel := false } := by unfold PySem.W.clsIn; rw [lkC] <;> rfl
  obtain ⟨t1, at1⟩ := exo_at I.hok e
  obtain ⟨hp, gg, dw, tt, oo⟩ := s
  refine PySem.W.set_plain I.kIn (ox := { cls := .ref C, dict := none, data := .fields #[.ref t1, .none, .none, .none, .bool false, .none] }) (od := none) ⟨at1, rfl, rfl, trivial⟩ T.sa ?_
  refine NmOx.osaB I.kIn eb at1 cin rfl rfl hno (fun h1 tk1 dx keep fresh dne get1 ns1 => ?_)
  have dnone : H dx = none := I.hok.fresh fresh
  have off : ∀ {b : Addr} {o : Obj}, hp.get? b = some o → b ≠ dx := fun {b o} z => Nat.ne_of_lt (Nat.lt_of_lt_of_le (Heap.lt_size z) fresh)
  have offa : ∀ {b : Addr}, H b = none → b ≠ a := fun {b} z zz => by rw [zz, e] at z; cases z
  have un : Un X.fs [] H (upd (upd H dx (exd dx [(f, y)])) a (exo a C (some dx))) hp h1 := {
    keep := fun b o z n _ _ => keep b o (offa n) z
    slot := fun b o z n _ _ => ⟨o.slots, keep b o (offa n) z⟩
    free := fun b o z n _ => by rw [upd_ne (offa n), upd_ne (off z)]; exact n
    there := fun b o z _ => by
      by_cases hb : b = a
      · exact hb ▸ ⟨_, get1⟩
      · exact ⟨o, keep b o hb z⟩
    tups := fun b xs z => by rw [upd_ne (at_ne e z exo_tup), upd_ne (ne_of_none z dnone), z]
    frzs := fun b o v z => by rw [upd_ne (at_ne e z exo_frz), upd_ne (ne_of_none z dnone), z]
    tbls := fun b ps z => ⟨#[], by rw [upd_ne (at_ne e z exo_tbl), upd_ne (ne_of_none z dnone), z]; simp⟩ }
  refine k dx _ dnone dne (I.un (t' := tk1) un fun b o z => ?_)
  by_cases hb : b = a
  · subst hb; rw [upd_same] at z; cases z; exact exo_ok get1
  rw [upd_ne hb] at z
  by_cases hd : b = dx
  · subst hd; rw [upd_same] at z; cases z; exact exd_ok ns1 (relO_put (fs := []) ry fun g => True.intro)
  rw [upd_ne hd] at z
  refine (I.hok b o z).stay (fun c v hc zz => keep c v ?_ zz) (fun c hc => by rw [upd_ne (at_ne e hc exo_own), upd_ne (ne_of_none hc dnone), hc]) fun c xs hc => by rw [upd_ne (at_ne e hc exo_tup), upd_ne (ne_of_none hc dnone), hc]
  rcases hc with hc | hc
  · rw [hc]; exact hb
  · exact at_ne e hc exo_own
/-- self.f = e, the only field -/
def tOstG (K : PySem.W.Frag) (f : Str) (to te : TE) : TS := fun D σ H => te σ H fun y H1 => to σ H1 fun x H2 => ∃ a C : Addr, x = .ref a ∧ OexG K C ∧ PySem.W.findIn K (.ref C) f = some none ∧
  H2 a = some (exo a C none) ∧ ∀ dx, H2 dx = none → dx ≠ a → D.nx σ (upd (upd H2 dx (exd dx [(f, y)])) a (exo a C (some dx)))
theorem ps_ostG {o ex : Expr} {to te : TE} {p' pos : Pos} (ho : PE X o to) (he : PE X ex te) (hs : swapsWith ex (some (.Attribute o f p')) pos.line X.env = pure false := by rfl) : PS X (.Assign [.Attribute o f p'] ex pos) (tOstG X.K f to te) := by
  refine ⟨fun pins s σ H D I h => ?_⟩
  refine plainObj_wpAny_Assign_Attribute (thn (he.run pins s σ H _ I h) fun v s1 ⟨yy, H1, I1, r1, q1⟩ => thn (ho.run pins s1 σ H1 _ I1 q1) fun uu s2 ⟨xx, H2, I2, r2, aa, CC, exx, T, no, hat, q⟩ => ?_) hs
  subst exx
  cases (show uu = Value.ref aa from r2)
  exact ost_newG T I2 hat no r1 fun dx s' n ne J => ⟨σ, _, J, q dx n ne⟩
theorem pmk_oexG {CX : CXT} {x : Str} {fI : Addr} {k : Nat} {fd : FuncData} {ps : List Str} {sp : Sp} {ds : List Value} {dvs : List V} {e : Expr} {es : List Expr} {ta : TA} {p pos : Pos} (T : OexG X.K C) (iC : PySem.W.findIn X.K (.ref C) "__init__" = some (some (.ref fI))) (tI : PySem.W.typeIn X.K (.ref fI) = some (.type "function"))
    (F1 : FnOk X.prog X.w X.K X.mg X.base CX k fI fd ps sp) (hr : Room (k + 1) X.A) (hb : Binds X.K fd ps ds) (hd : Vals dvs ds) (hx : Passes CX X (fun _ _ _ => False)) (hg : Gl X x) (hm : X.mg x = some (.ref C)) (ha : PA X (e :: es) ta)
    (hdb : (x == ("__debug__" : Str)) = false := by decide) (he : starEach (e :: es) X.env = (false, eval e X.env) :: starEach es X.env := by rfl) (hpl : (backTo pos (starEach es X.env)).any (·.1) = false := by rfl) : PMk X (.Call (.Name x p) (e :: es) [] pos) (tMkO C sp dvs ta) := by
  intro pins s σ H Q I hh
  obtain ⟨n1, n2, n3, n4, n5, n6, n7, n8, n9, n10, m1, m2, m3, m4, m5, nid, lkC, eb⟩ := T.cls
  obtain ⟨B, iid, fact⟩ := eb.fact
  refine wpAny_Call_Name_kw (ld_glob I hg hm ?_ hdb)
  refine PySem.W.callWith_K (h₀ := X.base) I.ok.mod.kin T.kC (thn (ha.run pos pins s σ H _ I hh) fun us s1 ⟨vs, H1, I1, rv1, lz, q1⟩ => ⟨I1.kIn, ?_⟩) he hpl
  show wpAny _ _ (call (.ref C) us) _ _ _
  obtain ⟨hp, gg, dw, tt, oo⟩ := s1
  have up1 : hp.objs.size ≤ hp.objs.size + 1 := Nat.le_succ _
  have fr1 : H1 (hp.objs.size + 1) = none := I1.hok.fresh up1
  have hq := q1 (hp.objs.size + 1) fr1
  have stays : ∀ b o, hp.get? b = some o → ((hp.push (PySem.W.kdv_tup us)).push (PySem.HandSPX.excO C hp.objs.size)).get? b = some o := fun b o z => Heap.get?_push_of_some _ (Heap.get?_push_of_some _ z)
  have born : ((hp.push (PySem.W.kdv_tup us)).push (PySem.HandSPX.excO C hp.objs.size)).get? (hp.objs.size + 1) = some (PySem.HandSPX.excO C hp.objs.size) := by heap_get
  have I2 : L2.Inv X pins σ (upd H1 (hp.objs.size + 1) (exo (hp.objs.size + 1) C none)) ⟨(hp.push (PySem.W.kdv_tup us)).push (PySem.HandSPX.excO C hp.objs.size), gg, dw, tt, oo⟩ :=
    I1.laid (t' := tt) (a := hp.objs.size + 1) (o := exo (hp.objs.size + 1) C none) (h' := (hp.push (PySem.W.kdv_tup us)).push (PySem.HandSPX.excO C hp.objs.size)) stays up1 (exo_ok born)
  have rv2 : Vals (V.ref (hp.objs.size + 1) :: (vs ++ dvs)) (Value.ref (hp.objs.size + 1) :: (us ++ ds)) := .cons rfl (rv1.append hd)
  have many : (Value.ref (hp.objs.size + 1) :: us ++ ds).length = ps.length := (rv2.length.symm.trans (F1.len _ _ _ _ hq))
  have short : us.length ≤ sizeLine := by rw [← Paired.length rv1, sizeLine_eq]; omega
  refine wpAny_call (PySem.HandSPX.call_own fact (fun Y => rfl) (I1.kIn _ _ lkC) (PySem.W.looks_findIn I1.kIn iC) (fun self => PySem.W.bind_fn I1.kIn self tI) short
    (codeAny_mono (F1.run _ X.stack _ _ ⟨Value.ref (hp.objs.size + 1) :: us, []⟩ (Value.ref (hp.objs.size + 1) :: (us ++ ds)) _ _ (fun _ _ _ => False) (hr.make C us []) (I2.env0.make C us []) (hb _ (Value.ref (hp.objs.size + 1) :: us) I2.kIn many) rv2 hq) fun res s' hres => ?_))
  match res, hres with
  | .error er, hres => exact hx pins σ _ _ er s' I2 hres
  | .ok .next, hres => exact hres.elim
  | .ok .brk, hres => exact hres.elim
  | .ok .cont, hres => exact hres.elim
  | .ok (.ret u), ⟨v, H2, o2, bare, un2, hok2, rvv, ev, d, fs, exa, exdd, dn, q2⟩ =>
    subst ev
    obtain ⟨h2, g2, d2, t2, os'⟩ := s'
    exact ⟨rvv, mk_end (raises_own T.exC T.tyC) I1 up1 stays un2 hok2 o2 bare exa exdd dn q2⟩
end
end Nm

set_option Elab.async false
set_option linter.all false
set_option maxRecDepth 100000
set_option maxHeartbeats 2000000
/-! sorted(texts, key=f) where f gives (length, text): a def of the program, or a lambda -/
namespace Nm
open PySem PySem.Spec L2 PyProof.Rows
def keyD (w : List Nat) : D := .tup [.int (w.length : Nat), txt w]
def keyPy (w : List Nat) : PyData := .tuple [.int (w.length : Nat), .str ⟨w.toArray⟩]
/-- what a call of the key's function gives and keeps -/
def KeyTurn (X : Cx) (pins : List (Addr × Obj)) (σ : L2.St) (H0 : Hp) (s0 : Shared) (f : Value) (w : List Nat) : Prop := ∀ (s' : Shared) (F' H' : Hp) (u : Value), L2.Inv X pins σ H' s' → Same F' H' → Un (frs X.stack) [] H0 H' s0.heap s'.heap → Same H0 H' → RelV (tv w) u →
  wpAny (model X.prog X.w) X.A.in1.in1 (call f [u]) (fun r s'' => ∃ v F'' H'', s''.os = s'.os ∧ AllBare s''.gens ∧ Un (frs X.stack) [] H' H'' s'.heap s''.heap ∧ HOk X.prog X.w H'' s''.heap ∧ RelV v r ∧ Ext [] F' H' F'' H'' ∧ Den X.K F'' v (keyD w)) (fun _ _ => False) s'
/-- the state amid the sort -/
structure Mid (X : Cx) (F H : Hp) (s : Shared) (kS a : Addr) (e1 : Nat) (ws : List (List Nat)) (i : Nat) (s' : Shared) : Prop where
  ex : ∃ F' H' kA e vs, s'.os = s.os ∧ AllBare s'.gens ∧ Un (frs X.stack) [] H H' s.heap s'.heap ∧ HOk X.prog X.w H' s'.heap ∧ Ext [] F H F' H' ∧ s'.heap.get? kS = some (seqObj "list" kA e) ∧ s'.heap.get? a = some (seqObj "list" #[] e1) ∧ H' kS = none ∧ H' a = none ∧
    DenL X.K F' vs ((ws.take i).map keyD) ∧ Vals vs kA.toList
section
variable {X : Cx} {pins : List (Addr × Obj)} {σ : L2.St} {F H H' : Hp} {s s' : Shared} {kS a : Addr} {e e1 : Nat} {ws : List (List Nat)} {f : Value} {us : List Value}
theorem pair_get {α β : Type} {R : α → β → Prop} : ∀ {xs : List α} {ys : List β} {i : Nat} {x : α} {y : β}, Paired R xs ys → xs[i]? = some x → ys[i]? = some y → R x y
  | _, _, _, _, _, .nil, h, _ => by simp at h
  | _, _, 0, _, _, .cons r _, h, g => by simp at h g; subst h g; exact r
  | _, _, i + 1, _, _, .cons _ t, h, g => pair_get (i := i) t (by simpa using h) (by simpa using g)
theorem off_frs (I : L2.Inv X pins σ H s) {b : Addr} (h : s.heap.objs.size ≤ b) : b ∉ frs X.stack := fun hm => by
  rcases List.mem_cons.mp (I.stkSub b hm) with z | z
  · have := I.lt
    rw [← z] at this
    exact absurd (Nat.lt_of_lt_of_le this h) (Nat.lt_irrefl _)
  · exact I.nofs h z
theorem un_upd (u : Un (frs X.stack) [] H H' s.heap s'.heap) {g : Obj → Obj} {b : Addr} (hb : s.heap.objs.size ≤ b) : Un (frs X.stack) [] H H' s.heap (s'.heap.update b g) := by
  have st : ∀ c o, s.heap.get? c = some o → (s'.heap.update b g).get? c = s'.heap.get? c := fun c o z => Heap.get?_update_other _ _ (Nat.ne_of_gt (Nat.lt_of_lt_of_le (Heap.lt_size z) hb))
  exact { keep := fun c o z n hf hx => by rw [st c o z]; exact u.keep c o z n hf hx
          slot := fun c o z n hf hx => by rw [st c o z]; exact u.slot c o z n hf hx
          free := u.free
          there := fun c o z hx => by rw [st c o z]; exact u.there c o z hx
          tups := u.tups, frzs := u.frzs, tbls := u.tbls }
theorem hok_upd {P : Program} {w : World} {h : Heap} (k : HOk P w H h) {g : Obj → Obj} {b : Addr} (hb : H b = none) : HOk P w H (h.update b g) := fun c o z =>
  (k c o z).stay (fun d v hd zz => by
    have ne : d ≠ b := by
      rintro rfl
      rcases hd with hd | hd
      · rw [← hd, hb] at z; cases z
      · rw [hb] at hd; cases hd
    rw [Heap.get?_update_other _ _ (Ne.symm ne)]; exact zz) (fun _ q => q) fun _ _ q => q
theorem vals_each {h : Heap} (I : L2.Inv X pins σ H s) (S : Same F H) : ∀ {ws : List (List Nat)} {vs : List V} {us : List Value}, DenL X.K F vs (ws.map keyD) → Vals vs us → PySem.W.EachIs (fun v k => ∃ as, Reads s.heap v k as) us (ws.map keyPy)
  | [], _, _, l, r => by cases l; cases r; exact .nil
  | w :: ws, _, _, l, r => by
    cases l with
    | cons d t =>
      cases r with
      | cons r1 r2 =>
        refine .cons ?_ (vals_each (h := h) I S t r2)
        cases d with
        | tup q l2 =>
          cases (show _ = Value.ref _ from r1)
          obtain ⟨its, rv, ⟨o, h1, h2, n, h3⟩, _⟩ := I.tuple (same_t S q)
          cases l2 with
          | cons a1 t1 => cases t1 with
            | cons a2 t2 =>
              cases t2
              cases a1
              cases a2
              cases rv with
              | cons b1 u1 => cases u1 with
                | cons b2 u2 =>
                  cases u2
                  obtain ⟨t1, rfl⟩ := b1
                  obtain ⟨t2, rfl⟩ := b2
                  exact ⟨_, Reads.tuple h1 h2 h3 (.cons (.int _ _) (.cons (.str _ _) .nil))⟩
theorem sort_fold (I : L2.Inv X pins σ H s) (hus : Vals (ws.map tv) us) (turn : ∀ w ∈ ws, KeyTurn X pins σ H s f w) (hk : s.heap.objs.size ≤ kS) (ha : s.heap.objs.size ≤ a) (hka : kS ≠ a) (hz : ws.length ≤ sizeLine) (m : Mid X F H s kS a e1 ws 0 s')
    {P : PySem.Fin → Shared → Prop} {E : Value → Shared → Prop} (done : ∀ s3, Mid X F H s kS a e1 ws ws.length s3 → wpAny (model X.prog X.w) X.A.in1.in1 (do let keys ← Builtin.List.listItems (.ref kS); ksk_end a false us.toArray e1 (.ref kS) keys) P E s3) :
    wpAny (model X.prog X.w) X.A.in1.in1 (ksk_rest a f false us.toArray e1 (.ref kS)) P E s' := by
  have lus : us.length = ws.length := by rw [← Paired.length hus, List.length_map]
  unfold ksk_rest
  refine wpAny_bind (wpAny_rule ?_)
  rw [List.forIn_toArray]
  refine wpAny_bind (ksk_fold (fun i s2 => Mid X F H s kS a e1 ws i s2) us 0 s' m ?_ ?_)
  · rintro j x s2 hx ⟨F2, H2, kA, en, vs, os, bare, un, hok, ext, gk, ga, nk, na, dl, vl⟩
    rw [Nat.zero_add] at dl ⊢
    have hj : j < ws.length := by rw [← lus]; exact (List.getElem?_eq_some_iff.mp hx).1
    have hw : ws[j]? = some ws[j] := List.getElem?_eq_getElem hj
    obtain ⟨y, hy, ry⟩ : ∃ y, (ws.map tv)[j]? = some y ∧ RelV y x := by
      have hj2 : j < (ws.map tv).length := by rw [List.length_map]; exact hj
      exact ⟨_, List.getElem?_eq_getElem hj2, pair_get hus (List.getElem?_eq_getElem hj2) hx⟩
    rw [List.getElem?_map, hw] at hy
    cases hy
    have I2 : L2.Inv X pins σ H2 s2 := I.call' (ch := []) os un hok bare fun b z => absurd z (by simp)
    refine wpAny_bind (wpAny_attempt (wpAny_mono (turn _ (List.getElem_mem hj) s2 F2 H2 x I2 ext.s un ext.same ry) (fun r s3 h3 => ?_) fun _ _ z => z.elim))
    obtain ⟨v, F3, H3, os3, bare3, un3, hok3, rv, ext3, dv⟩ := h3
    have gk3 : s3.heap.get? kS = some (seqObj "list" kA en) := un3.keep kS _ gk nk (off_frs I hk) (by simp)
    have ga3 : s3.heap.get? a = some (seqObj "list" #[] e1) := un3.keep a _ ga na (off_frs I ha) (by simp)
    have nk3 : H3 kS = none := un3.free kS _ gk nk (by simp)
    have na3 : H3 a = none := un3.free a _ ga na (by simp)
    have kl : kA.size = j := by
      have h1 := Paired.length vl
      have h2 := dl.length
      rw [List.length_map, List.length_take] at h2
      have h3 : kA.toList.length = kA.size := Array.length_toList
      rw [Nat.min_eq_left (by omega)] at h2
      omega
    dsimp only
    refine wpAny_bind (listUpdate_at gk3 rfl ?_ (by omega) (by rw [Array.size_push]; omega))
    refine wpAny_pure ⟨rfl, ⟨F3, H3, kA.push r, _, vs ++ [v], os3.trans os, bare3, un_upd (un.trans un3) hk, hok_upd hok3 nk3, ext.tr ext3, get?_update_seq gk3 (·.push r), (Heap.get?_update_other _ _ hka).trans ga3, nk3, na3, ?_, ?_⟩⟩
    · rw [List.take_add_one, hw, List.map_append]
      exact (dl.up ext3.f).append (.cons dv .nil)
    · rw [Array.toList_push]
      exact vl.append (.cons rv .nil)
  · intro s3 m3
    rw [Nat.zero_add, lus] at m3
    exact done s3 m3
def sortW (ws : List (List Nat)) : List (List Nat) := ws.mergeSort (PySem.W.dataLe false keyPy)
theorem each_vals : ∀ {ws : List (List Nat)} {out : List Value}, PySem.W.EachIs (fun v w => RelV (tv w) v) out ws → Vals (ws.map tv) out
  | _, _, .nil => .nil
  | _, _, .cons r t => .cons r (each_vals t)
theorem vals_eachR : ∀ {ws : List (List Nat)} {out : List Value}, Vals (ws.map tv) out → PySem.W.EachIs (fun v w => RelV (tv w) v) out ws
  | [], _, .nil => .nil
  | _ :: _, _, .cons r t => .cons r (vals_eachR t)
theorem keys_alike (ws : List (List Nat)) : PySem.W.AllAlike (ws.map keyPy) := PySem.W.AllAlike.of fun _ _ => by simp [PySem.W.alike, PySem.W.alikeAll, keyPy]
theorem keys_sort (ws : List (List Nat)) : PySem.W.Sortable (ws.map keyPy) := PySem.W.Sortable.tuples fun _ => ⟨_, _, rfl⟩
theorem sort_run {l fa : Addr} (I : L2.Inv X pins σ H s) (S : Same F H) (hs : SqL X.K H l (ws.map tv)) (turn : ∀ w ∈ ws, KeyTurn X pins σ H s (.ref fa) w) (hu : X.A.units + 64 < cLine) {Q : VK}
    (q : ∀ p F' H', H p = none → Ext [] F H F' H' → H' p = none → Q (.ref p) (upd H' p (.lst ((sortW ws).map tv)))) : wpAny (model X.prog X.w) X.A (call (.builtin "sorted") [.ref l] [(Str.ofString "key", .ref fa)]) (EP X pins σ Q) X.xe s := by
  obtain ⟨its, rv, hl, hz⟩ := I.list hs
  have lits : its.length = ws.length := by rw [← Paired.length rv, List.length_map]
  have hz : ws.length ≤ sizeLine := by rw [List.length_map] at hz; exact hz
  refine PySem.W.sorted_of_sort hl.isList (by rw [lits]; exact hz) (ksk_s1 _ _) (fun _ => ksk_l1 _ _) fun E' => ?_
  rw [ksk_t1]
  generalize ea : s.heap.objs.size + 1 = a
  have ho : (PySem.W.copyHeap s.heap its).get? a = some (seqObj "list" its.toArray 0) := by rw [← ea]; exact PySem.W.copyHeap_at _ _
  have csz : (PySem.W.copyHeap s.heap its).objs.size = s.heap.objs.size + 2 := by unfold PySem.W.copyHeap; rw [size_push', Heap.size_update, size_push']
  generalize hc : PySem.W.copyHeap s.heap its = hC at ho csz ⊢
  have old : ∀ b o, s.heap.get? b = some o → hC.get? b = some o := fun b o z => by rw [← hc]; exact PySem.W.copyHeap_old z
  obtain ⟨e1, ho1⟩ : ∃ e1, (hC.update a (Obj.mapSeq fun _ => (#[] : Array Value))).get? a = some (seqObj "list" #[] e1) := ⟨_, get?_update_seq ho fun _ => #[]⟩
  have ksz : ((hC.update a (Obj.mapSeq fun _ => (#[] : Array Value))).push (seqObj "tuple" its.toArray 0)).objs.size = s.heap.objs.size + 3 := by rw [size_push', Heap.size_update, csz]
  unfold ksk_tree
  refine wpAny_bind (listItems_at ho rfl (wpAny_bind (listUpdate_at ho rfl ?_ (by rw [List.size_toArray, lits]; exact hz) (Nat.zero_le _))))
  refine wpAny_bind (seqEpoch_at ho1 rfl (wpAny_bind (wpAny_newTuple ?_ (by show its.length ≤ _; rw [lits]; exact hz))))
  refine wpAny_bind (wpAny_newList (wpAny_holding ?_) (Nat.zero_le _))
  have aS : s.heap.objs.size ≤ a := by rw [← ea]; exact Nat.le_succ _
  have old2 : ∀ b o, s.heap.get? b = some o → (((hC.update a (Obj.mapSeq fun _ => (#[] : Array Value))).push (seqObj "tuple" its.toArray 0)).push (seqObj "list" #[] 0)).get? b = some o := fun b o z => by
    refine Heap.get?_push_of_some _ (Heap.get?_push_of_some _ ?_)
    rw [Heap.get?_update_other _ _ (Nat.ne_of_gt (Nat.lt_of_lt_of_le (Heap.lt_size z) aS))]
    exact old b o z
  have fr : ∀ {b : Addr}, s.heap.objs.size ≤ b → H b = none := fun h => I.hok.fresh h
  have kSz : s.heap.objs.size ≤ ((hC.update a (Obj.mapSeq fun _ => (#[] : Array Value))).push (seqObj "tuple" its.toArray 0)).objs.size := by rw [ksz]; omega
  refine sort_fold (s := s) (s' := { s with heap := ((hC.update a (Obj.mapSeq fun _ => (#[] : Array Value))).push (seqObj "tuple" its.toArray 0)).push (seqObj "list" #[] 0) }) (F := F) (H := H) (e1 := e1) (kS := ((hC.update a (Obj.mapSeq fun _ => (#[] : Array Value))).push (seqObj "tuple" its.toArray 0)).objs.size) I rv turn kSz aS (by rw [ksz, ← ea]; exact Nat.ne_of_gt (Nat.lt_succ_of_lt (Nat.lt_succ_self _))) hz ⟨F, H, #[], 0, [], rfl, I.bare, Un.kept old2, I.hok.kept old2, Ext.refl S, Heap.get?_push_size _ rfl, Heap.get?_push_of_some _ (Heap.get?_push_of_some _ ho1), fr kSz, fr aS, .nil, .nil⟩ fun s3 m3 => ?_
  rw [ksz] at m3 ⊢
  obtain ⟨F3, H3, kA, en, vs, os, bare, un, hok, ext, gk, ga, nk, na, dl, vl⟩ := m3
  rw [List.take_length] at dl
  have I3 : L2.Inv X pins σ H3 s3 := I.call' (ch := []) os un hok bare fun b z => absurd z (by simp)
  refine wpAny_bind (listItems_at gk rfl ?_)
  have hk' := vals_each (h := s3.heap) I3 ext.s dl vl
  have ksl : kA.size = its.length := by
    have h1 := Paired.length vl
    have h2 := dl.length
    have h3 : kA.toList.length = kA.size := Array.length_toList
    rw [List.length_map] at h2
    omega
  have hka : s.heap.objs.size + 3 ≠ a := by omega
  obtain ⟨G, g1, g2⟩ := restrict s3.heap fun b => decide (b ≠ s.heap.objs.size + 3)
  have gkeep : ∀ b, b ≠ s.heap.objs.size + 3 → G.get? b = s3.heap.get? b := fun b hb => g1 b (decide_eq_true hb)
  refine PySem.W.keyH_end (κ := PySem.W.dataKind s3.heap (ws.map keyPy)) (h₁ := G) (s := s3) (fun b o hb z => ?_) (g2 _ (by simp)) gk ga hka (PySem.W.SortsAt.data (s := s3) hk' (keys_alike ws) (keys_sort ws) fun d hd => ?_) ksl (by rw [lits]; exact hz) fun h4 tk4 c keep4 got4 => ⟨rfl, ?_⟩
  · by_cases hb2 : b = s.heap.objs.size + 3
    · rw [hb2, g2 _ (by simp)] at z; cases z
    · rw [← gkeep b hb2]; exact z
  · obtain ⟨w, hw, rfl⟩ := List.mem_map.mp hd
    have : (keyPy w).depth = 1 := by simp [keyPy, PyData.depth, PyData.depthAll]
    rw [this]
    show X.A.units + 1 + 1 + 1 < cLine
    omega
  have rs := each_vals (PySem.W.keyedOut_each (rev := false) (R := fun v w => RelV (tv w) v) keyPy ⟨s3.heap, kA.toList, keys_alike ws, rfl, hk'⟩ (vals_eachR rv))
  have k4 : ∀ b o, b ≠ a → b ≠ s.heap.objs.size + 3 → s3.heap.get? b = some o → h4.get? b = some o := fun b o h1 h2 z => keep4 b o h1 ((gkeep b h2).trans z)
  have low : ∀ b o, s.heap.get? b = some o → b ≠ a ∧ b ≠ s.heap.objs.size + 3 := fun b o z => by
    have := Heap.lt_size z
    exact ⟨Nat.ne_of_lt (Nat.lt_of_lt_of_le this aS), Nat.ne_of_lt (Nat.lt_of_lt_of_le this (Nat.le_add_right _ _))⟩
  have un4 : Un (frs X.stack) [] H H3 s.heap h4 := {
    keep := fun b o z n hf hx => k4 b o (low b o z).1 (low b o z).2 (un.keep b o z n hf hx)
    slot := fun b o z n hf hx => by
      obtain ⟨sl, y⟩ := un.slot b o z n hf hx
      exact ⟨sl, k4 b _ (low b o z).1 (low b o z).2 y⟩
    free := un.free
    there := fun b o z hx => by
      obtain ⟨o', y⟩ := un.there b o z hx
      exact ⟨o', k4 b _ (low b o z).1 (low b o z).2 y⟩
    tups := un.tups, frzs := un.frzs, tbls := un.tbls }
  have hok4 : HOk X.prog X.w H3 h4 := fun b o z => (hok b o z).stay (fun d v hd zz => by
      have nn : ∀ y : Addr, H3 y = none → d ≠ y := fun y hy => by
        rintro rfl
        rcases hd with hd | hd
        · rw [← hd, hy] at z; cases z
        · rw [hy] at hd; cases hd
      exact k4 d v (nn a na) (nn _ nk) zz) (fun _ y => y) fun _ _ y => y
  have lo : ((sortW ws).map tv).length ≤ sizeLine := by unfold sortW; rw [List.length_map, List.length_mergeSort]; exact hz
  have fin := I.drained (s' := { s3 with heap := h4, toks := tk4 }) (S := a) (ex := []) aS lo got4 rs .nil os bare un4 hok4 na
  exact ⟨.ref a, _, fin, rfl, q a F3 H3 (fr aS) ext na⟩
end
end Nm

set_option Elab.async false
set_option linter.all false
set_option maxRecDepth 100000
set_option maxHeartbeats 2000000
/-! sorted(texts, key=a def of the program that gives (length, text)) -/
namespace Nm
open PySem PySem.Spec L2 PyProof.Rows
/-- a def that gives (length, text), whatever stands in the heap -/
def SpKey (K : PySem.W.Frag) (sp : Sp) (w : List Nat) : Prop := ∀ F' H', Same F' H' → ∀ Q' : VK, (∀ v F'' H'', Ext [] F' H' F'' H'' → Den K F'' v (keyD w) → Q' v H'') → sp [tv w] H' Q' E0
def rSortG (K : PySem.W.Frag) (sp : Sp) (fa : Addr) : List V → List V → Hp → VK → Prop := fun vs zs H Q => ∃ F l ws, vs = [V.ref l] ∧ zs = [V.ref fa] ∧ Same F H ∧ SqL K H l (ws.map tv) ∧ (∀ w ∈ ws, SpKey K sp w) ∧
  ∀ p F' H', H p = none → Ext [] F H F' H' → H' p = none → Q (.ref p) (upd H' p (.lst ((sortW ws).map tv)))
section
variable {X : Cx} {pins : List (Addr × Obj)} {σ : L2.St} {k : Nat} {g : Addr} {fd : FuncData} {x : Str} {sp : Sp}
theorem turn_fn {H0 : Hp} {s0 : Shared} (G : FnOk X.prog X.w X.K X.mg X.base CX0 k g fd [x] sp) (hb : Binds X.K fd [x] []) (hr : Room (k + 2) X.A) {w : List Nat} (hs : SpKey X.K sp w) : KeyTurn X pins σ H0 s0 (.ref g) w := fun s' F' H' u I S _ _ ru => by
  have hr2 : Room k X.A.in1.in1 := (show Room (k + 1) X.A.in1 from Room.in1 hr).in1
  refine wpAny_call (codeAny_mono (G.run X.A.in1.in1 X.stack s' H' ⟨[u], []⟩ [u] [tv w] (fun v H'' => ∃ F'', Ext [] F' H' F'' H'' ∧ Den X.K F'' v (keyD w)) E0 hr2 I.env0.in1.in1 (hb s' [u] I.kIn rfl) (.cons ru .nil) (hs F' H' S _ fun v F'' H'' x d => ⟨F'', x, d⟩)) fun res s'' hq => ?_)
  match res, hq with
  | .error e, hq => exact hq.elim
  | .ok (.ret r), ⟨v, H'', os, bare, un, hok, rv, F'', x, d⟩ => exact ⟨v, F'', H'', os, bare, un, hok, rv, x, d⟩
  | .ok .next, hq => exact hq.elim
  | .ok .brk, hq => exact hq.elim
  | .ok .cont, hq => exact hq.elim
theorem c_sortedG (G : FnOk X.prog X.w X.K X.mg X.base CX0 k g fd [x] sp) (hb : Binds X.K fd [x] []) (hr : Room (k + 2) X.A) : CallRK X (.builtin "sorted") [Str.ofString "key"] (rSortG X.K sp g) := by
  rintro pins s σ H xs zs us ws Q I rx rz ⟨F, l, ls, rfl, rfl, S, hs, ht, q⟩
  obtain ⟨u, rfl, ru⟩ := vals1 rx
  cases (show u = Value.ref l from ru)
  obtain ⟨z, rfl, rz'⟩ := vals1 rz
  cases (show z = Value.ref g from rz')
  exact sort_run I S hs (fun w hw => turn_fn G hb hr (ht w hw)) hr.units q
end
section
variable {K : PySem.W.Frag} {F H : Hp} {σ : L2.St} {te : TE} {sp : Sp} {g : Addr}
theorem dtxt_map {ws : List (List Nat)} {vs : List V} (h : DenL K F vs (ws.map txt)) : vs = ws.map tv := by
  induction ws generalizing vs with
  | nil => cases h; rfl
  | cons w ws ih =>
    cases h with
    | cons a b =>
      cases a
      rw [ih b]
      rfl
theorem den_map (ws : List (List Nat)) : DenL K F (ws.map tv) (ws.map txt) := by
  induction ws with
  | nil => exact .nil
  | cons w ws ih => exact .cons (.str _) ih
theorem el_sortG {ws : List (List Nat)} (h : EvD K te σ F (.lst (ws.map txt))) (ht : ∀ w ∈ ws, SpKey K sp w) : EvL K (tCKw (rSortG K sp g) (tCons te tNil) (tCons (tC (.ref g)) tNil)) σ F ((sortW ws).map txt) := fun H S Q q =>
  h H S _ fun v F1 H1 x1 d1 => by
    cases d1 with
    | lst e l =>
      rw [dtxt_map l] at e
      refine ⟨F1, _, ws, rfl, rfl, x1.s, SqL.of (x1.s _ _ e), ht, fun p F2 H2 n x2 n2 => ?_⟩
      exact q p _ F2 _ (x1.back n) ((x1.tr x2).tr (Ext.newM x2.s n2)) ⟨x2.s.free n2, upd_same⟩ (den_map _)
/-- of a list that is one's own -/
theorem sortW_perm (ws : List (List Nat)) : (sortW ws).Perm ws := List.mergeSort_perm ws _
end
end Nm

set_option Elab.async false
set_option linter.all false
set_option maxRecDepth 100000
set_option maxHeartbeats 1000000
namespace Nm
open PySem PySem.Spec
/-- words by their length, then by their signs -/
def leW (a b : List Nat) : Prop := a.length < b.length ∨ (a.length = b.length ∧ a ≤ b)
instance (a b : List Nat) : Decidable (leW a b) := by unfold leW; infer_instance
theorem leW_eq : PySem.W.dataLe false keyPy = fun a b => decide (leW a b) := by
  funext a b
  show (!PySem.W.dataLt (.tuple [.int (b.length : Nat), .str ⟨b.toArray⟩]) (.tuple [.int (a.length : Nat), .str ⟨a.toArray⟩])) = _
  rw [PySem.W.dataLt_pair (by simp [PySem.W.alike]) (by simp [PySem.W.alike]), PySem.W.dataLt_int, PySem.W.dataLt_str]
  simp only [PyData.eqv, beq_iff_eq]
  unfold leW
  by_cases h1 : (b.length : Int) = (a.length : Int)
  · rw [if_pos h1]
    have h1' : a.length = b.length := by omega
    by_cases h2 : b = a
    · subst h2
      simp [h1, List.le_refl]
    · have h3 : ¬ ((⟨b.toArray⟩ : Str) = ⟨a.toArray⟩) := fun z => h2 (by have := congrArg (fun x : Str => x.cps.toList) z; simpa using this)
      rw [if_neg h3]
      by_cases h4 : b < a
      · have : ¬ a ≤ b := fun z => List.not_lt.mpr z h4
        simp [h1', h4, this]
      · have : a ≤ b := List.not_lt.mp h4
        simp [h1', h4, this]
  · rw [if_neg h1]
    by_cases h2 : b.length < a.length
    · have h3 : ¬ a.length < b.length := by omega
      have h4 : ¬ a.length = b.length := by omega
      simp [h2, h3, h4]
    · have h3 : a.length < b.length := by omega
      simp [h2, h3]
theorem leW_trans {a b c : List Nat} (h1 : leW a b) (h2 : leW b c) : leW a c := by
  unfold leW at *
  rcases h1 with h1 | ⟨h1, k1⟩
  · rcases h2 with h2 | ⟨h2, _⟩
    · exact .inl (by omega)
    · exact .inl (by omega)
  · rcases h2 with h2 | ⟨h2, k2⟩
    · exact .inl (by omega)
    · exact .inr ⟨by omega, List.le_trans k1 k2⟩
theorem leW_total (a b : List Nat) : leW a b ∨ leW b a := by
  unfold leW
  rcases Nat.lt_trichotomy a.length b.length with h | h | h
  · exact .inl (.inl h)
  · rcases List.le_total a b with k | k
    · exact .inl (.inr ⟨h, k⟩)
    · exact .inr (.inr ⟨h.symm, k⟩)
  · exact .inr (.inl h)
theorem leW_antisymm {a b : List Nat} (h1 : leW a b) (h2 : leW b a) : a = b := by
  unfold leW at *
  rcases h1 with h1 | ⟨h1, k1⟩
  · rcases h2 with h2 | ⟨h2, _⟩ <;> omega
  · rcases h2 with h2 | ⟨h2, k2⟩
    · omega
    · exact List.le_antisymm k1 k2
theorem sortW_pair (ws : List (List Nat)) : (sortW ws).Pairwise leW := by
  unfold sortW
  rw [leW_eq]
  have h := List.pairwise_mergeSort (le := fun a b => decide (leW a b)) (fun a b c h1 h2 => decide_eq_true (leW_trans (of_decide_eq_true h1) (of_decide_eq_true h2))) (fun a b => by
    rcases leW_total a b with h | h
    · simp [h]
    · simp [h]) ws
  exact h.imp fun h => of_decide_eq_true h
theorem leW_unique : ∀ {xs ys : List (List Nat)}, xs.Perm ys → xs.Pairwise leW → ys.Pairwise leW → xs = ys
  | [], ys, p, _, _ => (List.nil_perm.mp p).symm
  | x :: xs, [], p, _, _ => by simpa using p.length_eq
  | x :: xs, y :: ys, p, h1, h2 => by
    have e : x = y := by
      rw [List.pairwise_cons] at h1 h2
      rcases List.mem_cons.mp (p.mem_iff.mp (List.mem_cons_self (a := x) (l := xs))) with e | m
      · exact e
      · rcases List.mem_cons.mp (p.mem_iff.mpr (List.mem_cons_self (a := y) (l := ys))) with e | m'
        · exact e.symm
        · exact leW_antisymm (h1.1 y m') (h2.1 x m)
    subst e
    rw [leW_unique (List.Perm.cons_inv p) (List.pairwise_cons.mp h1).2 (List.pairwise_cons.mp h2).2]
theorem sortW_congr {xs ys : List (List Nat)} (p : xs.Perm ys) : sortW xs = sortW ys :=
  leW_unique ((sortW_perm xs).trans (p.trans (sortW_perm ys).symm)) (sortW_pair xs) (sortW_pair ys)
theorem sortW_rev (xs : List (List Nat)) : sortW xs.reverse = sortW xs := sortW_congr (List.reverse_perm xs)
/-! ### dividing by keys -/
/-- one more word into its group -/
def addG (f : List Nat → List Nat) (gs : List (List Nat × List (List Nat))) (w : List Nat) : List (List Nat × List (List Nat)) :=
  if gs.any (fun g => decide (g.1 = f w)) then gs.map fun g => if g.1 = f w then (g.1, g.2 ++ [w]) else g else gs ++ [(f w, [w])]
def grp (f : List Nat → List Nat) (ws : List (List Nat)) : List (List Nat × List (List Nat)) := (sortW ws).foldl (addG f) []
end Nm

set_option Elab.async false
set_option linter.all false
set_option maxRecDepth 100000
set_option maxHeartbeats 2000000
/-! d.setdefault(k, []).append(x): a dict of lists, each one's own -/
namespace Nm
open PySem PySem.Spec L2
/-- one more value into its group -/
def addK : List (Str × List D) → Str → D → List (Str × List D)
  | [], k, d => [(k, [d])]
  | g :: r, k, d => if g.1 = k then (g.1, g.2 ++ [d]) :: r else g :: addK r k d
abbrev Row := Str × Addr × List V
def kvR (rows : List Row) : List (Key × V) := rows.map fun r => ((Sum.inr r.1 : Key), V.ref r.2.1)
structure RowOk (K : PySem.W.Frag) (H0 F H : Hp) (p : Addr) (r : Row) (g : Str × List D) : Prop where
  k : r.1 = g.1
  o : Own F H r.2.1 (.lst r.2.2)
  l : DenL K F r.2.2 g.2
  n : H0 r.2.1 = none
  p : r.2.1 ≠ p
structure GrpAt (K : PySem.W.Frag) (H0 F H : Hp) (p : Addr) (rows : List Row) (gs : List (Str × List D)) : Prop where
  o : Own F H p (.dK (kvR rows))
  n : H0 p = none
  r : Paired (RowOk K H0 F H p) rows gs
  d : (rows.map (·.2.1)).Nodup
section
variable {K : PySem.W.Frag} {H0 F0 F H F' H' : Hp} {σ : L2.St} {r : List Sl} {DE : Ends} {p : Addr} {rows : List Row} {gs : List (Str × List D)} {k : Str} {d : D}
theorem RowOk.ext {x : Row} {g : Str × List D} (w : RowOk K H0 F H p x g) (e : Ext [] F H F' H') : RowOk K H0 F' H' p x g := ⟨w.k, w.o.ext0 e, w.l.up e.f, w.n, w.p⟩
theorem GrpAt.ext (w : GrpAt K H0 F H p rows gs) (e : Ext [] F H F' H') : GrpAt K H0 F' H' p rows gs := ⟨w.o.ext0 e, w.n, Paired.mapP w.r fun _ _ q => RowOk.ext q e, w.d⟩
theorem RowOk.upd {x : Row} {g : Str × List D} {q : Addr} {o : HO} (w : RowOk K H0 F H p x g) (e : x.2.1 ≠ q) : RowOk K H0 F (upd H q o) p x g := ⟨w.k, ⟨w.o.f, by rw [upd_ne e]; exact w.o.h⟩, w.l, w.n, w.p⟩
theorem kv_find : ∀ {rows : List Row} {v : V}, valV (kvR rows) (Sum.inr k : Key) = some v → ∃ pre x post, rows = pre ++ x :: post ∧ x.1 = k ∧ v = .ref x.2.1 ∧ ∀ y ∈ pre, y.1 ≠ k
  | [], v, h => by simp [kvR, valV] at h
  | x :: rows, v, h => by
    by_cases e : x.1 = k
    · have : valV (kvR (x :: rows)) (Sum.inr k : Key) = some (.ref x.2.1) := valV_pos (by simp [e])
      rw [this] at h
      cases h
      exact ⟨[], x, rows, rfl, e, rfl, by simp⟩
    · have : valV (kvR (x :: rows)) (Sum.inr k : Key) = valV (kvR rows) (Sum.inr k : Key) := valV_neg (by simpa using e)
      rw [this] at h
      obtain ⟨pre, y, post, rfl, h2, h3, h4⟩ := kv_find h
      exact ⟨x :: pre, y, post, rfl, h2, h3, fun z hz => by
        rcases List.mem_cons.mp hz with rfl | hz
        · exact e
        · exact h4 z hz⟩
theorem kv_no : ∀ {rows : List Row}, valV (kvR rows) (Sum.inr k : Key) = none → ∀ y ∈ rows, y.1 ≠ k
  | [], _ => by simp
  | x :: rows, h => by
    by_cases e : x.1 = k
    · have : valV (kvR (x :: rows)) (Sum.inr k : Key) = some (.ref x.2.1) := valV_pos (by simp [e])
      rw [this] at h
      cases h
    · have : valV (kvR (x :: rows)) (Sum.inr k : Key) = valV (kvR rows) (Sum.inr k : Key) := valV_neg (by simpa using e)
      rw [this] at h
      intro y hy
      rcases List.mem_cons.mp hy with rfl | hy
      · exact e
      · exact kv_no h y hy
theorem pair_app {α β : Type} {R : α → β → Prop} : ∀ {xs : List α} {x : α} {ys : List α} {zs : List β}, Paired R (xs ++ x :: ys) zs → ∃ as b bs, zs = as ++ b :: bs ∧ Paired R xs as ∧ R x b ∧ Paired R ys bs
  | [], x, ys, _, .cons h t => ⟨[], _, _, rfl, .nil, h, t⟩
  | y :: xs, x, ys, _, .cons h t => by
    obtain ⟨as, b, bs, rfl, h1, h2, h3⟩ := pair_app t
    exact ⟨_ :: as, b, bs, rfl, .cons h h1, h2, h3⟩
theorem pair_join {α β : Type} {R : α → β → Prop} : ∀ {xs : List α} {ys : List α} {as bs : List β}, Paired R xs as → Paired R ys bs → Paired R (xs ++ ys) (as ++ bs)
  | _, _, _, _, .nil, s => s
  | _, _, _, _, .cons h t, s => .cons h (pair_join t s)
theorem addK_found {k : Str} {d : D} : ∀ {as bs : List (Str × List D)} {g : Str × List D}, (∀ y ∈ as, y.1 ≠ k) → g.1 = k → addK (as ++ g :: bs) k d = as ++ (g.1, g.2 ++ [d]) :: bs
  | [], bs, g, _, e => by simp [addK, e]
  | a :: as, bs, g, h, e => by
    have h1 : a.1 ≠ k := h a (by simp)
    have ih := addK_found (as := as) (bs := bs) (g := g) (k := k) (d := d) (fun y hy => h y (List.mem_cons_of_mem _ hy)) e
    simp [addK, h1, ih]
theorem addK_new {k : Str} {d : D} : ∀ {as : List (Str × List D)}, (∀ y ∈ as, y.1 ≠ k) → addK as k d = as ++ [(k, [d])]
  | [], _ => rfl
  | a :: as, h => by
    have h1 : a.1 ≠ k := h a (by simp)
    have ih := addK_new (as := as) (k := k) (d := d) (fun y hy => h y (List.mem_cons_of_mem _ hy))
    simp [addK, h1, ih]
theorem pair_keys {as : List (Str × List D)} (P : Paired (RowOk K H0 F H p) rows as) (h : ∀ y ∈ rows, y.1 ≠ k) : ∀ y ∈ as, y.1 ≠ k := by
  induction P with
  | nil => simp
  | cons a _ ih =>
    intro y hy
    rcases List.mem_cons.mp hy with rfl | hy
    · rw [← a.k]; exact h _ (by simp)
    · exact ih (fun y hy => h y (by simp [hy])) y hy
theorem pair_upd {q : Addr} {o : HO} (P : Paired (RowOk K H0 F H p) rows gs) (h : ∀ y ∈ rows, y.2.1 ≠ q) : Paired (RowOk K H0 F (upd H q o) p) rows gs := by
  induction P with
  | nil => exact .nil
  | cons a _ ih => exact .cons (a.upd (h _ (by simp))) (ih fun y hy => h y (by simp [hy]))
theorem pair_row {x : Row} (P : Paired (RowOk K H0 F H p) rows gs) (h : x ∈ rows) : ∃ g ∈ gs, RowOk K H0 F H p x g := by
  induction P with
  | nil => simp at h
  | cons a _ ih =>
    rcases List.mem_cons.mp h with rfl | h
    · exact ⟨_, by simp, a⟩
    · obtain ⟨g, h1, h2⟩ := ih h
      exact ⟨g, by simp [h1], h2⟩
/-- the group that exists grows -/
theorem GrpAt.grow {pre post : List Row} {x : Row} {v : V} (w : GrpAt K H0 F H p (pre ++ x :: post) gs) (hx : x.1 = k) (hp : ∀ y ∈ pre, y.1 ≠ k) (dv : Den K F v d) : GrpAt K H0 F (upd H x.2.1 (.lst (x.2.2 ++ [v]))) p (pre ++ (x.1, x.2.1, x.2.2 ++ [v]) :: post) (addK gs k d) := by
  obtain ⟨as, g, bs, rfl, h1, h2, h3⟩ := pair_app w.r
  have nd := w.d
  rw [List.map_append, List.map_cons, List.nodup_append, List.nodup_cons] at nd
  obtain ⟨_, ⟨n2, _⟩, n3⟩ := nd
  have e1 : ∀ y ∈ pre, y.2.1 ≠ x.2.1 := fun y hy => n3 _ (List.mem_map.mpr ⟨y, hy, rfl⟩) _ (by simp)
  have e2 : ∀ y ∈ post, y.2.1 ≠ x.2.1 := fun y hy z => n2 (z ▸ List.mem_map.mpr ⟨y, hy, rfl⟩)
  rw [addK_found (pair_keys h1 hp) (h2.k.symm.trans hx)]
  refine ⟨⟨w.o.f, ?_⟩, w.n, pair_join (pair_upd h1 e1) (.cons ⟨h2.k, ⟨h2.o.f, upd_same⟩, h2.l.append (.cons dv .nil), h2.n, h2.p⟩ (pair_upd h3 e2)), ?_⟩
  · rw [upd_ne (Ne.symm h2.p), w.o.h]
    simp [kvR]
  · have := w.d
    simpa using this
/-- a new group -/
theorem grp_add {q : Addr} {v : V} (wo : Own F H p (.dK (kvR rows ++ [((Sum.inr k : Key), V.ref q)]))) (wn : H0 p = none) (wr : Paired (RowOk K H0 F H p) rows gs) (wd : (rows.map (·.2.1)).Nodup) (hk : ∀ y ∈ rows, y.1 ≠ k) (dv : Den K F v d) (h0 : H0 q = none)
    (hq : ∀ y ∈ rows, y.2.1 ≠ q) (hp : q ≠ p) (oq : Own F H q (.lst [])) : GrpAt K H0 F (upd H q (.lst [v])) p (rows ++ [(k, q, [v])]) (addK gs k d) := by
  rw [addK_new (pair_keys wr hk)]
  refine ⟨⟨wo.f, ?_⟩, wn, pair_join (pair_upd wr hq) (.cons ⟨rfl, ⟨oq.f, upd_same⟩, .cons dv .nil, h0, hp⟩ .nil), ?_⟩
  · rw [upd_ne (Ne.symm hp), wo.h]
    simp [kvR]
  · rw [List.map_append, List.nodup_append]
    refine ⟨wd, by simp, fun a ha b hb => ?_⟩
    obtain ⟨y, hy, rfl⟩ := List.mem_map.mp ha
    simp at hb
    subst hb
    exact hq y hy
/-- d.setdefault(k, []).append(x) -/
theorem s_setd {M : List Addr} {i : Nat} {ty tn : TE} (S : Same F H) (E : EnvD K F r σ) (hi : r[i]? = some (.v (.ref p))) (x0 : Ext M F0 H0 F H) (w : GrpAt K H0 F H p rows gs) (hy : EvD K ty σ F (.str k)) (hn : EvD K tn σ F d)
    (hz : gs.length < 100000) (hz2 : ∀ g ∈ gs, g.2.length < 100000)
    (kk : ∀ rows' F' H', Ext M F0 H0 F' H' → Same F F' → GrpAt K H0 F' H' p rows' (addK gs k d) → (∀ c o, H c = some o → c ≠ p → (∀ y ∈ rows, y.2.1 ≠ c) → H' c = some o) → DE.nx σ H') : tDrop (tBM K "list" rAppend (tDSetd (tVar i) ty (tLst tNil)) (tCons tn tNil)) DE σ H := by
  have sz : (100000 : Nat) ≤ sizeLine := by rw [sizeLine_eq]; decide
  obtain ⟨o, h1, h2⟩ := E.get hi
  have h2 : o = some (.ref p) := h2
  subst h2
  refine ⟨.ref p, h1, p, rfl, .inl ⟨_, .inl w.o.h⟩, hy H S _ fun yv F1 H1 x1 d1 => ?_⟩
  cases d1
  refine ⟨Nat.zero_le _, fun q nq => ?_⟩
  have w1 := w.ext x1
  have x2 : Ext [] F1 H1 F1 (upd H1 q (.lst [])) := Ext.newM x1.s nq
  have w2 := w1.ext x2
  have x02 : Ext M F0 H0 F1 (upd H1 q (.lst [])) := (x0.tl x1).tl x2
  have nq0 : H0 q = none := (x0.tl x1).back nq
  have fq : F1 q = none := x1.s.free nq
  have rl : (kvR rows).length < sizeLine := by
    have := Paired.length w.r
    unfold kvR
    rw [List.length_map]
    omega
  refine ⟨kvR rows, Sum.inr k, w2.o.h, rfl, rl, fun v hv => ?_, fun hv => ?_⟩
  · obtain ⟨pre, x, post, rfl, h3, rfl, h4⟩ := kv_find hv
    obtain ⟨as, g, bs, eg, _, h5, _⟩ := pair_app w2.r
    refine ⟨.inl ⟨rfl, x.2.2, SqL.of h5.o.h⟩, (hn.up (x1.f.trans x2.f)) _ x2.s _ fun nv F3 H3 x3 d3 => ?_⟩
    have w3 := w2.ext x3
    obtain ⟨as', g', bs', eg', _, h5', _⟩ := pair_app w3.r
    have hl : x.2.2.length < 100000 := by
      rw [h5'.l.length]
      exact hz2 g' (by rw [eg']; simp)
    exact ⟨x.2.1, x.2.2, nv, rfl, rfl, h5'.o.h, Nat.lt_of_lt_of_le hl sz, kk _ F3 _ ((x02.tl x3).mutNew h5'.n h5'.o.f) ((x1.f.trans x2.f).trans x3.f) (w3.grow h3 h4 d3) fun c o z _ cr => by
      rw [upd_ne fun y => cr x (by simp) y.symm]
      exact x3.same _ _ (x2.same _ _ (x1.same _ _ z))⟩
  · have nk := kv_no hv
    have hqp : q ≠ p := fun z => by rw [z, w1.o.h] at nq; cases nq
    have e4 : upd (upd H1 q (.lst [])) p (.dK (putK (kvR rows) (Sum.inr k) (V.ref q))) q = some (.lst []) := by rw [upd_ne hqp, upd_same]
    have x04 : Ext M F0 H0 F1 (upd (upd H1 q (.lst [])) p (.dK (putK (kvR rows) (Sum.inr k) (V.ref q)))) := x02.mutNew w.n w2.o.f
    refine ⟨.inl ⟨rfl, [], SqL.of e4⟩, (hn.up (x1.f.trans x2.f)) _ x04.s _ fun nv F3 H3 x3 d3 => ?_⟩
    have nr : ∀ y ∈ rows, y.2.1 ≠ q := fun y hy z => by
      obtain ⟨g, _, h5⟩ := pair_row w1.r hy
      have := h5.o.h
      rw [z, nq] at this
      cases this
    have pk : putK (kvR rows) (Sum.inr k : Key) (V.ref q) = kvR rows ++ [((Sum.inr k : Key), V.ref q)] := putK_new fun y hy => by
      obtain ⟨z, hz, rfl⟩ := List.mem_map.mp hy
      simpa using nk z hz
    have r5 : Paired (RowOk K H0 F1 (upd (upd H1 q (.lst [])) p (.dK (putK (kvR rows) (Sum.inr k) (V.ref q)))) p) rows gs := pair_upd w2.r fun y hy => by
      obtain ⟨g, _, h5⟩ := pair_row w2.r hy
      exact h5.p
    have op : Own F1 (upd (upd H1 q (.lst [])) p (.dK (putK (kvR rows) (Sum.inr k) (V.ref q)))) p (.dK (kvR rows ++ [((Sum.inr k : Key), V.ref q)])) := ⟨w2.o.f, by rw [upd_same, pk]⟩
    have oq : Own F1 (upd (upd H1 q (.lst [])) p (.dK (putK (kvR rows) (Sum.inr k) (V.ref q)))) q (.lst []) := ⟨fq, e4⟩
    have fin := grp_add (op.ext0 x3) w.n (Paired.mapP r5 fun _ _ z => RowOk.ext z x3) w.d nk d3 nq0 nr hqp (oq.ext0 x3)
    exact ⟨q, [], nv, rfl, rfl, (oq.ext0 x3).h, Nat.lt_of_lt_of_le (by decide) sz, kk _ F3 _ ((x04.tl x3).mutNew nq0 (oq.ext0 x3).f) ((x1.f.trans x2.f).trans x3.f) fin fun c o z cp _ => by
      have z1 := x1.same _ _ z
      have cq : c ≠ q := fun y => by rw [y, nq] at z1; cases z1
      rw [upd_ne cq]
      refine x3.same _ _ ?_
      rw [upd_ne cp, upd_ne cq]
      exact z1⟩
end
end Nm

set_option Elab.async false
set_option linter.all false
set_option maxRecDepth 100000
set_option maxHeartbeats 2000000
/-! lists of lists of one's own; a for whose body changes what is new -/
namespace Nm
open PySem PySem.Spec L2
section
variable {K : PySem.W.Frag} {F F' F0 H0 H H' : Hp} {σ : L2.St} {r : List Sl} {DE : Ends}
/-- a for whose body may change what is new -/
theorem s_forX {tb : TS} (Pv : Nat → Hp → Hp → List Sl → Prop) {items : List D} {wi : TI} {g : TG} (u : D → List Sl → List Sl) (S : Same F H) (E : EnvD K F r σ) (hi : EvI K wi σ F items) (hg : ∀ d, d ∈ items → TgD K g d (u d))
    (h0 : ∀ F' H', Ext [] F H F' H' → Pv 0 F' H' r) (pS : ∀ i F' H' r', Pv i F' H' r' → Same F' H')
    (hs : ∀ i d F1 H1 F2 H2 r' σ' (N : L2.St → Hp → Prop), items[i]? = some d → Same F F1 → Pv i F1 H1 r' → Ext [] F1 H1 F2 H2 → EnvD K F2 (u d r') σ' →
      (∀ F3 H3 r3 σ3, Same F2 F3 → EnvD K F3 r3 σ3 → Pv (i + 1) F3 H3 r3 → N σ3 H3) → tb { DE with nx := N, ct := N, bk := DE.nx } σ' H2)
    (hd : ∀ F' H' r' σ', Same F F' → EnvD K F' r' σ' → Pv items.length F' H' r' → DE.nx σ' H') : tFor wi g tb DE σ H :=
  hi H S _ fun J F1 H1 x1 W1 => by
    obtain ⟨G, Y, w, hg', hy⟩ := W1
    refine ⟨fun i m σ3 H3 => m = items.length - i ∧ i ≤ items.length ∧ ∃ F3 r3, Same F1 F3 ∧ EnvD K F3 r3 σ3 ∧ Pv i F3 H3 r3, ⟨items.length, by simp, Nat.zero_le _, F1, r, Same.refl _, E.up x1.f, h0 F1 H1 x1⟩, ?_⟩
    rintro i m σ3 H3 ⟨rfl, hle, F3, r3, e, E3, p⟩
    have s3 := pS _ _ _ _ p
    have hG := hg' H3 (e.trans s3)
    by_cases hlt : i < items.length
    · refine .inr ⟨w.goes i H3 hlt hG, fun σ' H' => ∃ F4 r4, Same F1 F4 ∧ EnvD K F4 r4 σ' ∧ Pv (i + 1) F4 H' r4, fun σ' H' q => ⟨items.length - (i + 1), by omega, rfl, hlt, q⟩, fun v H4 y => ?_⟩
      obtain ⟨d, F2, h1, h2, h3⟩ := hy i H3 v H4 hlt (e.trans s3) (w.yields i H3 v H4 hlt hG y)
      have x2 := Ext.uni e s3 h2
      have h3' : Den K (uni F3 F2) v d := h3.up (uni_r (s3.trans h2.same) h2.s)
      refine hg d (List.mem_of_getElem? h1) _ H4 r3 σ3 v _ x2.s (E3.up x2.f) h3' fun σ' E' => ?_
      exact hs i d F3 H3 _ H4 r3 _ _ h1 (x1.f.trans e) p x2 E' fun F5 H5 r5 σ5 x5 E5 p5 => ⟨F5, r5, (e.trans x2.f).trans x5, E5, p5⟩
    · have ei : i = items.length := by omega
      subst ei
      exact .inl ⟨w.stops H3 hG, hd F3 H3 r3 σ3 (x1.f.trans e) E3 p⟩
/-! ### what is one's own, frozen all at once -/
def frzS (S : List Addr) (F H : Hp) : Hp := fun a => if a ∈ S then H a else F a
theorem frzS_in {S : List Addr} {a : Addr} (h : a ∈ S) : frzS S F H a = H a := if_pos h
theorem frzS_out {S : List Addr} {a : Addr} (h : a ∉ S) : frzS S F H a = F a := if_neg h
theorem frzS_same {S : List Addr} (h : ∀ a ∈ S, F a = none) : Same F (frzS S F H) := fun a o e => by
  rw [frzS_out fun z => by rw [h a z] at e; cases e]
  exact e
theorem frzS_s {S : List Addr} (s : Same F H) : Same (frzS S F H) H := fun a o e => by
  by_cases z : a ∈ S
  · rw [frzS_in z] at e; exact e
  · rw [frzS_out z] at e; exact s a o e
theorem frzS_ext {M : List Addr} {S : List Addr} (x : Ext M F0 H0 F H) (h : ∀ a ∈ S, H0 a = none ∧ F a = none) : Ext M F0 H0 (frzS S F H) H :=
  ⟨x.f.trans (frzS_same fun a z => (h a z).2), x.h, frzS_s x.s, fun a e k => by
    rw [frzS_out fun z => k (h a z).1]
    exact x.n a e k, x.k⟩
/-! ### a list of lists, all one's own -/
abbrev LRow := Addr × List V
structure LRowOk (K : PySem.W.Frag) (H0 F H : Hp) (q : Addr) (x : LRow) (g : List D) : Prop where
  o : Own F H x.1 (.lst x.2)
  l : DenL K F x.2 g
  n : H0 x.1 = none
  q : x.1 ≠ q
structure LolAt (K : PySem.W.Frag) (H0 F H : Hp) (q : Addr) (rows : List LRow) (gs : List (List D)) : Prop where
  o : Own F H q (.lst (rows.map fun r => V.ref r.1))
  n : H0 q = none
  r : Paired (LRowOk K H0 F H q) rows gs
  d : (rows.map (·.1)).Nodup
theorem LRowOk.ext {q : Addr} {x : LRow} {g : List D} (w : LRowOk K H0 F H q x g) (e : Ext [] F H F' H') : LRowOk K H0 F' H' q x g := ⟨w.o.ext0 e, w.l.up e.f, w.n, w.q⟩
theorem LolAt.ext {q : Addr} {rows : List LRow} {gs : List (List D)} (w : LolAt K H0 F H q rows gs) (e : Ext [] F H F' H') : LolAt K H0 F' H' q rows gs := ⟨w.o.ext0 e, w.n, Paired.mapP w.r fun _ _ z => LRowOk.ext z e, w.d⟩
theorem lrow_mem {q : Addr} {rows : List LRow} {gs : List (List D)} (P : Paired (LRowOk K H0 F H q) rows gs) {x : LRow} (h : x ∈ rows) : ∃ g ∈ gs, LRowOk K H0 F H q x g := by
  induction P with
  | nil => simp at h
  | cons a _ ih =>
    rcases List.mem_cons.mp h with rfl | h
    · exact ⟨_, by simp, a⟩
    · obtain ⟨g, h1, h2⟩ := ih h
      exact ⟨g, by simp [h1], h2⟩
def lolS (q : Addr) (rows : List LRow) : List Addr := q :: rows.map (·.1)
theorem LolAt.offs {q : Addr} {rows : List LRow} {gs : List (List D)} (w : LolAt K H0 F H q rows gs) : ∀ a ∈ lolS q rows, H0 a = none ∧ F a = none := fun a ha => by
  rcases List.mem_cons.mp ha with rfl | ha
  · exact ⟨w.n, w.o.f⟩
  · obtain ⟨x, hx, rfl⟩ := List.mem_map.mp ha
    obtain ⟨g, _, h⟩ := lrow_mem w.r hx
    exact ⟨h.n, h.o.f⟩
theorem rows_den {q : Addr} {G : Hp} (e : Same F G) : ∀ {rows : List LRow} {gs : List (List D)}, Paired (LRowOk K H0 F H q) rows gs → (∀ x ∈ rows, G x.1 = H x.1) → DenL K G (rows.map fun r => V.ref r.1) (gs.map D.lst)
  | _, _, .nil, _ => .nil
  | x :: _, _, .cons a t, h => .cons (.lst ((h x (by simp)).trans a.o.h) (a.l.up e)) (rows_den e t fun y hy => h y (List.mem_cons_of_mem _ hy))
/-- seen as data, for good -/
theorem LolAt.data {M : List Addr} {q : Addr} {rows : List LRow} {gs : List (List D)} (w : LolAt K H0 F H q rows gs) (x : Ext M F0 H0 F H) : Ext M F0 H0 (frzS (lolS q rows) F H) H ∧ Same F (frzS (lolS q rows) F H) ∧ Den K (frzS (lolS q rows) F H) (.ref q) (.lst (gs.map D.lst)) := by
  have e : Same F (frzS (lolS q rows) F H) := frzS_same fun a z => (w.offs a z).2
  refine ⟨frzS_ext x w.offs, e, .lst ((frzS_in (by simp [lolS])).trans w.o.h) (rows_den e w.r fun y hy => frzS_in ?_)⟩
  exact List.mem_cons_of_mem _ (List.mem_map.mpr ⟨y, hy, rfl⟩)
/-! ### a promise of such a list -/
def spLol (K : PySem.W.Frag) (n : Nat) (R : List D → List (List D) → Prop) : Sp := fun vs H Q _ => ∃ F ds gs, Same F H ∧ DenL K F vs ds ∧ R ds gs ∧ ds.length = n ∧ ∀ q rows F' H', Ext [] F H F' H' → LolAt K H F' H' q rows gs → Q (.ref q) H'
theorem spLol_len {n : Nat} {R : List D → List (List D) → Prop} {vs : List V} {Q : VK} {E : XK} (h : spLol K n R vs H Q E) : vs.length = n := by
  obtain ⟨F, ds, d, _, l, _, e, _⟩ := h
  rw [l.length, e]
theorem ev_callL {n : Nat} {R : List D → List (List D) → Prop} {tr : TA} {E : XK} {ds : List D} {gs : List (List D)} (ha : EvA K tr σ F ds) (hf : R ds gs) (hn : ds.length = n) : EvD K (tCall (spLol K n R) [] E tr) σ F (.lst (gs.map D.lst)) := fun H s Q q =>
  ha H s _ fun vs F1 H1 x1 l1 => ⟨F1, ds, gs, x1.s, by rw [List.append_nil]; exact l1, hf, hn, fun p rows F2 H2 x2 w => by
    obtain ⟨y1, y2, y3⟩ := w.data x2
    exact q _ _ H2 (x1.tr y1) y3⟩
theorem q_asgLol {j n : Nat} {R : List D → List (List D) → Prop} {tr : TA} {XE : XK} {tz : TS} {ds : List D} {gs : List (List D)} (S : Same F H) (E : EnvD K F r σ) (ha : EvA K tr σ F ds) (hf : R ds gs) (hn : ds.length = n)
    (k : ∀ q rows F' H' σ', Ext [] F H F' H' → LolAt K H F' H' q rows gs → EnvD K F' (r.set j (.v (.ref q))) σ' → tz DE σ' H') : tSeq (tAsg (tCall (spLol K n R) [] XE tr) (gName j)) tz DE σ H :=
  ha H S _ fun vs F1 H1 x1 l1 => ⟨F1, ds, gs, x1.s, by rw [List.append_nil]; exact l1, hf, hn, fun p rows F2 H2 x2 w => by
    have w' : LolAt K H F2 H2 p rows gs := ⟨w.o, x1.back w.n, Paired.mapP w.r fun _ _ z => ⟨z.o, z.l, x1.back z.n, z.q⟩, w.d⟩
    exact k p rows F2 H2 _ (x1.tr x2) w' (EnvD.set (s := .v (.ref p)) j ((E.up x1.f).up x2.f) rfl)⟩
/-- return list(d.values()) -/
theorem s_retVals {M : List Addr} {i : Nat} {p : Addr} {rows : List Row} {gs : List (Str × List D)} (E : EnvD K F r σ) (hi : r[i]? = some (.v (.ref p))) (x : Ext M F0 H0 F H) (w : GrpAt K H0 F H p rows gs)
    (k : ∀ q rows F' H', Ext M F0 H0 F' H' → LolAt K H0 F' H' q rows (gs.map (·.2)) → (∀ c o, H c = some o → H' c = some o) → DE.rt (.ref q) H') : tRet (tListVals (tVar i)) DE σ H := by
  obtain ⟨o, h1, h2⟩ := E.get hi
  have h2 : o = some (.ref p) := h2
  subst h2
  refine ⟨.ref p, h1, p, _, rfl, .inl w.o.h, fun q hq => ?_⟩
  have ek : (kvR rows).map (·.2) = (rows.map (·.2)).map fun r : LRow => V.ref r.1 := by
    unfold kvR
    rw [List.map_map, List.map_map]
    rfl
  rw [ek]
  have x2 : Ext [] F H F (upd H q (.lst ((rows.map (·.2)).map fun r : LRow => V.ref r.1))) := Ext.newM x.s hq
  refine k q (rows.map (·.2)) F _ (x.tl x2) ⟨⟨x.s.free hq, upd_same⟩, x.back hq, ?_, ?_⟩ fun c o z => x2.same _ _ z
  · have go : ∀ {rows : List Row} {gs : List (Str × List D)}, Paired (RowOk K H0 F H p) rows gs → Paired (LRowOk K H0 F (upd H q (.lst ((rows.map (·.2)).map fun r : LRow => V.ref r.1))) q) (rows.map (·.2)) (gs.map (·.2)) := by
      intro rows gs P
      have aux : ∀ (o : HO) {rows : List Row} {gs : List (Str × List D)}, Paired (RowOk K H0 F H p) rows gs → Paired (LRowOk K H0 F (upd H q o) q) (rows.map (·.2)) (gs.map (·.2)) := by
        intro o rows gs P
        induction P with
        | nil => exact .nil
        | cons a _ ih =>
          have ne := ne_of_none a.o.h hq
          exact .cons ⟨⟨a.o.f, by rw [upd_ne ne]; exact a.o.h⟩, a.l, a.n, ne⟩ ih
      exact aux _ P
    exact go w.r
  · have := w.d
    rw [List.map_map]
    exact this
/-! ### bounds -/
theorem addK_len (k : Str) (d : D) : ∀ gs : List (Str × List D), (addK gs k d).length ≤ gs.length + 1
  | [] => by simp [addK]
  | g :: gs => by
    have := addK_len k d gs
    unfold addK
    split
    · simp
    · simp only [List.length_cons]; omega
theorem addK_each (k : Str) (d : D) {m : Nat} : ∀ gs : List (Str × List D), (∀ g ∈ gs, g.2.length ≤ m) → ∀ g ∈ addK gs k d, g.2.length ≤ m + 1
  | [], _ => by simp [addK]
  | g :: gs, h => by
    have ih := addK_each k d gs fun y hy => h y (List.mem_cons_of_mem _ hy)
    have h1 := h g (by simp)
    intro y hy
    unfold addK at hy
    split at hy
    · rcases List.mem_cons.mp hy with rfl | hy
      · simp only [List.length_append, List.length_cons, List.length_nil]; omega
      · exact Nat.le_succ_of_le (h y (List.mem_cons_of_mem _ hy))
    · rcases List.mem_cons.mp hy with rfl | hy
      · exact Nat.le_succ_of_le h1
      · exact ih y hy
/-- words divided by their keys -/
def grpK (f : List Nat → List Nat) (ws : List (List Nat)) : List (Str × List D) := ws.foldl (fun gs w => addK gs (mkS (f w)) (txt w)) []
theorem grpK_len (f : List Nat → List Nat) (ws : List (List Nat)) : (grpK f ws).length ≤ ws.length ∧ ∀ g ∈ grpK f ws, g.2.length ≤ ws.length := by
  have go : ∀ (ws : List (List Nat)) (gs : List (Str × List D)) (m : Nat), gs.length ≤ m → (∀ g ∈ gs, g.2.length ≤ m) → (ws.foldl (fun gs w => addK gs (mkS (f w)) (txt w)) gs).length ≤ m + ws.length ∧ ∀ g ∈ ws.foldl (fun gs w => addK gs (mkS (f w)) (txt w)) gs, g.2.length ≤ m + ws.length := by
    intro ws
    induction ws with
    | nil => intro gs m h1 h2; exact ⟨h1, h2⟩
    | cons w ws ih =>
      intro gs m h1 h2
      have a := addK_len (mkS (f w)) (txt w) gs
      have b := ih (addK gs (mkS (f w)) (txt w)) (m + 1) (by omega) (addK_each _ _ gs h2)
      simp only [List.foldl_cons, List.length_cons]
      rw [show m + (ws.length + 1) = m + 1 + ws.length from by omega]
      exact b
  have := go ws [] 0 (by simp) (by simp)
  rw [Nat.zero_add] at this
  exact this
theorem grpK_snoc {f : List Nat → List Nat} {ws : List (List Nat)} {i : Nat} {w : List Nat} (h : ws[i]? = some w) : grpK f (ws.take (i + 1)) = addK (grpK f (ws.take i)) (mkS (f w)) (txt w) := by
  unfold grpK
  rw [take_succ' h, List.foldl_append]
  rfl
/-- {} -/
theorem q_asgNewK {j : Nat} {tz : TS} (S : Same F H) (E : EnvD K F r σ) (k : ∀ p σ', H p = none → GrpAt K H F (upd H p (.dK [])) p [] [] → Ext [] F H F (upd H p (.dK [])) → EnvD K F (r.set j (.v (.ref p))) σ' → tz DE σ' (upd H p (.dK []))) : tSeq (tAsg tDNewK (gName j)) tz DE σ H :=
  fun p hp => k p _ hp ⟨⟨S.free hp, upd_same⟩, hp, .nil, by simp⟩ (Ext.newM S hp) (EnvD.set (s := .v (.ref p)) j E rfl)
end
end Nm

set_option Elab.async false
set_option linter.all false
set_option maxRecDepth 100000
set_option maxHeartbeats 2000000
/-! sorted(texts, key=lambda w: (len(w), w)): the function is made at run time, its code object stands in the table at P -/
namespace Nm
open PySem PySem.Spec L2 PyProof.Rows
/-- a lambda that gives (length, text) -/
def LamKey (K : PySem.W.Frag) (x : Str) (tb : TE) (w : List Nat) : Prop := ∀ F' H', Same F' H' → ∀ Q' : VK, (∀ v F'' H'', Ext [] F' H' F'' H'' → Den K F'' v (keyD w) → Q' v H'') → tb (start [x] [tv w]) H' Q'
section
variable {X : Cx} {pins : List (Addr × Obj)} {σ : L2.St} {k : Nat} {x : Str} {qual : Str} {params : Arguments} {body : Expr} {scope : Scope} {tb : TE} {F H : Hp} {s : Shared}
theorem turn_lam {H0 : Hp} {s0 : Shared} {fa c' : Addr} {pm ctv : Value} {w : List Nat} (of : s0.heap.get? fa = some (PySem.W.kla_obj "<lambda>" qual params body scope [] pm c' ctv)) (nf : H0 fa = none) (nfr : fa ∉ frs X.stack) (hc : H0 c' = some (LamX.CodeO c' qual)) (S : FnScope [x] [x] scope)
    (hb : ∀ (u pm cdv ct : Value), bindArgs (PySem.W.kla_fn "<lambda>" qual params body scope [] pm cdv ct) ⟨[u], []⟩ = pure [(x, u)]) (hr : Room (k + 3) X.A)
    (hbody : ∀ (fa : Addr) (cd : Value) (A : Around) (outer : List Env) (s : Shared) (H : Hp), Room k (A.deeper (envOfC qual scope s.heap.objs.size fa cd)) → PE (cxOf CX0 X.prog X.w X.K X.mg X.base [x] qual scope fa cd A outer s H E0) body tb)
    (ht : LamKey X.K x tb w) : KeyTurn X pins σ H0 s0 (.ref fa) w := fun s' F' H' u I S' un sm ru => by
  have of1 := un.keep fa _ of nf nfr (by simp)
  obtain ⟨⟨oc, vs, t, hoc, hdc, hvc⟩, _, _⟩ := I.hok c' _ (sm _ _ hc)
  have hr2 : Room (k + 1) X.A.in1.in1 := (show Room (k + 2) X.A.in1 from Room.in1 hr).in1
  refine wpAny_call (PySem.W.kla_callFunE hr2.depth of1 rfl S.co S.gen rfl ⟨c', oc, vs, t, rfl, hoc, hdc, hvc⟩ ?_)
  rw [hb]
  have kinds : ∀ y ∈ [(x, u)], scope.names.lookup y.1 = some .local ∨ (scope.names.lookup y.1 = some .cell ∧ ((cellsFrom (s'.heap.objs.size + 1) scope.names []).lookup y.1).isSome = true) := by
    intro y hy
    rcases List.mem_singleton.mp hy with rfl
    exact (S.par x (by simp)).imp id fun c => ⟨c, PySem.W.cellsFrom_some _ _ _ (Or.inl c)⟩
  refine wpAny_pure (wpAny_newFunctionEnv_cells S.kind kinds fun env he s1 y => ?_)
  subst he
  have e0 := I.env0.in1.in1
  refine ⟨(e0.mod.nolimit.keeps fun b o e => (e0.bs b o e).1).keeps y.toInCall.keep, ?_⟩
  have J := inv_start (CX := CX0) (E := E0) S hr2.hd e0 rfl (.cons ru .nil) y
  refine PySem.W.kla_codeExpr (wpAny_mono ((hbody _ _ _ _ s' H' (hr2.deeper _)).run [] _ _ H' _ J (ht F' H' S' _ fun v F'' H'' x d => (⟨F'', x, d⟩ : ∃ F'', Ext [] F' H' F'' H'' ∧ Den X.K F'' v (keyD w)))) (fun v s'' hq => ?_) fun e s'' hq => hq)
  obtain ⟨w', H'', J', rv, F'', x, d⟩ := hq
  exact ⟨w', F'', H'', J'.os, J'.bare, J'.base, J'.hok, rv, x, d⟩
/-- the lambda is made; the table may have grown -/
theorem lam_new {c P : Addr} {pos : Pos} {E : Value → Shared → Prop} {Q : Value → Shared → Prop} (I : L2.Inv X pins σ H s) (TB : LamX.TabB X.base X.mg c P) (hcode : X.env.code = .ref c) (hT : LamX.TabS H P (X.env.qual ++ "<lambda>")) (hdef : defaultsOf params X.env = ([], []))
    (S : FnScope [x] [x] scope) (hclo : cloFrom X.env.cells scope.names [] = [])
    (h : ∀ (f c' : Addr) (pm ctv : Value) (H1 : Hp) (s' : Shared), L2.Inv X pins σ H1 s' → (∀ b o, b ≠ P → H b = some o → H1 b = some o) → (∀ b, b ≠ P → b ≠ c' → H1 b = H b) → (H c' = none ∨ H1 = H) → H1 P ≠ none → LamX.TabS H1 P (X.env.qual ++ "<lambda>") →
      s'.heap.get? f = some (PySem.W.kla_obj "<lambda>" (X.env.qual ++ "<lambda>") params body scope [] pm c' ctv) → H1 f = none → f ∉ frs X.stack → H1 c' = some (LamX.CodeO c' (X.env.qual ++ "<lambda>")) → Q (.ref f) s') :
    wpAny (model X.prog X.w) X.A (eval (.Lambda params body scope pos) X.env) Q E s := by
  obtain ⟨ps, hP, ht, ha⟩ := hT
  refine PySem.W.kla_eval hdef ?_
  have bP : s.heap.BuiltinsAt X.mg P := TB.bm.keeps I.bk
  have hP' : s.heap.get? P = some { cls := .none, data := .fields ps } := I.hok P _ hP
  have clo : closureFor scope X.env = pure [] := by
    rw [closure_ok fun y hy z => absurd z (S.nofree y hy), hclo]
  have away : ∀ f, s.heap.objs.size ≤ f → f ∉ frs X.stack := fun f hf => off_frs I hf
  cases hc : codeAmong pos ps.toList with
  | none =>
    refine PySem.W.kla_makeFunction (mg := X.mg) (c := c) (P := P) (ps := ps) clo I.ok.glob (I.mod.glob.keeps I.bk) hcode (TB.code.keeps I.bk) hP' ht hc TB.gP bP fun c' ctv h' tk hx hge hlt hrec htb => ?_
    obtain ⟨c2, oc, vs, t, e2, hoc, hd, hv⟩ := hrec
    cases e2
    have big : s.heap.objs.size ≤ h'.objs.size := Nat.le_trans hge (Nat.le_of_lt hlt)
    have nC : H c' = none := I.hok.fresh hge
    have J := LamX.inv_table (t' := tk) (more := #[rawInt pos.line, rawInt pos.col, .ref c']) (h' := h'.push (PySem.W.kla_obj "<lambda>" (X.env.qual ++ "<lambda>") params body scope [] ((X.mg "__name__").getD .none) c' ctv)) I hP (fun b o hb e => Heap.get?_push_of_some _ (hx b o hb e)) (Heap.get?_push_of_some _ htb) hge
      ⟨oc, vs, t, Heap.get?_push_of_some _ hoc, hd, hv⟩
    have PneC : P ≠ c' := ne_of_none hP nC
    have at2 : ∀ b, b ≠ P → b ≠ c' → upd (upd H P (.tbl (ps ++ #[rawInt pos.line, rawInt pos.col, .ref c']))) c' (LamX.CodeO c' (X.env.qual ++ "<lambda>")) b = H b := fun b h1 h2 => by rw [upd_ne h2, upd_ne h1]
    have kp : ∀ b o, b ≠ P → H b = some o → upd (upd H P (.tbl (ps ++ #[rawInt pos.line, rawInt pos.col, .ref c']))) c' (LamX.CodeO c' (X.env.qual ++ "<lambda>")) b = some o := fun b o h1 h2 => (at2 b h1 (ne_of_none h2 nC)).trans h2
    have atP : upd (upd H P (.tbl (ps ++ #[rawInt pos.line, rawInt pos.col, .ref c']))) c' (LamX.CodeO c' (X.env.qual ++ "<lambda>")) P = some (.tbl (ps ++ #[rawInt pos.line, rawInt pos.col, .ref c'])) := by rw [upd_ne PneC, upd_same]
    have eL : (ps ++ #[rawInt pos.line, rawInt pos.col, .ref c']).toList = ps.toList ++ [rawInt pos.line, rawInt pos.col, .ref c'] := by simp
    refine h h'.objs.size c' ((X.mg "__name__").getD .none) ctv _ _ J kp at2 (.inl nC) (by rw [atP]; simp) ⟨_, atP, by rw [eL]; exact PySem.TriplesOk_snoc _ _ _ _ ht, fun p' cv hcv => ?_⟩ (Heap.get?_push_size _ rfl) ?_ (away _ big) upd_same
    · rw [eL] at hcv
      rcases LamX.among_app _ ht hcv with z | z
      · obtain ⟨c0, e1, e2⟩ := ha p' cv z
        exact ⟨c0, e1, kp _ _ (fun z => by rw [z, hP] at e2; exact LamX.codeO_ne ps (Option.some.inj e2).symm) e2⟩
      · exact ⟨c', z, upd_same⟩
    · rw [at2 _ (Nat.ne_of_gt (Nat.lt_of_lt_of_le (Heap.lt_size hP') big)) (Nat.ne_of_gt hlt)]
      exact I.hok.fresh big
  | some cv =>
    obtain ⟨c', e, hco⟩ := ha pos cv hc
    subst e
    refine PySem.W.kla_makeFunctionHit (mg := X.mg) (c := c) (P := P) (ps := ps) clo I.ok.glob (I.mod.glob.keeps I.bk) hcode (TB.code.keeps I.bk) hP' ht hc bP fun ctv h' tk hx big => ?_
    have J : L2.Inv X pins σ H { s with heap := h'.push (PySem.W.kla_obj "<lambda>" (X.env.qual ++ "<lambda>") params body scope [] ((X.mg "__name__").getD .none) c' ctv), toks := tk } := I.kept fun b o e => Heap.get?_push_of_some _ (hx b o e)
    exact h h'.objs.size c' ((X.mg "__name__").getD .none) ctv H _ J (fun _ _ _ e => e) (fun _ _ _ => rfl) (.inr rfl) (by rw [hP]; simp) ⟨ps, hP, ht, ha⟩ (Heap.get?_push_size _ rfl) (I.hok.fresh big) (away _ big) hco
end
/-- sorted(te, key=lambda) -/
def tSortL (K : PySem.W.Frag) (P : Addr) (q : Str) (x : Str) (tb : TE) (t : TA) : TE := fun σ H Q => t σ H fun vs H1 => ∃ F l ws, vs = [V.ref l] ∧ Same F H1 ∧ SqL K F l (ws.map tv) ∧ F P = none ∧ LamX.TabS H1 P q ∧ (∀ w ∈ ws, LamKey K x tb w) ∧
  ∀ p F' H', H1 p = none → Ext [P] F H1 F' H' → LamX.TabS H' P q → F' P = none → H' p = none → p ≠ P → Q (.ref p) (upd H' p (.lst ((sortW ws).map tv)))
section
variable {X : Cx} {k : Nat} {x nm : Str} {params : Arguments} {body : Expr} {scope : Scope} {tb : TE} {t : TA} {e : Expr} {p pos lpos kpos : Pos} {c P : Addr}
theorem pe_sortedLam (TB : LamX.TabB X.base X.mg c P) (hcode : X.env.code = .ref c) (hg : Gl X "sorted") (hm : X.mg "sorted" = none) (ha : PA X [e] t) (hdef : defaultsOf params X.env = ([], [])) (S : FnScope [x] [x] scope) (hclo : cloFrom X.env.cells scope.names [] = [])
    (hb : ∀ (u pm cdv ct : Value), bindArgs (PySem.W.kla_fn "<lambda>" (X.env.qual ++ "<lambda>") params body scope [] pm cdv ct) ⟨[u], []⟩ = pure [(x, u)]) (hr : Room (k + 3) X.A)
    (hbody : ∀ (fa : Addr) (cd : Value) (A : Around) (outer : List Env) (s : Shared) (H : Hp), Room k (A.deeper (envOfC (X.env.qual ++ "<lambda>") scope s.heap.objs.size fa cd)) → PE (cxOf CX0 X.prog X.w X.K X.mg X.base [x] (X.env.qual ++ "<lambda>") scope fa cd A outer s H E0) body tb)
    (hst : backTo pos (starEach [e] X.env) = (false, eval e X.env) :: backTo pos (starEach [] X.env) := by rfl) (hpl : (backTo pos (starEach [e] X.env)).any (·.1) = false := by rfl)
    (hall : (backToKw pos (keywordEach [⟨some (Str.ofString "key"), .Lambda params body scope lpos, kpos⟩] X.env)).all (·.1.isSome) = true := by rfl) (hnone : (backToKw pos (keywordEach [⟨some (Str.ofString "key"), .Lambda params body scope lpos, kpos⟩] X.env)).any (·.1.isNone) = false := by rfl)
    (hks : (backToKw pos (keywordEach [⟨some (Str.ofString "key"), .Lambda params body scope lpos, kpos⟩] X.env)).filterMap (·.1) = [Str.ofString "key"] := by rfl) :
    PE X (.Call (.Name "sorted" p) [e] [⟨some (Str.ofString "key"), .Lambda params body scope lpos, kpos⟩] pos) (tSortL X.K P (X.env.qual ++ "<lambda>") x tb t) := by
  refine ⟨fun pins s σ H Q I h => ?_⟩
  refine wpAny_Call_Name_kw (ld_blt I hg hm (show bootBuiltins "sorted" = some (.builtin "sorted") by decide +kernel) ?_ (by decide) (by decide))
  refine PyProof.Rows.callWith_kw (thn (ha.run pos pins s σ H _ I h) fun us s1 ⟨vs, H1, I1, r1, q1⟩ => ?_) hst hpl hall hnone
  obtain ⟨F, l, ws, rfl, S1, hs, fP, hT, hk, q⟩ := q1
  obtain ⟨u, rfl, ru⟩ := vals1 r1
  cases (show u = Value.ref l from ru)
  show wpAny _ _ (evalAll ((do let v ← eval (.Lambda params body scope lpos) X.env; standAt pos; pure v) :: (backToKw pos (keywordEach [] X.env)).map (·.2))) _ _ s1
  refine wpAny_evalAll_cons (wpAny_bind (lam_new I1 TB hcode hT hdef S hclo fun f c' pm ctv H2 s2 I2 kp at2 nc nP T2 hof nf nfr hco => wpAny_bind (wpAny_standAt (wpAny_pure (wpAny_evalAll_nil ?_)))))
  have S2 : Same F H2 := fun b o e2 => kp b o (fun z => by rw [z, fP] at e2; cases e2) (S1 _ _ e2)
  rw [hks]
  refine sort_run I2 S2 (same_l S2 hs) (fun w hw => turn_lam hof nf nfr hco S hb hr hbody (hk w hw)) hr.units fun p F' H' np x np' => ?_
  have pP : p ≠ P := fun z => nP (z ▸ np)
  have np1 : H1 p = none := by
    cases z : H1 p with
    | none => rfl
    | some o => rw [kp p o pP z] at np; cases np
  have x1 : Ext [P] F H1 F H2 := ⟨Same.refl _, fun a o m e => kp a o (by simpa using m) e, S2, fun _ h _ => h, fun a h => by
    by_cases z : a = P
    · rw [z]; exact nP
    · cases y : H1 a with
      | none => exact absurd y h
      | some o => rw [kp a o z y]; simp⟩
  exact q p F' H' np1 (x1.tl x) (T2.ext fun b o e => x.same b o e) (x.n P fP nP) np' pP
end
end Nm

set_option Elab.async false
set_option linter.all false
set_option maxRecDepth 100000
set_option maxHeartbeats 2000000
/-! the end of a law whose def wants that no repr is under way, and in whose defs lambdas are made -/
namespace Nm
open PySem PySem.Spec L2 PyProof.Rows
/-- the script, frozen, and the tables of code objects: nothing else is told of -/
structure Fresh (cs : List (Addr × Addr)) (H : Hp) : Prop where
  t : ∀ p ∈ cs, H p.2 = some (.tbl #[])
  o : ∀ b, H b = none ∨ b ∈ cs.map (·.2) ∨ ∃ o xs, H b = some (.frz o (.lst xs))
theorem law_callTG {P : Program} {w : World} {K : PySem.W.Frag} {mg mb : Str → Option Value} {k : Nat} {fa a : Addr} {cs : List (Addr × Addr)} {fd : FuncData} {x : Str} {sp : Sp} {s1 : Shared} {vs : List Value} {ns : List Int}
    (KX : K.In s1.heap) (hns : s1.heap.Ns mainGlobals mg) (hb : s1.heap.Ns builtinsNs mb) (hbb : ∀ x : Str, x ≠ "__name__" → mb x = bootBuiltins x) (hlim : s1.heap.NoLimit) (hg : s1.gens = #[])
    (hT : ∀ p ∈ cs, s1.heap.get? p.2 = some { cls := .none, data := .fields #[] }) (nT : ∀ p ∈ cs, K.lookup p.2 = none) (C : ∀ p ∈ cs, PySem.W.CodeHd s1.heap p.1 p.2)
    (hbm : ∃ (bm : Addr) (ob : Obj), mg "__builtins__" = some (.ref bm) ∧ bm ≠ builtinsNs ∧ s1.heap.get? bm = some ob ∧ ob.cls = .type "module" ∧ ob.dict = some builtinsNs ∧ ob.data = .plain)
    (ha : s1.heap.get? a = some { cls := .type "list", data := .seq vs.toArray }) (hi : IntsAre vs ns) (hl : ns.length ≤ sizeLine) (hr : Room k callerA)
    (F : ∀ base : Heap, K.In base → base.Ns mainGlobals mg → (∀ p ∈ cs, LamX.TabB base mg p.1 p.2) → FnOkG P w K mg base CX0 k fa fd [x] sp) (hbind : ∀ (s : Shared) (u : Value), BindsTo s fd ⟨[u], []⟩ [(x, u)])
    (hsp : ∀ H : Hp, Fresh cs H → SqL K H a (ns.map V.int) → sp [.ref a] H (fun v _ => v = .bl true) fun _ _ _ => False) :
    codeAny (model P w) callerA (.call (.ref fa) ⟨[.ref a], []⟩) (fun r s' => r = .ok (.ret (.bool true)) ∧ OldK s1.heap s'.heap ∧ s'.os = s1.os ∧ AllBare s'.gens) s1 := by
  have rv := vals_ints hi
  have isT : ∀ b, b ∈ cs.map (·.2) → s1.heap.get? b = some { cls := .none, data := .fields #[] } := by
    intro b hb
    obtain ⟨p, hp, rfl⟩ := List.mem_map.mp hb
    exact hT p hp
  have memT : ∀ p ∈ cs, p.2 ∈ cs.map (·.2) := fun p hp => List.mem_map.mpr ⟨p, hp, rfl⟩
  have aT : a ∉ cs.map (·.2) := by
    intro z
    have q := isT a z
    rw [ha] at q
    exact nomatch congrArg Obj.data (Option.some.inj q)
  -- nothing but the script and the tables may be told of
  have main : ∀ H : Hp, Fresh cs H → SqL K H a (ns.map V.int) → HOk P w H s1.heap → (∀ b u, H b = some u → (b = a ∧ K.lookup a = none) ∨ b ∈ cs.map (·.2)) →
      codeAny (model P w) callerA (.call (.ref fa) ⟨[.ref a], []⟩) (fun r s' => r = .ok (.ret (.bool true)) ∧ OldK s1.heap s'.heap ∧ s'.os = s1.os ∧ AllBare s'.gens) s1 := by
    intro H fresh seq hok one
    have untold : ∀ {b : Addr} {o : Obj}, s1.heap.get? b = some o → (∀ v n, o.data ≠ .seq v n) → o.data ≠ .fields #[] → H b = none := by
      intro b o e h1 h2
      cases q : H b with
      | none => rfl
      | some u =>
        rcases one b u q with ⟨rfl, _⟩ | z
        · rw [ha] at e; cases e; exact absurd rfl (h1 _ _)
        · rw [isT b z] at e; cases e; exact absurd rfl h2
    have dicts : ∀ {b : Addr} {o : Obj} {es : Array DictEntry} {ep : Nat}, s1.heap.get? b = some o → o.data = .dict es ep → H b = none := fun e d =>
      untold e (fun v n z => by rw [d] at z; cases z) fun z => by rw [d] at z; cases z
    have ns1 : ∀ {b : Addr} {m : Str → Option Value}, s1.heap.Ns b m → (hidT s1.heap H).Ns b m := by
      rintro b m ⟨o, es, ep, e, d, r⟩
      exact ⟨o, es, ep, hidT_get e (dicts e d), d, r⟩
    have kin : K.In (hidT s1.heap H) := by
      intro b o e
      refine hidT_get (KX b o e) ?_
      cases q : H b with
      | none => rfl
      | some u =>
        rcases one b u q with ⟨rfl, z⟩ | z
        · rw [z] at e; cases e
        · obtain ⟨p, hp, rfl⟩ := List.mem_map.mp z
          rw [nT p hp] at e; cases e
    have md : Mod K mg (hidT s1.heap H) := by
      obtain ⟨mc, h1, h2⟩ := hlim
      exact ⟨kin, ns1 hns, ⟨mb, ns1 hb, hbb⟩, ⟨mc, ns1 h1, h2⟩⟩
    have tabs : ∀ p ∈ cs, LamX.TabB (hidT s1.heap H) mg p.1 p.2 := by
      intro p hp
      have tp := hT p hp
      obtain ⟨bm, ob, b1, b2, b3, b4, b5, b6⟩ := hbm
      refine ⟨?_, ⟨bm, ob, b1, b2, ?_, ?_, hidT_get b3 (untold b3 (fun v n z => by rw [b6] at z; cases z) fun z => by rw [b6] at z; cases z), b4, b5, b6⟩, ?_⟩
      · obtain ⟨o, us, file, tf, flags, tg, inF, text, tt, e1, r1, r2, r3, rest⟩ := C p hp
        refine ⟨o, us, file, tf, flags, tg, inF, text, tt, hidT_get e1 (untold e1 (fun v n z => by rw [r2] at z; cases z) fun z => ?_), r1, r2, r3, rest⟩
        rw [r2] at z
        cases z
        simp at r3
      · intro q
        obtain ⟨o, es, ep, e, hd, _⟩ := hns
        rw [q, e] at b3; cases b3; rw [hd] at b6; cases b6
      · intro q
        rw [q, tp] at b3; cases b3; cases b6
      · intro z
        obtain ⟨o, es, ep, e, hd, _⟩ := hns
        rw [z, tp] at e; cases e; cases hd
    have e0 : Env0 P w K mg (hidT s1.heap H) callerA [] s1 H :=
      ⟨rfl, md, fun b o e => of_hidT e, Nat.le_of_eq (hidT_size _ _), trivial, fun b hb => absurd hb (by simp [frs]), hok, .of_eq hg⟩
    refine codeAny_mono ((F _ kin (ns1 hns) tabs).run callerA [] s1 H ⟨[.ref a], []⟩ [.ref a] [.ref a] _ _ rfl hr e0 (hbind s1 (.ref a)) (.cons rfl .nil) (hsp H fresh seq)) fun r s' h => ?_
    match r, h with
    | .error e, h => exact h.elim
    | .ok .next, h => exact h.elim
    | .ok .brk, h => exact h.elim
    | .ok .cont, h => exact h.elim
    | .ok (.ret u), ⟨v, H', os, bare, un, hok', r', q⟩ =>
      have q' : v = .bl true := q
      subst q'
      obtain rfl : u = Value.bool true := r'
      have stays : ∀ b o, b ∉ cs.map (·.2) → s1.heap.get? b = some o → s'.heap.get? b = some o := by
        intro b o nb e
        cases z : H b with
        | none => exact un.keep b o e z (by simp [frs]) (by simp)
        | some u =>
          rcases fresh.o b with n | n | ⟨ob, xs, n⟩
          · rw [z] at n; cases n
          · exact absurd n nb
          · have same : s1.heap.get? b = some ob := (hok b _ n).1
            have after : s'.heap.get? b = some ob := (hok' b _ (un.frzs b ob _ n)).1
            rw [e] at same
            cases same
            exact after
      have grown : ∀ p ∈ cs, ∃ more : Array Value, s'.heap.get? p.2 = some { cls := .none, data := .fields more } := by
        intro p hp
        obtain ⟨more, z⟩ := un.tbls p.2 #[] (fresh.t p hp)
        exact ⟨_, hok' p.2 _ z⟩
      refine ⟨rfl, ⟨fun b o e => ?_, fun b o e => ?_⟩, os, bare⟩
      · by_cases z : b ∈ cs.map (·.2)
        · obtain ⟨p, hp, rfl⟩ := List.mem_map.mp z
          obtain ⟨more, hm⟩ := grown p hp
          rw [hT p hp] at e
          cases e
          exact .inr (.inl ⟨((C p hp).tab (hT p hp)).isCodeTable, rfl, #[], more, rfl, by rw [Array.empty_append]; exact hm⟩)
        · exact .inl (stays b o z e)
      · by_cases z : b ∈ cs.map (·.2)
        · obtain ⟨p, hp, rfl⟩ := List.mem_map.mp z
          obtain ⟨more, hm⟩ := grown p hp
          exact ⟨_, hm⟩
        · exact ⟨o, stays b o z e⟩
  -- the heap that is told of
  let tb : Hp := fun b => if b ∈ cs.map (·.2) then some (.tbl #[]) else none
  have tb_in : ∀ {b}, b ∈ cs.map (·.2) → tb b = some (.tbl #[]) := fun h => if_pos h
  have tb_out : ∀ {b}, b ∉ cs.map (·.2) → tb b = none := fun h => if_neg h
  have tb_ok : ∀ b u, tb b = some u → b ∈ cs.map (·.2) ∧ u = .tbl #[] := by
    intro b u z
    by_cases h : b ∈ cs.map (·.2)
    · rw [tb_in h] at z; exact ⟨h, (Option.some.inj z).symm⟩
    · rw [tb_out h] at z; cases z
  cases hk : K.lookup a with
  | some o =>
    have e := KX a o hk
    rw [ha] at e
    cases e
    refine main tb ⟨fun p hp => tb_in (memT p hp), fun b => ?_⟩ (.inr ⟨_, vs.toArray, _, hk, rfl, rfl, rfl, ?_, ?_⟩) (fun b u z => ?_) (fun b u z => .inr (tb_ok b u z).1)
    · by_cases h : b ∈ cs.map (·.2)
      · exact .inr (.inl h)
      · exact .inl (tb_out h)
    · rw [List.size_toArray, hi.length]; exact hl
    · simpa using rv
    · obtain ⟨h, rfl⟩ := tb_ok b u z
      exact isT b h
  | none =>
    have at_a : upd tb a (HO.frz { cls := .type "list", data := .seq vs.toArray } (.lst (ns.map V.int))) a = some (.frz { cls := .type "list", data := .seq vs.toArray } (.lst (ns.map V.int))) := upd_same
    refine main (upd tb a (.frz { cls := .type "list", data := .seq vs.toArray } (.lst (ns.map V.int)))) ⟨fun p hp => ?_, fun b => ?_⟩ (.inl (.inr ⟨_, at_a⟩)) (fun b u z => ?_) (fun b u z => ?_)
    · have ne : p.2 ≠ a := fun z => aT (by rw [← z]; exact memT p hp)
      rw [upd_ne ne]
      exact tb_in (memT p hp)
    · by_cases h : b = a
      · exact .inr (.inr ⟨_, _, by rw [h]; exact at_a⟩)
      · rw [upd_ne h]
        by_cases h : b ∈ cs.map (·.2)
        · exact .inr (.inl h)
        · exact .inl (tb_out h)
    · by_cases h : b = a
      · subst h
        rw [at_a] at z
        cases z
        refine ⟨ha, ?_, vs, _, rv, ha⟩
        rw [List.length_map]; exact hl
      · rw [upd_ne h] at z
        obtain ⟨h, rfl⟩ := tb_ok b u z
        exact isT b h
    · by_cases h : b = a
      · exact .inl ⟨h, hk⟩
      · rw [upd_ne h] at z
        exact .inr (tb_ok b u z).1
theorem walkTG {l : PySem.W.OpenLaw} {n k : Nat} {q : Program} {loose : List Str} {XP : (Str → Option Value) → Heap → Prop} {YP : World → Heap → Prop} {d : DefRec} {K : Params → PySem.W.Frag} {x : Str}
    (hn : l.most = some n) (hn2 : n ≤ sizeLine) (hdf : d.params.defaults = []) (hr : Room k callerA) (hY : ∀ (w : World) (h : Heap), YP w h → (K w.params).In h)
    (F : ∀ (w : World) (mg : Str → Option Value) (fa : Addr) (h : Heap), YP w h → (K w.params).In h → h.Ns mainGlobals mg → mg d.name = some (.ref fa) →
      ∃ (fd : FuncData) (cs : List (Addr × Addr)) (sp : Sp), (∀ p ∈ cs, h.get? p.2 = some { cls := .none, data := .fields #[] }) ∧ (∀ p ∈ cs, (K w.params).lookup p.2 = none) ∧ (∀ p ∈ cs, PySem.W.CodeHd h p.1 p.2) ∧ (∀ (s : Shared) (u : Value), BindsTo s fd ⟨[u], []⟩ [(x, u)]) ∧
        (∀ (H : Hp) (a : Addr) (ns : List Int), ns.length ≤ n → Fresh cs H → SqL (K w.params) H a (ns.map V.int) → sp [.ref a] H (fun v _ => v = .bl true) fun _ _ _ => False) ∧
        ∀ base : Heap, (K w.params).In base → base.Ns mainGlobals mg → (∀ p ∈ cs, LamX.TabB base mg p.1 p.2) → FnOkG l.prog w (K w.params) mg base CX0 k fa fd [x] sp) :
    PySem.W.WalkO q loose XP YP l.row.toRowW d [] (fun f vs => PySem.call f vs) := by
  refine Att.attach_call hn hdf ?_
  intro w s0 s1 mg mb fa o pm cd doc a vs ns G Y ho hd hcd hmg hobj hints hlen hg
  obtain ⟨fd, cs, sp, hT, nT, C, hb, hsp, hF⟩ := F w mg fa _ Y (hY w _ Y) G.T.g hmg
  exact law_callTG (hY w _ Y) G.T.g G.T.b G.T.builtins G.T.nolimit hg hT nT C G.T.bmain hobj hints (Nat.le_trans hlen hn2) hr hF hb fun H fr hS => hsp H a ns hlen fr hS
end Nm

set_option Elab.async false
set_option linter.all false
set_option maxRecDepth 100000
set_option maxHeartbeats 2000000
/-! readings where a table of code objects grows -/
namespace Nm
open PySem PySem.Spec L2 PyProof.Rows
section
variable {K : PySem.W.Frag} {F F' F0 H0 H H' : Hp} {σ : L2.St} {r : List Sl} {DE : Ends} {P : Addr} {qn x : Str} {tb : TE}
/-- what is walked, where the walk's making may change what M names -/
theorem s_forY {ts : TS} {M : List Addr} {Px : Hp → Hp → Prop} (Pv : Nat → Hp → Hp → List Sl → Prop) {items : List D} {wi : TI} {g : TG} (u : D → List Sl → List Sl) (S : Same F H) (E : EnvD K F r σ)
    (hi : ∀ R : It → Hp → Prop, (∀ J F' H', Ext M F H F' H' → Px F' H' → WalkD K F' J items → R J H') → wi σ H R) (hg : ∀ d, d ∈ items → TgD K g d (u d))
    (h0 : ∀ F' H', Ext M F H F' H' → Px F' H' → Pv 0 F' H' r) (pS : ∀ i F' H' r', Pv i F' H' r' → Same F' H')
    (hs : ∀ i d F1 H1 F2 H2 r' σ' (N : L2.St → Hp → Prop), items[i]? = some d → Same F F1 → Pv i F1 H1 r' → Ext [] F1 H1 F2 H2 → EnvD K F2 (u d r') σ' →
      (∀ F3 H3 r3 σ3, Same F2 F3 → EnvD K F3 r3 σ3 → Pv (i + 1) F3 H3 r3 → N σ3 H3) → ts { DE with nx := N, ct := N, bk := DE.nx } σ' H2)
    (hd : ∀ F' H' r' σ', Same F F' → EnvD K F' r' σ' → Pv items.length F' H' r' → DE.nx σ' H') : tFor wi g ts DE σ H :=
  hi _ fun J F1 H1 x1 px W1 => by
    obtain ⟨G, Y, w, hg', hy⟩ := W1
    refine ⟨fun i m σ3 H3 => m = items.length - i ∧ i ≤ items.length ∧ ∃ F3 r3, Same F1 F3 ∧ EnvD K F3 r3 σ3 ∧ Pv i F3 H3 r3, ⟨items.length, by simp, Nat.zero_le _, F1, r, Same.refl _, E.up x1.f, h0 F1 H1 x1 px⟩, ?_⟩
    rintro i m σ3 H3 ⟨rfl, hle, F3, r3, e, E3, p⟩
    have s3 := pS _ _ _ _ p
    have hG := hg' H3 (e.trans s3)
    by_cases hlt : i < items.length
    · refine .inr ⟨w.goes i H3 hlt hG, fun σ' H' => ∃ F4 r4, Same F1 F4 ∧ EnvD K F4 r4 σ' ∧ Pv (i + 1) F4 H' r4, fun σ' H' q => ⟨items.length - (i + 1), by omega, rfl, hlt, q⟩, fun v H4 y => ?_⟩
      obtain ⟨d, F2, h1, h2, h3⟩ := hy i H3 v H4 hlt (e.trans s3) (w.yields i H3 v H4 hlt hG y)
      have x2 := Ext.uni e s3 h2
      have h3' : Den K (uni F3 F2) v d := h3.up (uni_r (s3.trans h2.same) h2.s)
      refine hg d (List.mem_of_getElem? h1) _ H4 r3 σ3 v _ x2.s (E3.up x2.f) h3' fun σ' E' => ?_
      exact hs i d F3 H3 _ H4 r3 _ _ h1 (x1.f.trans e) p x2 E' fun F5 H5 r5 σ5 x5 E5 p5 => ⟨F5, r5, (e.trans x2.f).trans x5, E5, p5⟩
    · have ei : i = items.length := by omega
      subst ei
      exact .inl ⟨w.stops H3 hG, hd F3 H3 r3 σ3 (x1.f.trans e) E3 p⟩
/-- the table at P may have grown -/
structure TabIn (P : Addr) (qn : Str) (F H : Hp) : Prop where
  f : F P = none
  t : LamX.TabS H P qn
theorem TabIn.ne {p : Addr} (w : TabIn P qn F H) (h : H p = none) : p ≠ P := fun z => by
  obtain ⟨ps, e, _⟩ := w.t
  rw [z, e] at h
  cases h
theorem TabIn.has (w : TabIn P qn F H) : H P ≠ none := by
  obtain ⟨ps, e, _⟩ := w.t
  rw [e]; simp
theorem TabIn.ext {M : List Addr} (w : TabIn P qn F H) (e : Ext [] F H F' H') : TabIn P qn F' H' := ⟨e.n P w.f w.has, w.t.ext fun b o z => e.same b o z⟩
theorem TabIn.keep (w : TabIn P qn F H) (f : F' P = none) (k : ∀ c o, H c = some o → (∀ xs, o ≠ .lst xs) → (∀ kvs, o ≠ .dK kvs) → H' c = some o) : TabIn P qn F' H' := by
  obtain ⟨ps, e, h1, h2⟩ := w.t
  refine ⟨f, ps, k _ _ e (fun _ z => by cases z) (fun _ z => by cases z), h1, fun pos cv hc => ?_⟩
  obtain ⟨c, e1, e2⟩ := h2 pos cv hc
  exact ⟨c, e1, k _ _ e2 (fun _ z => by unfold LamX.CodeO at z; cases z) (fun _ z => by unfold LamX.CodeO at z; cases z)⟩
/-- for x in sorted(texts, key=lambda) -/
theorem ei_sortL {ws : List (List Nat)} {te : TE} (S : Same F H) (h : EvD K te σ F (.lst (ws.map txt))) (t : TabIn P qn F H) (hk : ∀ w ∈ ws, LamKey K x tb w) (R : It → Hp → Prop)
    (q : ∀ J F' H', Ext [P] F H F' H' → TabIn P qn F' H' → WalkD K F' J ((sortW ws).map txt) → R J H') : iSeq K (tSortL K P qn x tb (tCons te tNil)) σ H R := .inl (h H S _ fun v F1 H1 x1 d1 => by
  cases d1 with
  | lst e l =>
    rename_i a xs
    rw [dtxt_map l] at e
    have t1 := t.ext (M := []) x1
    refine ⟨F1, a, ws, rfl, x1.s, SqL.of e, t1.f, t1.t, hk, fun p F2 H2 np x2 T2 f2 np2 pP => ?_⟩
    have F2p : F2 p = none := x2.s.free np2
    have x3 := Ext.new (o := .lst ((sortW ws).map tv)) x2.s np2
    have X : Ext [P] F H (upd F2 p (.lst ((sortW ws).map tv))) (upd H2 p (.lst ((sortW ws).map tv))) := (x1.tr x2).tl x3
    have t3 : TabIn P qn (upd F2 p (.lst ((sortW ws).map tv))) (upd H2 p (.lst ((sortW ws).map tv))) := ⟨by rw [upd_ne (Ne.symm pP)]; exact f2, T2.ext fun b o z => x3.same b o z⟩
    refine ⟨p, rfl, ⟨_, SqL.of upd_same⟩, q _ _ _ X t3 ⟨fun H => SqL K H p ((sortW ws).map tv), YAt ((sortW ws).map tv), ?_, fun H s => SqL.of (s _ _ upd_same), fun i H x H' hi s y => ?_⟩⟩
    · rw [show ((sortW ws).map txt).length = ((sortW ws).map tv).length by rw [List.length_map, List.length_map]]
      exact walk_list
    · obtain ⟨rfl, y⟩ := y
      obtain ⟨d, h1, h2⟩ := (den_map (K := K) (F := upd F2 p (.lst ((sortW ws).map tv))) (sortW ws)).getV y
      exact ⟨d, _, h1, Ext.refl s, h2⟩)
/-- a promise of a list of lists whose making lets the table grow -/
def spTab (K : PySem.W.Frag) (P : Addr) (qn : Str) (n : Nat) (R : List D → List (List D) → Prop) : Sp := fun vs H Q _ => ∃ F ds gs, Same F H ∧ TabIn P qn F H ∧ DenL K F vs ds ∧ R ds gs ∧ ds.length = n ∧ ∀ v F' H', Ext [P] F H F' H' → TabIn P qn F' H' → Den K F' v (.lst (gs.map D.lst)) → Q v H'
theorem spTab_len {n : Nat} {R : List D → List (List D) → Prop} {vs : List V} {Q : VK} {E : XK} (h : spTab K P qn n R vs H Q E) : vs.length = n := by
  obtain ⟨F, ds, d, _, _, l, _, e, _⟩ := h
  rw [l.length, e]
end
/-- the body of a def whose code object is known by its address -/
theorem fnC {Pg : Program} {w : World} {K : PySem.W.Frag} {mg : Str → Option Value} {base : Heap} {k : Nat} {f c : Addr} {fd : FuncData} {ps : List Str} {sp : Sp} {x qual : Str} {st : Stmt} {N : List Str} (Fn : Fun K x qual st f fd) (S : FnScope N ps (defScope st)) (hc : fd.code = .ref c) (len : ∀ vs H Q E, sp vs H Q E → vs.length = ps.length)
    (hbody : ∀ (A : Around) (outer : List Env) (s : Shared) (H : Hp) (vs : List V) (Q : VK) (E : XK), Room k (A.deeper (envOfC qual (defScope st) s.heap.objs.size f (.ref c))) → sp vs H Q E →
      ∃ t, PSs (cxOf CX0 Pg w K mg base N qual (defScope st) f (.ref c) A outer s H E).nox (defBody st) t ∧ t { nx := fun _ H' => Q .non H', rt := Q } (start N vs) H) : FnOk Pg w K mg base CX0 (k + 1) f fd ps sp := by
  obtain ⟨oc, od, kV, doc, pm, an, cdv, ct, osl, hfd, lk, hcd⟩ := Fn.ex
  subst hfd
  have ec : cdv = .ref c := hc
  subst ec
  refine ⟨len, fun A outer s H args us vs Q E hr e0 hb r hsp => ?_⟩
  refine LamX.run_ofS lk hcd S hr e0 hb r (len _ _ _ _ hsp) fun hr' => ?_
  obtain ⟨t, h1, h2⟩ := hbody A outer s H vs Q E hr' hsp
  exact ⟨t, h1.nox, h2⟩
end Nm

set_option Elab.async false
set_option linter.all false
set_option maxRecDepth 100000
set_option maxHeartbeats 2000000
/-! loops of a law beside a table that grows -/
namespace Nm
open PySem PySem.Spec L2
section
variable {K : PySem.W.Frag} {F F1 F2 F0 H0 H H1 H2 : Hp} {σ : L2.St} {te ta tb : TE} {r : List Sl} {DE : Ends} {tz : TS} {d e : D} {b p P : Addr} {qn : Str} {R : Nat → List Sl → Prop}
theorem Ext.forget2 {M : List Addr} (x : Ext [] F H F1 H1) (y : Ext (b :: M) F1 H1 F2 H2) (hb : H b = none) : Ext M F H F2 H2 :=
  ⟨x.f.trans y.f, fun a o m h => y.h a o (fun z => by
    rcases List.mem_cons.mp z with rfl | z
    · rw [hb] at h; cases h
    · exact m z) (x.same a o h), y.s, fun a h k => y.n a (x.n a h k) (x.k a k), fun a h => y.k a (x.k a h)⟩
theorem q_cellsT {body : TS} {a : Addr} {ns : List Int} {j t : Nat} {lo hi : Int} {E : XK} (S : Same F H) (EV : EnvD K F r σ) (T : TabIn P qn F H) (sq : SqL K F a (ns.map V.int)) (hlen : ns.length ≤ 63) (hlo : 0 ≤ lo ∧ lo ≤ 100) (hhi : 0 ≤ hi ∧ hi ≤ 100) (h0 : ∀ i r, R i r → r[0]? = some (.v (.ref a))) (hlj : ∀ i r, R i r → j < r.length) (hj : j ≠ 0) (hr : R 0 r)
    (hb : ∀ (i m : Nat) F2 H2 b r' σ' (N : L2.St → Hp → Prop), Same F F2 → Same F2 H2 → R i r' → BagAt F2 H2 b 1000000000 → TabIn P qn F2 H2 → b ≠ P → EnvD K F2 ((r'.set j (.d (.int (m : Nat)))).set t (.v (.ref b))) σ' → (∀ F3 H3 r3 σ3, Ext [b, P] F2 H2 F3 H3 → TabIn P qn F3 H3 → EnvD K F3 r3 σ3 → R (i + 1) r3 → N σ3 H3) → body { DE with nx := N, ct := N, bk := tz DE } σ' H2)
    (hd : ∀ (i : Nat) F' H' r' σ', lo ≤ (i : Int) → Same F F' → Same F' H' → EnvD K F' r' σ' → R i r' → tz DE σ' H') :
    tSeq (tFor (iRng1 (tCons (tCB rMax2 (tCons (tC (.int lo)) (tCons (tCB rMin2 (tCons (tC (.int hi)) (tCons (tCB (rLenA K) (tCons (tVar 0) tNil)) tNil))) tNil))) tNil)) (gName j) (tSeq (tAsg (tCall (spBag K) [] E (tCons (tVar 0) (tCons (tVar j) tNil))) (gName t)) body)) tz DE σ H := by
  have lenS : EvD K (tCB (rLenA K) (tCons (tVar 0) tNil)) σ F (.int (ns.length : Int)) := fun H4 s4 Q4 q4 => by
    obtain ⟨o, g1, g2⟩ := EV.get (h0 0 r hr)
    have g2 : o = some (.ref a) := g2
    subst g2
    exact ⟨.ref a, g1, .inl ⟨a, _, rfl, .inl (same_l s4 sq), by rw [List.length_map]; exact q4 _ F H4 (Ext.refl s4) (.int _)⟩⟩
  have rng := ei_rng1 (K := K) (ea_cons (ev_cb (ea_cons (ev_c (.int lo)) (ea_cons (ev_cb (ea_cons (ev_c (.int hi)) (ea_cons lenS ea_nil)) rc_min2) ea_nil)) rc_max2) ea_nil) (by split <;> split <;> omega) (by split <;> split <;> omega)
  refine q_for [P] (fun i F' H' r' => R i r' ∧ TabIn P qn F' H') S EV rng (fun _ _ x => ⟨hr, T.ext (M := []) x⟩) ?_ (fun F' H' r' σ' x E' p => hd _ F' H' r' σ' ?_ x.f x.s E' p.1)
  · rintro i d F1 H1 F2 H2 r' σ' N hdd x1 ⟨hr', t1⟩ x2 E2 kN
    obtain ⟨m, rfl, hm⟩ : ∃ m : Nat, d = .int (m : Nat) ∧ m ≤ 1000 := by
      rw [List.getElem?_map] at hdd
      obtain ⟨m, h1, h2⟩ := Option.map_eq_some_iff.mp hdd
      have h3 := (List.getElem?_eq_some_iff.mp h1).1
      have e := (List.getElem?_eq_some_iff.mp h1).2
      rw [List.getElem_range] at e
      rw [List.length_range] at h3
      refine ⟨m, h2.symm, ?_⟩
      have : (if (if (ns.length : Int) < hi then (ns.length : Int) else hi) > lo then (if (ns.length : Int) < hi then (ns.length : Int) else hi) else lo) ≤ 100 := by split <;> split <;> omega
      omega
    refine q_bag x2.s E2 (by rw [List.getElem?_set_ne hj]; exact h0 i r' hr') (by rw [List.getElem?_set_self (hlj i r' hr')]) hm (same_l (x1.f.trans x2.f) sq) fun b H3 σ3 hb' x3 w3 E3 => ?_
    have t2 := t1.ext (M := []) x2
    exact hb i m F2 H3 b r' σ3 N (x1.f.trans x2.f) x3.s hr' w3 (t2.ext (M := []) x3) (t2.ne hb') E3 fun F4 H4 r4 σ4 x4 t4 E4 h4 => kN F4 H4 r4 σ4 (Ext.forget2 x3 x4 hb') E4 ⟨h4, t4⟩
  · rw [List.length_map, List.length_range]
    split <;> split <;> omega
/-- a for whose body draws at most c numbers -/
theorem s_turnsT {body : TS} {items : List D} {wi : TI} {j n : Nat} (c : Nat) (S : Same F H) (EV : EnvD K F r σ) (w : BagAt F H b (n + items.length * c)) (T : TabIn P qn F H) (bP : b ≠ P) (hi : EvI K wi σ F items) (hr : R 0 r)
    (hs : ∀ i d F2 H2 r' σ' m (N : L2.St → Hp → Prop), d ∈ items → Same F F2 → Same F2 H2 → R i r' → BagAt F2 H2 b (m + c) → TabIn P qn F2 H2 → EnvD K F2 (r'.set j (.d d)) σ' → (∀ F3 H3 r3 σ3, Ext [b, P] F2 H2 F3 H3 → BagAt F3 H3 b m → TabIn P qn F3 H3 → EnvD K F3 r3 σ3 → R (i + 1) r3 → N σ3 H3) → body { DE with nx := N, ct := N, bk := DE.nx } σ' H2)
    (hd : ∀ F' H' r' σ', Ext [b, P] F H F' H' → BagAt F' H' b n → TabIn P qn F' H' → EnvD K F' r' σ' → R items.length r' → DE.nx σ' H') : tFor wi (gName j) body DE σ H := by
  refine s_for [b, P] (fun i F' H' r' => R i r' ∧ BagAt F' H' b (n + (items.length - i) * c) ∧ TabIn P qn F' H') S EV hi (fun F' H' x => ⟨hr, w.ext0 x, T.ext (M := []) x⟩) ?_ ?_
  · rintro i d F1 H1 F2 H2 r' σ' N hdd x1 ⟨hr', w1, t1⟩ x2 E2 kN
    have hlt : i < items.length := (List.getElem?_eq_some_iff.mp hdd).1
    have e : (items.length - i) * c = (items.length - (i + 1)) * c + c := by
      have : items.length - i = (items.length - (i + 1)) + 1 := by omega
      rw [this, Nat.add_mul, Nat.one_mul]
    refine hs i d F2 H2 r' σ' (n + (items.length - (i + 1)) * c) N (List.mem_of_getElem? hdd) (x1.f.trans x2.f) x2.s hr' ((w1.ext0 x2).less (by omega)) (t1.ext (M := []) x2) E2 fun F3 H3 r3 σ3 x3 w3 t3 E3 h3 => kN F3 H3 r3 σ3 x3 E3 ⟨h3, w3, t3⟩
  · rintro F' H' r' σ' x E' ⟨h1, h2, h3⟩
    exact hd F' H' r' σ' x (h2.less (by omega)) h3 E' h1
/-- x, y = a list of lists whose making lets the table grow, e -/
theorem q_parTab {i j n : Nat} {RR : List D → List (List D) → Prop} {tr : TA} {XE : XK} {ds : List D} {gs : List (List D)} (S : Same F H) (E : EnvD K F r σ) (T : TabIn P qn F H) (ha : EvA K tr σ F ds) (hR : RR ds gs) (hn : ds.length = n) (hb : EvD K tb σ F e)
    (k : ∀ F' H' σ', Ext [P] F H F' H' → TabIn P qn F' H' → EnvD K F' ((r.set i (.d (.lst (gs.map D.lst)))).set j (.d e)) σ' → tz DE σ' H') : tSeq (tPar i j (tCons (tCall (spTab K P qn n RR) [] XE tr) (tCons tb tNil))) tz DE σ H :=
  ha H S _ fun vs F1 H1 x1 l1 => ⟨F1, ds, gs, x1.s, T.ext (M := []) x1, by rw [List.append_nil]; exact l1, hR, hn, fun v F2 H2 x2 t2 dv => (hb.up (x1.f.trans x2.f)) H2 x2.s _ fun z F3 H3 x3 dz =>
    ⟨v, z, rfl, k F3 H3 _ ((x1.tr x2).tl x3) (t2.ext (M := []) x3) (EnvD.set j (EnvD.set i (((E.up x1.f).up x2.f).up x3.f) ⟨_, rfl, dv.up x3.f⟩) ⟨_, rfl, dz⟩)⟩⟩
/-! ### lent for a while, all at once -/
def delS (S : List Addr) (F : Hp) : Hp := fun a => if a ∈ S then none else F a
theorem delS_in {S : List Addr} {a : Addr} (h : a ∈ S) : delS S F a = none := if_pos h
theorem delS_out {S : List Addr} {a : Addr} (h : a ∉ S) : delS S F a = F a := if_neg h
theorem Ext.thawS {M : List Addr} {S : List Addr} (hS : ∀ a ∈ S, F a = none) (x : Ext M (frzS S F H) H F1 H1) : Ext M F H (delS S F1) H1 := by
  refine ⟨fun a u h => ?_, x.h, fun a u h => ?_, fun a h k => ?_, x.k⟩
  · have z : a ∉ S := fun z => by rw [hS a z] at h; cases h
    rw [delS_out z]
    exact x.f a u (by rw [frzS_out z]; exact h)
  · by_cases z : a ∈ S
    · rw [delS_in z] at h; cases h
    · rw [delS_out z] at h; exact x.s a u h
  · by_cases z : a ∈ S
    · exact delS_in z
    · rw [delS_out z]; exact x.n a (by rw [frzS_out z]; exact h) k
theorem LolAt.thaw {q : Addr} {rows : List LRow} {gs : List (List D)} (w : LolAt K H0 F H q rows gs) (x : Ext [] (frzS (lolS q rows) F H) H F1 H1) : Ext [] F H (delS (lolS q rows) F1) H1 ∧ LolAt K H0 (delS (lolS q rows) F1) H1 q rows gs := by
  have X := Ext.thawS (fun a z => (w.offs a z).2) x
  exact ⟨X, w.ext X⟩
end
end Nm

set_option Elab.async false
set_option linter.all false
set_option maxRecDepth 100000
set_option maxHeartbeats 4000000
namespace Nm
open PySem PySem.Spec L2 PyProof.Rows
def top (i : Nat) : Stmt := PySem.Challenge.pw_namesone_k14_groups_and_bars.main.body.getD i (.Pass ⟨0, 0, 0, 0⟩)
abbrev s_is_sign : Stmt := top 16
abbrev N_is_sign : List Str := ["thing"]
abbrev P_is_sign : List Str := ["thing"]
theorem sc_is_sign : FnScope N_is_sign P_is_sign (defScope s_is_sign) := ⟨rfl, rfl, rfl, by decide +kernel, rfl, by decide +kernel, by decide +kernel⟩
abbrev s_has_signs : Stmt := top 17
abbrev N_has_signs : List Str := ["thing", "most", "sign"]
abbrev P_has_signs : List Str := ["thing", "most"]
theorem sc_has_signs : FnScope N_has_signs P_has_signs (defScope s_has_signs) := ⟨rfl, rfl, rfl, by decide +kernel, rfl, by decide +kernel, by decide +kernel⟩
abbrev s_is_class : Stmt := top 19
abbrev N_is_class : List Str := ["thing"]
abbrev P_is_class : List Str := ["thing"]
theorem sc_is_class : FnScope N_is_class P_is_class (defScope s_is_class) := ⟨rfl, rfl, rfl, by decide +kernel, rfl, by decide +kernel, by decide +kernel⟩
abbrev s_word_order : Stmt := top 20
abbrev N_word_order : List Str := ["word"]
abbrev P_word_order : List Str := ["word"]
theorem sc_word_order : FnScope N_word_order P_word_order (defScope s_word_order) := ⟨rfl, rfl, rfl, by decide +kernel, rfl, by decide +kernel, by decide +kernel⟩
abbrev s_look_folds : Stmt := top 21
abbrev N_look_folds : List Str := ["folds", "sign", "word", "one"]
abbrev P_look_folds : List Str := ["folds"]
theorem sc_look_folds : FnScope N_look_folds P_look_folds (defScope s_look_folds) := ⟨rfl, rfl, rfl, by decide +kernel, rfl, by decide +kernel, by decide +kernel⟩
abbrev s_look_marks : Stmt := top 22
abbrev N_look_marks : List Str := ["marks", "folds", "sign"]
abbrev P_look_marks : List Str := ["marks", "folds"]
theorem sc_look_marks : FnScope N_look_marks P_look_marks (defScope s_look_marks) := ⟨rfl, rfl, rfl, by decide +kernel, rfl, by decide +kernel, by decide +kernel⟩
abbrev s_in_order : Stmt := top 23
abbrev N_in_order : List Str := ["run", "marks", "number", "mark"]
abbrev P_in_order : List Str := ["run", "marks"]
theorem sc_in_order : FnScope N_in_order P_in_order (defScope s_in_order) := ⟨rfl, rfl, rfl, by decide +kernel, rfl, by decide +kernel, by decide +kernel⟩
abbrev s_ordered_runs : Stmt := top 24
abbrev N_ordered_runs : List Str := ["string", "marks", "sign", "found", "run"]
abbrev P_ordered_runs : List Str := ["string", "marks"]
theorem sc_ordered_runs : FnScope N_ordered_runs P_ordered_runs (defScope s_ordered_runs) := ⟨rfl, rfl, rfl, by decide +kernel, rfl, by decide +kernel, by decide +kernel⟩
abbrev s_key_of : Stmt := top 25
abbrev N_key_of : List Str := ["rule", "string", "folds", "marks", "sign"]
abbrev P_key_of : List Str := ["rule", "string"]
theorem sc_key_of : FnScope N_key_of P_key_of (defScope s_key_of) := ⟨rfl, rfl, rfl, by decide +kernel, rfl, by decide +kernel, by decide +kernel⟩
abbrev s_Table___init : Stmt := inClass (top 26) 0
abbrev N_Table___init : List Str := ["self", "folds", "marks", "rows", "limit"]
abbrev P_Table___init : List Str := ["self", "folds", "marks"]
theorem sc_Table___init : FnScope N_Table___init P_Table___init (defScope s_Table___init) := ⟨rfl, rfl, rfl, by decide +kernel, rfl, by decide +kernel, by decide +kernel⟩
abbrev s_Table_folds : Stmt := inClass (top 26) 2
abbrev N_Table_folds : List Str := ["self"]
abbrev P_Table_folds : List Str := ["self"]
theorem sc_Table_folds : FnScope N_Table_folds P_Table_folds (defScope s_Table_folds) := ⟨rfl, rfl, rfl, by decide +kernel, rfl, by decide +kernel, by decide +kernel⟩
abbrev s_Table_marks : Stmt := inClass (top 26) 3
abbrev N_Table_marks : List Str := ["self"]
abbrev P_Table_marks : List Str := ["self"]
theorem sc_Table_marks : FnScope N_Table_marks P_Table_marks (defScope s_Table_marks) := ⟨rfl, rfl, rfl, by decide +kernel, rfl, by decide +kernel, by decide +kernel⟩
abbrev s_groups : Stmt := top 28
abbrev N_groups : List Str := ["table", "names", "found", "name"]
abbrev P_groups : List Str := ["table", "names"]
theorem sc_groups : FnScope N_groups P_groups (defScope s_groups) := ⟨rfl, rfl, rfl, by decide +kernel, rfl, by decide +kernel, by decide +kernel⟩
abbrev s_bar : Stmt := top 29
abbrev N_bar : List Str := ["table", "names", "several", "group"]
abbrev P_bar : List Str := ["table", "names"]
theorem sc_bar : FnScope N_bar P_bar (defScope s_bar) := ⟨rfl, rfl, rfl, by decide +kernel, rfl, by decide +kernel, by decide +kernel⟩
abbrev s_put : Stmt := top 31
abbrev N_put : List Str := ["string", "at", "many", "word"]
abbrev P_put : List Str := ["string", "at", "many", "word"]
theorem sc_put : FnScope N_put P_put (defScope s_put) := ⟨rfl, rfl, rfl, by decide +kernel, rfl, by decide +kernel, by decide +kernel⟩
abbrev s_by_folds : Stmt := top 32
abbrev N_by_folds : List Str := ["folds", "string", "found", "at", "one", "sign", "word"]
abbrev P_by_folds : List Str := ["folds", "string"]
theorem sc_by_folds : FnScope N_by_folds P_by_folds (defScope s_by_folds) := ⟨rfl, rfl, rfl, by decide +kernel, rfl, by decide +kernel, by decide +kernel⟩
abbrev s_by_marks : Stmt := top 33
abbrev N_by_marks : List Str := ["marks", "string", "found", "at", "pair", "one", "other"]
abbrev P_by_marks : List Str := ["marks", "string"]
theorem sc_by_marks : FnScope N_by_marks P_by_marks (defScope s_by_marks) := ⟨rfl, rfl, rfl, by decide +kernel, rfl, by decide +kernel, by decide +kernel⟩
abbrev s_exchanges : Stmt := top 34
abbrev N_exchanges : List Str := ["table", "word"]
abbrev P_exchanges : List Str := ["table", "word"]
theorem sc_exchanges : FnScope N_exchanges P_exchanges (defScope s_exchanges) := ⟨rfl, rfl, rfl, by decide +kernel, rfl, by decide +kernel, by decide +kernel⟩
abbrev s_law_bag : Stmt := top 36
abbrev N_law_bag : List Str := ["_law_script", "_law_at", "_law_cell", "_law_digits"]
abbrev P_law_bag : List Str := ["_law_script", "_law_at"]
theorem sc_law_bag : FnScope N_law_bag P_law_bag (defScope s_law_bag) := ⟨rfl, rfl, rfl, by decide +kernel, rfl, by decide +kernel, by decide +kernel⟩
abbrev s_law_take : Stmt := top 37
abbrev N_law_take : List Str := ["_law_bag_here", "_law_many", "_law_mixed", "_law_digit"]
abbrev P_law_take : List Str := ["_law_bag_here", "_law_many"]
theorem sc_law_take : FnScope N_law_take P_law_take (defScope s_law_take) := ⟨rfl, rfl, rfl, by decide +kernel, rfl, by decide +kernel, by decide +kernel⟩
abbrev s_law_rule : Stmt := top 38
abbrev N_law_rule : List Str := ["_law_bag_here", "_law_sign", "_law_folds", "_law_marks", "_law_k"]
abbrev P_law_rule : List Str := ["_law_bag_here"]
theorem sc_law_rule : FnScope N_law_rule P_law_rule (defScope s_law_rule) := ⟨rfl, rfl, rfl, by decide +kernel, rfl, by decide +kernel, by decide +kernel⟩
abbrev s_law_word : Stmt := top 39
abbrev N_law_word : List Str := ["_law_bag_here", "_law_most", "_law_signs", "_law_k"]
abbrev P_law_word : List Str := ["_law_bag_here", "_law_most"]
theorem sc_law_word : FnScope N_law_word P_law_word (defScope s_law_word) := ⟨rfl, rfl, rfl, by decide +kernel, rfl, by decide +kernel, by decide +kernel⟩
abbrev s_law_key : Stmt := top 40
abbrev N_law_key : List Str := ["_law_rule_here", "_law_word_here", "_law_folds", "_law_marks", "_law_signs", "_law_is_ready", "_law_at", "_law_one", "_law_other", "_law_sign"]
abbrev P_law_key : List Str := ["_law_rule_here", "_law_word_here"]
theorem sc_law_key : FnScope N_law_key P_law_key (defScope s_law_key) := ⟨rfl, rfl, rfl, by decide +kernel, rfl, by decide +kernel, by decide +kernel⟩
abbrev s_law_names : Stmt := top 41
abbrev N_law_names : List Str := ["_law_bag_here", "_law_table", "_law_many", "_law_found", "_law_turn", "_law_some", "_law_word_here"]
abbrev P_law_names : List Str := ["_law_bag_here", "_law_table", "_law_many"]
theorem sc_law_names : FnScope N_law_names P_law_names (defScope s_law_names) := ⟨rfl, rfl, rfl, by decide +kernel, rfl, by decide +kernel, by decide +kernel⟩
abbrev s_law_groups : Stmt := top 42
abbrev N_law_groups : List Str := ["_law_rule_here", "_law_names_here", "_law_found", "_law_name"]
abbrev P_law_groups : List Str := ["_law_rule_here", "_law_names_here"]
theorem sc_law_groups : FnScope N_law_groups P_law_groups (defScope s_law_groups) := ⟨rfl, rfl, rfl, by decide +kernel, rfl, by decide +kernel, by decide +kernel⟩
abbrev s_law : Stmt := top 43
abbrev N_law : List Str := ["_law_script", "_law_at", "_law_bag_here", "_law_turn", "_law_rule_here", "_law_table", "_law_names_here", "_law_told", "_law_several", "_law_pair", "_law_due", "_law_text", "_law_group"]
abbrev P_law : List Str := ["_law_script"]
theorem sc_law : FnScope N_law P_law (defScope s_law) := ⟨rfl, rfl, rfl, by decide +kernel, rfl, by decide +kernel, by decide +kernel⟩
/-- what the top has left -/
structure Txt (K : PySem.W.Frag) (mg : Str → Option Value) where
  a_is_sign : Addr
  fd_is_sign : FuncData
  g_is_sign : mg "is_sign" = some (.ref a_is_sign)
  k_is_sign : PySem.W.keepIn K (.ref a_is_sign) = true
  F_is_sign : Fun K "is_sign" "is_sign" s_is_sign a_is_sign fd_is_sign
  b_is_sign : Binds K fd_is_sign P_is_sign []
  a_has_signs : Addr
  fd_has_signs : FuncData
  g_has_signs : mg "has_signs" = some (.ref a_has_signs)
  k_has_signs : PySem.W.keepIn K (.ref a_has_signs) = true
  F_has_signs : Fun K "has_signs" "has_signs" s_has_signs a_has_signs fd_has_signs
  b_has_signs : Binds K fd_has_signs P_has_signs []
  a_is_class : Addr
  fd_is_class : FuncData
  g_is_class : mg "is_class" = some (.ref a_is_class)
  k_is_class : PySem.W.keepIn K (.ref a_is_class) = true
  F_is_class : Fun K "is_class" "is_class" s_is_class a_is_class fd_is_class
  b_is_class : Binds K fd_is_class P_is_class []
  a_word_order : Addr
  fd_word_order : FuncData
  g_word_order : mg "word_order" = some (.ref a_word_order)
  k_word_order : PySem.W.keepIn K (.ref a_word_order) = true
  F_word_order : Fun K "word_order" "word_order" s_word_order a_word_order fd_word_order
  b_word_order : Binds K fd_word_order P_word_order []
  a_look_folds : Addr
  fd_look_folds : FuncData
  g_look_folds : mg "look_folds" = some (.ref a_look_folds)
  k_look_folds : PySem.W.keepIn K (.ref a_look_folds) = true
  F_look_folds : Fun K "look_folds" "look_folds" s_look_folds a_look_folds fd_look_folds
  b_look_folds : Binds K fd_look_folds P_look_folds []
  a_look_marks : Addr
  fd_look_marks : FuncData
  g_look_marks : mg "look_marks" = some (.ref a_look_marks)
  k_look_marks : PySem.W.keepIn K (.ref a_look_marks) = true
  F_look_marks : Fun K "look_marks" "look_marks" s_look_marks a_look_marks fd_look_marks
  b_look_marks : Binds K fd_look_marks P_look_marks []
  a_in_order : Addr
  fd_in_order : FuncData
  g_in_order : mg "in_order" = some (.ref a_in_order)
  k_in_order : PySem.W.keepIn K (.ref a_in_order) = true
  F_in_order : Fun K "in_order" "in_order" s_in_order a_in_order fd_in_order
  b_in_order : Binds K fd_in_order P_in_order []
  a_ordered_runs : Addr
  fd_ordered_runs : FuncData
  g_ordered_runs : mg "ordered_runs" = some (.ref a_ordered_runs)
  k_ordered_runs : PySem.W.keepIn K (.ref a_ordered_runs) = true
  F_ordered_runs : Fun K "ordered_runs" "ordered_runs" s_ordered_runs a_ordered_runs fd_ordered_runs
  b_ordered_runs : Binds K fd_ordered_runs P_ordered_runs []
  a_key_of : Addr
  fd_key_of : FuncData
  g_key_of : mg "key_of" = some (.ref a_key_of)
  k_key_of : PySem.W.keepIn K (.ref a_key_of) = true
  F_key_of : Fun K "key_of" "key_of" s_key_of a_key_of fd_key_of
  b_key_of : Binds K fd_key_of P_key_of []
  a_Table___init : Addr
  fd_Table___init : FuncData
  k_Table___init : PySem.W.keepIn K (.ref a_Table___init) = true
  F_Table___init : Fun K "__init__" "Table.__init__" s_Table___init a_Table___init fd_Table___init
  b_Table___init : Binds K fd_Table___init P_Table___init []
  a_Table_folds : Addr
  fd_Table_folds : FuncData
  k_Table_folds : PySem.W.keepIn K (.ref a_Table_folds) = true
  F_Table_folds : Fun K "folds" "Table.folds" s_Table_folds a_Table_folds fd_Table_folds
  b_Table_folds : Binds K fd_Table_folds P_Table_folds []
  a_Table_marks : Addr
  fd_Table_marks : FuncData
  k_Table_marks : PySem.W.keepIn K (.ref a_Table_marks) = true
  F_Table_marks : Fun K "marks" "Table.marks" s_Table_marks a_Table_marks fd_Table_marks
  b_Table_marks : Binds K fd_Table_marks P_Table_marks []
  a_groups : Addr
  fd_groups : FuncData
  g_groups : mg "groups" = some (.ref a_groups)
  k_groups : PySem.W.keepIn K (.ref a_groups) = true
  F_groups : Fun K "groups" "groups" s_groups a_groups fd_groups
  b_groups : Binds K fd_groups P_groups []
  a_bar : Addr
  fd_bar : FuncData
  g_bar : mg "bar" = some (.ref a_bar)
  k_bar : PySem.W.keepIn K (.ref a_bar) = true
  F_bar : Fun K "bar" "bar" s_bar a_bar fd_bar
  b_bar : Binds K fd_bar P_bar []
  a_put : Addr
  fd_put : FuncData
  g_put : mg "put" = some (.ref a_put)
  k_put : PySem.W.keepIn K (.ref a_put) = true
  F_put : Fun K "put" "put" s_put a_put fd_put
  b_put : Binds K fd_put P_put []
  a_by_folds : Addr
  fd_by_folds : FuncData
  g_by_folds : mg "by_folds" = some (.ref a_by_folds)
  k_by_folds : PySem.W.keepIn K (.ref a_by_folds) = true
  F_by_folds : Fun K "by_folds" "by_folds" s_by_folds a_by_folds fd_by_folds
  b_by_folds : Binds K fd_by_folds P_by_folds []
  a_by_marks : Addr
  fd_by_marks : FuncData
  g_by_marks : mg "by_marks" = some (.ref a_by_marks)
  k_by_marks : PySem.W.keepIn K (.ref a_by_marks) = true
  F_by_marks : Fun K "by_marks" "by_marks" s_by_marks a_by_marks fd_by_marks
  b_by_marks : Binds K fd_by_marks P_by_marks []
  a_exchanges : Addr
  fd_exchanges : FuncData
  g_exchanges : mg "exchanges" = some (.ref a_exchanges)
  k_exchanges : PySem.W.keepIn K (.ref a_exchanges) = true
  F_exchanges : Fun K "exchanges" "exchanges" s_exchanges a_exchanges fd_exchanges
  b_exchanges : Binds K fd_exchanges P_exchanges []
  a_law_bag : Addr
  fd_law_bag : FuncData
  g_law_bag : mg "_law_bag" = some (.ref a_law_bag)
  k_law_bag : PySem.W.keepIn K (.ref a_law_bag) = true
  F_law_bag : Fun K "_law_bag" "_law_bag" s_law_bag a_law_bag fd_law_bag
  b_law_bag : Binds K fd_law_bag P_law_bag []
  a_law_take : Addr
  fd_law_take : FuncData
  g_law_take : mg "_law_take" = some (.ref a_law_take)
  k_law_take : PySem.W.keepIn K (.ref a_law_take) = true
  F_law_take : Fun K "_law_take" "_law_take" s_law_take a_law_take fd_law_take
  b_law_take : Binds K fd_law_take P_law_take []
  a_law_rule : Addr
  fd_law_rule : FuncData
  g_law_rule : mg "_law_rule" = some (.ref a_law_rule)
  k_law_rule : PySem.W.keepIn K (.ref a_law_rule) = true
  F_law_rule : Fun K "_law_rule" "_law_rule" s_law_rule a_law_rule fd_law_rule
  b_law_rule : Binds K fd_law_rule P_law_rule []
  a_law_word : Addr
  fd_law_word : FuncData
  g_law_word : mg "_law_word" = some (.ref a_law_word)
  k_law_word : PySem.W.keepIn K (.ref a_law_word) = true
  F_law_word : Fun K "_law_word" "_law_word" s_law_word a_law_word fd_law_word
  b_law_word : Binds K fd_law_word P_law_word []
  a_law_key : Addr
  fd_law_key : FuncData
  g_law_key : mg "_law_key" = some (.ref a_law_key)
  k_law_key : PySem.W.keepIn K (.ref a_law_key) = true
  F_law_key : Fun K "_law_key" "_law_key" s_law_key a_law_key fd_law_key
  b_law_key : Binds K fd_law_key P_law_key []
  a_law_names : Addr
  fd_law_names : FuncData
  g_law_names : mg "_law_names" = some (.ref a_law_names)
  k_law_names : PySem.W.keepIn K (.ref a_law_names) = true
  F_law_names : Fun K "_law_names" "_law_names" s_law_names a_law_names fd_law_names
  b_law_names : Binds K fd_law_names P_law_names []
  a_law_groups : Addr
  fd_law_groups : FuncData
  g_law_groups : mg "_law_groups" = some (.ref a_law_groups)
  k_law_groups : PySem.W.keepIn K (.ref a_law_groups) = true
  F_law_groups : Fun K "_law_groups" "_law_groups" s_law_groups a_law_groups fd_law_groups
  b_law_groups : Binds K fd_law_groups P_law_groups []
  a_law : Addr
  fd_law : FuncData
  g_law : mg "law" = some (.ref a_law)
  k_law : PySem.W.keepIn K (.ref a_law) = true
  F_law : Fun K "law" "law" s_law a_law fd_law
  b_law : Binds K fd_law P_law []
  a_law_groups_tab : Addr
  a_law_groups_code : Addr
  cd_law_groups : fd_law_groups.code = .ref a_law_groups_code
  a_Table : Addr
  g_Table : mg "Table" = some (.ref a_Table)
  cl_Table : Cls K a_Table
  mk_Table : Mk K a_Table a_Table___init
  na_Table_rule : NoAttr K a_Table "rule"
  p_Table_folds : Addr
  pr_Table_folds : PropOf K a_Table "folds" p_Table_folds a_Table_folds
  p_Table_marks : Addr
  pr_Table_marks : PropOf K a_Table "marks" p_Table_marks a_Table_marks
  a_CLASSES : Addr
  g_CLASSES : mg "CLASSES" = some (.ref a_CLASSES)
  s_CLASSES : ∀ H, SqT K H a_CLASSES [.int 1, .int 2, .int 3]
  u_LETTERS : Value
  g_LETTERS : mg "LETTERS" = some u_LETTERS
  r_LETTERS : RelV (.str "abcdefghijklmnopqrstuvwxyz") u_LETTERS
  u_CAPITALS : Value
  g_CAPITALS : mg "CAPITALS" = some u_CAPITALS
  r_CAPITALS : RelV (.str "ABCDEFGHIJKLMNOPQRSTUVWXYZ") u_CAPITALS
  u_OTHERS : Value
  g_OTHERS : mg "OTHERS" = some u_OTHERS
  r_OTHERS : RelV (.str "0123456789'-.:^_~") u_OTHERS
  u_MOST_WORD : Value
  g_MOST_WORD : mg "MOST_WORD" = some u_MOST_WORD
  r_MOST_WORD : RelV (.int 40) u_MOST_WORD
  u_MOST_FOLD : Value
  g_MOST_FOLD : mg "MOST_FOLD" = some u_MOST_FOLD
  r_MOST_FOLD : RelV (.int 3) u_MOST_FOLD
  u_MOST_FOLDS : Value
  g_MOST_FOLDS : mg "MOST_FOLDS" = some u_MOST_FOLDS
  r_MOST_FOLDS : RelV (.int 40) u_MOST_FOLDS
  u_MOST_MARKS : Value
  g_MOST_MARKS : mg "MOST_MARKS" = some u_MOST_MARKS
  r_MOST_MARKS : RelV (.int 8) u_MOST_MARKS
  n_abs : mg "abs" = none
  n_all : mg "all" = none
  n_any : mg "any" = none
  n_bool : mg "bool" = none
  n_dict : mg "dict" = none
  n_enumerate : mg "enumerate" = none
  n_int : mg "int" = none
  n_isinstance : mg "isinstance" = none
  n_len : mg "len" = none
  n_list : mg "list" = none
  n_max : mg "max" = none
  n_min : mg "min" = none
  n_range : mg "range" = none
  n_repr : mg "repr" = none
  n_set : mg "set" = none
  n_sorted : mg "sorted" = none
  n_str : mg "str" = none
  n_zip : mg "zip" = none
section
variable {P : Program} {w : World} {K : PySem.W.Frag} {mg : Str → Option Value} {base : Heap}
def t_is_sign (K : PySem.W.Frag)   : TS :=
    (tRet (tAndV (tCB (rIsiA K) (tCons (tVar 0) (tCons (tC (.ty "str")) tNil))) (tAndV (tOp (rEqA K) (tCB (rLenA K) (tCons (tVar 0) tNil)) (tC (.int 1))) (tOp (rInA K) (tVar 0) (tOp (rAddA K) (tOp (rAddA K) (tC (.str "abcdefghijklmnopqrstuvwxyz")) (tC (.str "ABCDEFGHIJKLMNOPQRSTUVWXYZ"))) (tC (.str "0123456789'-.:^_~")))))))
theorem d_is_sign (T : Txt K mg) {cdv : Value} {A : Around} {outer : List Env} {s : Shared} {H : Hp} {E : XK} (hr : Room 0 (A.deeper (envOfC "is_sign" (defScope s_is_sign) s.heap.objs.size T.a_is_sign cdv)))  :
    PSs (cxOf CX0 P w K mg base N_is_sign "is_sign" (defScope s_is_sign) T.a_is_sign cdv A outer s H E).nox (defBody s_is_sign) (t_is_sign K  ) :=
    (pss_one (ps_ret (pe_and (pe_callB c_isi (by rfl) T.n_isinstance (by decide +kernel) (pa_cons (pv 0) (pa_cons (pe_bltn (by rfl) T.n_str (by decide +kernel) rfl) pa_nil))) (pe_and (pe_cmpR (o_eq (hu4 hr)) (pe_callB c_len (by rfl) T.n_len (by decide +kernel) (pa_cons (pv 0) pa_nil)) pe_int (nomark _)) (pe_one (pe_cmpR (o_in (hu_of hr)) (pv 0) (pe_op o_add (pe_op o_add (pe_glob rfl T.g_LETTERS T.r_LETTERS) (pe_glob rfl T.g_CAPITALS T.r_CAPITALS)) (pe_glob rfl T.g_OTHERS T.r_OTHERS)) (by rfl)))))))
def t_has_signs (K : PySem.W.Frag)  (sp_is_sign : Sp) : TS :=
    (tRet (tAndV (tCB (rIsiA K) (tCons (tVar 0) (tCons (tC (.ty "str")) tNil))) (tAndV (tChain (rLeA K) (rLeA K) (tC (.int 1)) (tCB (rLenA K) (tCons (tVar 0) tNil)) (tVar 1)) (tCB (rAll K) (tCons (tLc (iSeq K (tVar 0)) (gName 2) tYes (tCall sp_is_sign [] E0 (tCons (tVar 2) tNil)) [2]) tNil)))))
theorem d_has_signs (T : Txt K mg) {cdv : Value} {A : Around} {outer : List Env} {s : Shared} {H : Hp} {E : XK} (hr : Room 1 (A.deeper (envOfC "has_signs" (defScope s_has_signs) s.heap.objs.size T.a_has_signs cdv))) {sp_is_sign : Sp} (G_is_sign : FnOk P w K mg base CX0 1 T.a_is_sign T.fd_is_sign P_is_sign sp_is_sign) :
    PSs (cxOf CX0 P w K mg base N_has_signs "has_signs" (defScope s_has_signs) T.a_has_signs cdv A outer s H E).nox (defBody s_has_signs) (t_has_signs K  sp_is_sign) :=
    (pss_one (ps_ret (pe_and (pe_callB c_isi (by rfl) T.n_isinstance (by decide +kernel) (pa_cons (pv 0) (pa_cons (pe_bltn (by rfl) T.n_str (by decide +kernel) rfl) pa_nil))) (pe_and (pe_chain (x_le hr.units0) (x_le hr.units0) pe_int (pe_callB c_len (by rfl) T.n_len (by decide +kernel) (pa_cons (pv 0) pa_nil)) (pv 1)) (pe_one (pe_callB (cr_all rfl) (by rfl) T.n_all (by decide +kernel) (pa_cons (pe_lc (own := [("sign", 2)]) rfl sc_has_signs.nd (pi_seq (pv 0)) (blkOk_by (own := [("sign", 2)]) (N := N_has_signs) (sc := defScope s_has_signs) (by decide +kernel)) (fun _ _ _ _ _ => (pg_name (i := 2) sc_has_signs.nd rfl (Or.inl rfl))) (fun _ _ _ _ _ => pts_nil) (fun _ _ _ _ _ => (pe_call G_is_sign (hr.mono (by decide)) rfl T.g_is_sign T.k_is_sign T.b_is_sign .nil pass0 (pa_cons (pv 2) pa_nil)))) pa_nil)))))))
def t_is_class (K : PySem.W.Frag) (ad_CLASSES : Addr)  : TS :=
    (tRet (tAndV (tCB (rIsiA K) (tCons (tVar 0) (tCons (tC (.ty "int")) tNil))) (tAndV (tNotV (tCB (rIsiA K) (tCons (tVar 0) (tCons (tC (.ty "bool")) tNil)))) (tOp (rInA K) (tVar 0) (tC (.ref ad_CLASSES))))))
theorem d_is_class (T : Txt K mg) {cdv : Value} {A : Around} {outer : List Env} {s : Shared} {H : Hp} {E : XK} (hr : Room 0 (A.deeper (envOfC "is_class" (defScope s_is_class) s.heap.objs.size T.a_is_class cdv)))  :
    PSs (cxOf CX0 P w K mg base N_is_class "is_class" (defScope s_is_class) T.a_is_class cdv A outer s H E).nox (defBody s_is_class) (t_is_class K T.a_CLASSES ) :=
    (pss_one (ps_ret (pe_and (pe_callB c_isi (by rfl) T.n_isinstance (by decide +kernel) (pa_cons (pv 0) (pa_cons (pe_bltn (by rfl) T.n_int (by decide +kernel) rfl) pa_nil))) (pe_and (pe_not (pe_callB c_isi (by rfl) T.n_isinstance (by decide +kernel) (pa_cons (pv 0) (pa_cons (pe_bltn (by rfl) T.n_bool (by decide +kernel) rfl) pa_nil)))) (pe_one (pe_cmpR (o_in (hu_of hr)) (pv 0) (pe_glob rfl T.g_CLASSES rfl) (by rfl)))))))
def t_word_order (K : PySem.W.Frag)   : TS :=
    (tRet (tTup (tCons (tCB (rLenA K) (tCons (tVar 0) tNil)) (tCons (tVar 0) tNil))))
theorem d_word_order (T : Txt K mg) {cdv : Value} {A : Around} {outer : List Env} {s : Shared} {H : Hp} {E : XK} (hr : Room 0 (A.deeper (envOfC "word_order" (defScope s_word_order) s.heap.objs.size T.a_word_order cdv)))  :
    PSs (cxOf CX0 P w K mg base N_word_order "word_order" (defScope s_word_order) T.a_word_order cdv A outer s H E).nox (defBody s_word_order) (t_word_order K  ) :=
    (pss_one (ps_ret (pe_tup (pa_cons (pe_callB c_len (by rfl) T.n_len (by decide +kernel) (pa_cons (pv 0) pa_nil)) (pa_cons (pv 0) pa_nil)))))
def t_look_folds (K : PySem.W.Frag)  (sp_has_signs : Sp) (sp_is_sign : Sp) : TS :=
    (tFor (iSeq K (tCB (rSortedA K) (tCons (tVar 0) tNil))) (gName 1) (tSeq (tAsg (tOp (rIxA K) (tVar 0) (tVar 1)) (gName 2))
    (tSeq (tIfS (tNot (tB (tCall sp_is_sign [] E0 (tCons (tVar 1) tNil)))) tNever tNext)
    (tIfS (tOr (tNot (tB (tCall sp_has_signs [] E0 (tCons (tVar 2) (tCons (tC (.int 3)) tNil))))) (tB (tCB (rAny K) (tCons (tLc (iSeq K (tVar 2)) (gName 3) tYes (tOp (rInA K) (tVar 3) (tVar 0)) [3]) tNil)))) tNever tNext))))
theorem d_look_folds (T : Txt K mg) {cdv : Value} {A : Around} {outer : List Env} {s : Shared} {H : Hp} {E : XK} (hr : Room 2 (A.deeper (envOfC "look_folds" (defScope s_look_folds) s.heap.objs.size T.a_look_folds cdv))) {sp_has_signs : Sp} (G_has_signs : FnOk P w K mg base CX0 2 T.a_has_signs T.fd_has_signs P_has_signs sp_has_signs) {sp_is_sign : Sp} (G_is_sign : FnOk P w K mg base CX0 1 T.a_is_sign T.fd_is_sign P_is_sign sp_is_sign) :
    PSs (cxOf CX0 P w K mg base N_look_folds "look_folds" (defScope s_look_folds) T.a_look_folds cdv A outer s H E).nox (defBody s_look_folds) (t_look_folds K  sp_has_signs sp_is_sign) :=
    (pss_one (ps_for PassesOwn.never rfl (pi_seq (pe_callB (c_sorted rfl) (by rfl) T.n_sorted (by decide +kernel) (pa_cons (pv 0) pa_nil))) (pg_name (i := 1) sc_look_folds.nd rfl (Or.inl rfl)) (pss_cons (ps_set (i := 2) sc_look_folds.nd rfl (Or.inl rfl) (pe_ix (ix_any (hu_of hr)) (pv 0) (pv 1) (fun _ _ => rfl)))
    (pss_cons (ps_if (pt_not (pt_val (pe_call G_is_sign (hr.mono (by decide)) rfl T.g_is_sign T.k_is_sign T.b_is_sign .nil pass0 (pa_cons (pv 1) pa_nil)))) (pss_one ps_never) pss_nil)
    (pss_one (ps_if (PW.pt (pw_or (pt_not (pt_val (pe_call G_has_signs (hr.mono (by decide)) rfl T.g_has_signs T.k_has_signs T.b_has_signs .nil pass0 (pa_cons (pv 2) (pa_cons (pe_glob rfl T.g_MOST_FOLD T.r_MOST_FOLD) pa_nil))))) (pw_or1 (pt_val (pe_callB (cr_any rfl) (by rfl) T.n_any (by decide +kernel) (pa_cons (pe_lc (own := [("one", 3)]) rfl sc_look_folds.nd (pi_seq (pv 2)) (blkOk_by (own := [("one", 3)]) (N := N_look_folds) (sc := defScope s_look_folds) (by decide +kernel)) (fun _ _ _ _ _ => (pg_name (i := 3) sc_look_folds.nd rfl (Or.inl rfl))) (fun _ _ _ _ _ => pts_nil) (fun _ _ _ _ _ => (pe_cmpR (o_in (hu_of hr)) (pv 3) (pv 0) (by rfl)))) pa_nil)))))) (pss_one ps_never) pss_nil))))))
def t_look_marks (K : PySem.W.Frag)  (sp_is_class : Sp) (sp_is_sign : Sp) : TS :=
    (tFor (iSeq K (tCB (rSortedA K) (tCons (tVar 0) tNil))) (gName 2) (tSeq (tIfS (tNot (tB (tCall sp_is_sign [] E0 (tCons (tVar 2) tNil)))) tNever tNext)
    (tIfS (tOr (tNot (tB (tCall sp_is_class [] E0 (tCons (tOp (rIxA K) (tVar 0) (tVar 2)) tNil)))) (tTest (tOp (rInA K) (tVar 2) (tVar 1)))) tNever tNext)))
theorem d_look_marks (T : Txt K mg) {cdv : Value} {A : Around} {outer : List Env} {s : Shared} {H : Hp} {E : XK} (hr : Room 1 (A.deeper (envOfC "look_marks" (defScope s_look_marks) s.heap.objs.size T.a_look_marks cdv))) {sp_is_class : Sp} (G_is_class : FnOk P w K mg base CX0 1 T.a_is_class T.fd_is_class P_is_class sp_is_class) {sp_is_sign : Sp} (G_is_sign : FnOk P w K mg base CX0 1 T.a_is_sign T.fd_is_sign P_is_sign sp_is_sign) :
    PSs (cxOf CX0 P w K mg base N_look_marks "look_marks" (defScope s_look_marks) T.a_look_marks cdv A outer s H E).nox (defBody s_look_marks) (t_look_marks K  sp_is_class sp_is_sign) :=
    (pss_one (ps_for PassesOwn.never rfl (pi_seq (pe_callB (c_sorted rfl) (by rfl) T.n_sorted (by decide +kernel) (pa_cons (pv 0) pa_nil))) (pg_name (i := 2) sc_look_marks.nd rfl (Or.inl rfl)) (pss_cons (ps_if (pt_not (pt_val (pe_call G_is_sign (hr.mono (by decide)) rfl T.g_is_sign T.k_is_sign T.b_is_sign .nil pass0 (pa_cons (pv 2) pa_nil)))) (pss_one ps_never) pss_nil)
    (pss_one (ps_if (PW.pt (pw_or (pt_not (pt_val (pe_call G_is_class (hr.mono (by decide)) rfl T.g_is_class T.k_is_class T.b_is_class .nil pass0 (pa_cons (pe_ix (ix_any (hu_of hr)) (pv 0) (pv 2) (fun _ _ => rfl)) pa_nil)))) (pw_or1 (pt_cmpR (o_in (hu_of hr)) (pv 2) (pv 1) (by rfl))))) (pss_one ps_never) pss_nil)))))
def t_in_order (K : PySem.W.Frag) (ad_CLASSES : Addr)  : TS :=
    (tRet (tLc2 (iSeq K (tC (.ref ad_CLASSES))) (gName 2) tYes (iSeq K (tVar 0)) (gName 3) (tTest (tOp (rEqA K) (tOp (rIxA K) (tVar 1) (tVar 3)) (tVar 2))) (tVar 3) [2, 3] [3]))
theorem d_in_order (T : Txt K mg) {cdv : Value} {A : Around} {outer : List Env} {s : Shared} {H : Hp} {E : XK} (hr : Room 0 (A.deeper (envOfC "in_order" (defScope s_in_order) s.heap.objs.size T.a_in_order cdv)))  :
    PSs (cxOf CX0 P w K mg base N_in_order "in_order" (defScope s_in_order) T.a_in_order cdv A outer s H E).nox (defBody s_in_order) (t_in_order K T.a_CLASSES ) :=
    (pss_one (ps_ret (pe_lc2 (own := [("number", 2), ("mark", 3)]) (vs1 := [3]) rfl sc_in_order.nd (pi_seq (pe_glob rfl T.g_CLASSES rfl)) (blkOk_by (own := [("number", 2), ("mark", 3)]) (N := N_in_order) (sc := defScope s_in_order) (by decide +kernel)) (by decide) (fun _ _ _ _ _ => (pg_name (i := 2) sc_in_order.nd rfl (Or.inl rfl))) (fun _ _ _ _ _ => pts_nil) (fun _ _ _ _ _ => (pi_seq (pv 0))) (fun _ _ _ _ _ => (pg_name (i := 3) sc_in_order.nd rfl (Or.inl rfl))) (fun _ _ _ _ _ => pts_one (pt_cmpR (o_eq (hu4 hr)) (pe_ix (ix_any (hu_of hr)) (pv 1) (pv 3) (fun _ _ => rfl)) (pv 2) (nomark _))) (fun _ _ _ _ _ => (pv 3)))))
def t_ordered_runs (K : PySem.W.Frag)  (sp_in_order : Sp) : TS :=
    (tSeq (tPar 3 4 (tCons (tLst tNil) (tCons (tLst tNil) tNil)))
    (tSeq (tFor (iSeq K (tVar 0)) (gName 2) (tIfS (tTest (tOp (rInA K) (tVar 2) (tVar 1))) (tAsg (tLst (StX.tStar K (tVar 4) (tCons (tVar 2) tNil))) (gName 4)) (tSeq (tAsg (tLst (StX.tStar K (tVar 3) (StX.tStar K (tCall sp_in_order [] E0 (tCons (tVar 4) (tCons (tVar 1) tNil))) (tCons (tVar 2) tNil)))) (gName 3))
    (tAsg (tLst tNil) (gName 4)))))
    (tRet (tM1 (rJoin K) (tC (.str "")) (tLst (StX.tStar K (tVar 3) (StX.tStar K (tCall sp_in_order [] E0 (tCons (tVar 4) (tCons (tVar 1) tNil))) tNil)))))))
theorem d_ordered_runs (T : Txt K mg) {cdv : Value} {A : Around} {outer : List Env} {s : Shared} {H : Hp} {E : XK} (hr : Room 1 (A.deeper (envOfC "ordered_runs" (defScope s_ordered_runs) s.heap.objs.size T.a_ordered_runs cdv))) {sp_in_order : Sp} (G_in_order : FnOk P w K mg base CX0 1 T.a_in_order T.fd_in_order P_in_order sp_in_order) :
    PSs (cxOf CX0 P w K mg base N_ordered_runs "ordered_runs" (defScope s_ordered_runs) T.a_ordered_runs cdv A outer s H E).nox (defBody s_ordered_runs) (t_ordered_runs K  sp_in_order) :=
    (pss_cons (ps_par (by rfl) sc_ordered_runs.nd (i := 3) (j := 4) rfl rfl (by decide) rfl rfl (pa_cons (pe_lst pa_nil) (pa_cons (pe_lst pa_nil) pa_nil)) (by rfl))
    (pss_cons (ps_for PassesOwn.never rfl (pi_seq (pv 0)) (pg_name (i := 2) sc_ordered_runs.nd rfl (Or.inl rfl)) (pss_one (ps_if (pt_cmpR (o_in (hu_of hr)) (pv 2) (pv 1) (by rfl)) (pss_one (ps_set (i := 4) sc_ordered_runs.nd rfl (Or.inl rfl) (pe_lst (StX.pa_star (pv 4) (pa_cons (pv 2) pa_nil))))) (pss_cons (ps_set (i := 3) sc_ordered_runs.nd rfl (Or.inl rfl) (pe_lst (StX.pa_star (pv 3) (StX.pa_star (pe_call G_in_order (hr.mono (by decide)) rfl T.g_in_order T.k_in_order T.b_in_order .nil pass0 (pa_cons (pv 4) (pa_cons (pv 1) pa_nil))) (pa_cons (pv 2) pa_nil)))))
    (pss_one (ps_set (i := 4) sc_ordered_runs.nd rfl (Or.inl rfl) (pe_lst pa_nil)))))))
    (pss_one (ps_ret (pe_join pe_str (pe_lst (StX.pa_star (pv 3) (StX.pa_star (pe_call G_in_order (hr.mono (by decide)) rfl T.g_in_order T.k_in_order T.b_in_order .nil pass0 (pa_cons (pv 4) (pa_cons (pv 1) pa_nil))) pa_nil))))))))
def t_key_of (K : PySem.W.Frag)  (sp_ordered_runs : Sp) : TS :=
    (tSeq (tAsg (tVar 0) (gTup K 2 (gCons (gName 2) (gCons (gName 3) gNil))))
    (tRet (tCall sp_ordered_runs [] E0 (tCons (tM1 (rJoin K) (tC (.str "")) (tLc (iSeq K (tVar 1)) (gName 4) tYes (tIf (tTest (tOp (rInA K) (tVar 4) (tVar 2))) (tOp (rIxA K) (tVar 2) (tVar 4)) (tVar 4)) [4])) (tCons (tVar 3) tNil)))))
theorem d_key_of (T : Txt K mg) {cdv : Value} {A : Around} {outer : List Env} {s : Shared} {H : Hp} {E : XK} (hr : Room 2 (A.deeper (envOfC "key_of" (defScope s_key_of) s.heap.objs.size T.a_key_of cdv))) {sp_ordered_runs : Sp} (G_ordered_runs : FnOk P w K mg base CX0 2 T.a_ordered_runs T.fd_ordered_runs P_ordered_runs sp_ordered_runs) :
    PSs (cxOf CX0 P w K mg base N_key_of "key_of" (defScope s_key_of) T.a_key_of cdv A outer s H E).nox (defBody s_key_of) (t_key_of K  sp_ordered_runs) :=
    (pss_cons (ps_asg (pv 0) (pg_tup rfl (pgs_cons (pg_name (i := 2) sc_key_of.nd rfl (Or.inr rfl)) (pgs_cons (pg_name (i := 3) sc_key_of.nd rfl (Or.inl rfl)) pgs_nil))))
    (pss_one (ps_ret (pe_call G_ordered_runs (hr.mono (by decide)) rfl T.g_ordered_runs T.k_ordered_runs T.b_ordered_runs .nil pass0 (pa_cons (pe_join pe_str (pe_lc (own := [("sign", 4)]) rfl sc_key_of.nd (pi_seq (pv 1)) (blkOk_by (own := [("sign", 4)]) (N := N_key_of) (sc := defScope s_key_of) (by decide +kernel)) (fun _ _ _ _ _ => (pg_name (i := 4) sc_key_of.nd rfl (Or.inl rfl))) (fun _ _ _ _ _ => pts_nil) (fun _ _ _ _ _ => (pe_ifExp (pt_cmpR (o_in (hu_of hr)) (pv 4) (pv 2) (by rfl)) (pe_ix (ix_any (hu_of hr)) (pv 2) (pv 4) (fun _ _ => rfl)) (pv 4))))) (pa_cons (pv 3) pa_nil))))))
def t_Table___init (K : PySem.W.Frag)  (sp_look_marks : Sp) (sp_look_folds : Sp) : TS :=
    (tSeq (tDrop (tCall sp_look_folds [] E0 (tCons (tVar 1) tNil)))
    (tSeq (tDrop (tCall sp_look_marks [] E0 (tCons (tVar 2) (tCons (tVar 1) tNil))))
    (tSeq (tFor (iSeq K (tTup (tCons (tTup (tCons (tVar 1) (tCons (tC (.int 40)) tNil))) (tCons (tTup (tCons (tVar 2) (tCons (tC (.int 8)) tNil))) tNil)))) (gTup K 2 (gCons (gName 3) (gCons (gName 4) gNil))) (tIfS (tTest (tOp (rGtA K) (tCB (rLenA K) (tCons (tVar 3) tNil)) (tVar 4))) tNever tNext))
    (sFld K (tVar 0) (tTup (tCons (tLk (tCB rDictA (tCons (tVar 1) tNil))) (tCons (tLk (tCB rDictA (tCons (tVar 2) tNil))) tNil))) "rule"))))
theorem d_Table___init (T : Txt K mg) {cdv : Value} {A : Around} {outer : List Env} {s : Shared} {H : Hp} {E : XK} (hr : Room 3 (A.deeper (envOfC "Table.__init__" (defScope s_Table___init) s.heap.objs.size T.a_Table___init cdv))) {sp_look_marks : Sp} (G_look_marks : FnOk P w K mg base CX0 2 T.a_look_marks T.fd_look_marks P_look_marks sp_look_marks) {sp_look_folds : Sp} (G_look_folds : FnOk P w K mg base CX0 3 T.a_look_folds T.fd_look_folds P_look_folds sp_look_folds) :
    PSs (cxOf CX0 P w K mg base N_Table___init "Table.__init__" (defScope s_Table___init) T.a_Table___init cdv A outer s H E).nox (defBody s_Table___init) (t_Table___init K  sp_look_marks sp_look_folds) :=
    (pss_cons (ps_expr (pe_call G_look_folds (hr.mono (by decide)) rfl T.g_look_folds T.k_look_folds T.b_look_folds .nil pass0 (pa_cons (pv 1) pa_nil)))
    (pss_cons (ps_expr (pe_call G_look_marks (hr.mono (by decide)) rfl T.g_look_marks T.k_look_marks T.b_look_marks .nil pass0 (pa_cons (pv 2) (pa_cons (pv 1) pa_nil))))
    (pss_cons (ps_for PassesOwn.never rfl (pi_seq (pe_tup (pa_cons (pe_tup (pa_cons (pv 1) (pa_cons (pe_glob rfl T.g_MOST_FOLDS T.r_MOST_FOLDS) pa_nil))) (pa_cons (pe_tup (pa_cons (pv 2) (pa_cons (pe_glob rfl T.g_MOST_MARKS T.r_MOST_MARKS) pa_nil))) pa_nil)))) (pg_tup rfl (pgs_cons (pg_name (i := 3) sc_Table___init.nd rfl (Or.inl rfl)) (pgs_cons (pg_name (i := 4) sc_Table___init.nd rfl (Or.inl rfl)) pgs_nil))) (pss_one (ps_if (pt_cmpR (x_gt hr.units0) (pe_callB c_len (by rfl) T.n_len (by decide +kernel) (pa_cons (pv 3) pa_nil)) (pv 4) (nomark _)) (pss_one ps_never) pss_nil)))
    (pss_one (ps_fld (pv 0) (pe_tup (pa_cons (pe_lk (pe_callTy c_dict (by rfl) T.n_dict (by decide +kernel) (pa_cons (pv 1) pa_nil))) (pa_cons (pe_lk (pe_callTy c_dict (by rfl) T.n_dict (by decide +kernel) (pa_cons (pv 2) pa_nil))) pa_nil))) rfl)))))
def t_Table_folds (K : PySem.W.Frag)   : TS :=
    (tRet (tLk (tCB rDictA (tCons (tOp (rIxA K) (tFld K (tVar 0) "rule") (tC (.int 0))) tNil))))
theorem d_Table_folds (T : Txt K mg) {cdv : Value} {A : Around} {outer : List Env} {s : Shared} {H : Hp} {E : XK} (hr : Room 0 (A.deeper (envOfC "Table.folds" (defScope s_Table_folds) s.heap.objs.size T.a_Table_folds cdv)))  :
    PSs (cxOf CX0 P w K mg base N_Table_folds "Table.folds" (defScope s_Table_folds) T.a_Table_folds cdv A outer s H E).nox (defBody s_Table_folds) (t_Table_folds K  ) :=
    (pss_one (ps_ret (pe_lk (pe_callTy c_dict (by rfl) T.n_dict (by decide +kernel) (pa_cons (pe_ix (ix_any (hu_of hr)) (pe_fld (pv 0) rfl) pe_int (fun _ _ => rfl)) pa_nil)))))
def t_Table_marks (K : PySem.W.Frag)   : TS :=
    (tRet (tLk (tCB rDictA (tCons (tOp (rIxA K) (tFld K (tVar 0) "rule") (tC (.int 1))) tNil))))
theorem d_Table_marks (T : Txt K mg) {cdv : Value} {A : Around} {outer : List Env} {s : Shared} {H : Hp} {E : XK} (hr : Room 0 (A.deeper (envOfC "Table.marks" (defScope s_Table_marks) s.heap.objs.size T.a_Table_marks cdv)))  :
    PSs (cxOf CX0 P w K mg base N_Table_marks "Table.marks" (defScope s_Table_marks) T.a_Table_marks cdv A outer s H E).nox (defBody s_Table_marks) (t_Table_marks K  ) :=
    (pss_one (ps_ret (pe_lk (pe_callTy c_dict (by rfl) T.n_dict (by decide +kernel) (pa_cons (pe_ix (ix_any (hu_of hr)) (pe_fld (pv 0) rfl) pe_int (fun _ _ => rfl)) pa_nil)))))
def t_groups (K : PySem.W.Frag) (ad_word_order : Addr) (sp_word_order : Sp) (sp_key_of : Sp) : TS :=
    (tSeq (tAsg tDNewK (gName 2))
    (tSeq (tFor (iSeq K (tCKw (rSortG K sp_word_order ad_word_order) (tCons (tVar 1) tNil) (tCons (tC (.ref ad_word_order)) tNil))) (gName 3) (tDrop (tBM K "list" rAppend (tDSetd (tVar 2) (tCall sp_key_of [] E0 (tCons (tFld K (tVar 0) "rule") (tCons (tVar 3) tNil))) (tLst tNil)) (tCons (tVar 3) tNil))))
    (tRet (tListVals (tVar 2)))))
theorem d_groups (T : Txt K mg) {cdv : Value} {A : Around} {outer : List Env} {s : Shared} {H : Hp} {E : XK} (hr : Room 3 (A.deeper (envOfC "groups" (defScope s_groups) s.heap.objs.size T.a_groups cdv))) {sp_word_order : Sp} (G_word_order : FnOk P w K mg base CX0 1 T.a_word_order T.fd_word_order P_word_order sp_word_order) {sp_key_of : Sp} (G_key_of : FnOk P w K mg base CX0 3 T.a_key_of T.fd_key_of P_key_of sp_key_of) :
    PSs (cxOf CX0 P w K mg base N_groups "groups" (defScope s_groups) T.a_groups cdv A outer s H E).nox (defBody s_groups) (t_groups K T.a_word_order sp_word_order sp_key_of) :=
    (pss_cons (ps_set (i := 2) sc_groups.nd rfl (Or.inl rfl) pe_dnewK)
    (pss_cons (ps_for PassesOwn.never rfl (pi_seq (pe_callBK (c_sortedG G_word_order T.b_word_order (hr.mono (by decide))) (by rfl) T.n_sorted (by decide +kernel) (pa_cons (pv 1) pa_nil) (pk_cons (pe_glob rfl T.g_word_order rfl) pk_nil))) (pg_name (i := 3) sc_groups.nd rfl (Or.inl rfl)) (pss_one (ps_expr (pe_bm PySem.F.plainAttrs_list PySem.F.slot_list_append PySem.F.type_list_append mt_append (pe_dsetd (pv 2) (pe_call G_key_of (hr.mono (by decide)) rfl T.g_key_of T.k_key_of T.b_key_of .nil pass0 (pa_cons (pe_fld (pv 0) rfl) (pa_cons (pv 3) pa_nil))) (pe_lst pa_nil) ⟨rfl, rfl, rfl, rfl⟩) (pa_cons (pv 3) pa_nil)))))
    (pss_one (ps_ret (pe_listVals rfl (by rfl) T.n_list (pv 2))))))
def t_bar (K : PySem.W.Frag)  (sp_groups : Sp) : TS :=
    (tSeq (tAsg (tLc (iSeq K (tCall sp_groups [] E0 (tCons (tVar 0) (tCons (tVar 1) tNil)))) (gName 3) (tTest (tOp (rGtA K) (tCB (rLenA K) (tCons (tVar 3) tNil)) (tC (.int 1)))) (tVar 3) [3]) (gName 2))
    (tRet (tIf (tTest (tOp (rNeA K) (tVar 2) (tLst tNil))) (tTup (tCons (tOp (rIxA K) (tOp (rIxA K) (tVar 2) (tC (.int 0))) (tC (.int 0))) (tCons (tOp (rIxA K) (tOp (rIxA K) (tVar 2) (tC (.int 0))) (tC (.int 1))) tNil))) (tC .non))))
theorem d_bar (T : Txt K mg) {cdv : Value} {A : Around} {outer : List Env} {s : Shared} {H : Hp} {E : XK} (hr : Room 4 (A.deeper (envOfC "bar" (defScope s_bar) s.heap.objs.size T.a_bar cdv))) {sp_groups : Sp} (G_groups : FnOk P w K mg base CX0 4 T.a_groups T.fd_groups P_groups sp_groups) :
    PSs (cxOf CX0 P w K mg base N_bar "bar" (defScope s_bar) T.a_bar cdv A outer s H E).nox (defBody s_bar) (t_bar K  sp_groups) :=
    (pss_cons (ps_setLc (i := 2) (own := [("group", 3)]) rfl sc_bar.nd rfl rfl (sw_true rfl rfl rfl (by decide +kernel)) (pi_seq (pe_call G_groups (hr.mono (by decide)) rfl T.g_groups T.k_groups T.b_groups .nil pass0 (pa_cons (pv 0) (pa_cons (pv 1) pa_nil)))) (blkOk_by (own := [("group", 3)]) (N := N_bar) (sc := defScope s_bar) (by decide +kernel)) (fun _ _ _ _ _ => (pg_name (i := 3) sc_bar.nd rfl (Or.inl rfl))) (fun _ _ _ _ _ => pts_one (pt_cmpR (x_gt hr.units0) (pe_callB c_len (by rfl) T.n_len (by decide +kernel) (pa_cons (pv 3) pa_nil)) pe_int (nomark _))) (fun _ _ _ _ _ => (pv 3)))
    (pss_one (ps_ret (pe_ifExp (pt_cmpR (o_ne (hu4 hr)) (pv 2) (pe_lst pa_nil) (nomark _)) (pe_tup (pa_cons (pe_ix (ix_any (hu_of hr)) (pe_ix (ix_any (hu_of hr)) (pv 2) pe_int (fun _ _ => rfl)) pe_int (fun _ _ => rfl)) (pa_cons (pe_ix (ix_any (hu_of hr)) (pe_ix (ix_any (hu_of hr)) (pv 2) pe_int (fun _ _ => rfl)) pe_int (fun _ _ => rfl)) pa_nil))) pe_non))))
def t_put (K : PySem.W.Frag)   : TS :=
    (tRet (tOp (rAddA K) (tOp (rAddA K) (L2.tSl (rSlAny K) (tVar 0) tNo (tSome (tVar 1))) (tVar 3)) (L2.tSl (rSlAny K) (tVar 0) (tSome (tOp (rAddA K) (tVar 1) (tVar 2))) tNo)))
theorem d_put (T : Txt K mg) {cdv : Value} {A : Around} {outer : List Env} {s : Shared} {H : Hp} {E : XK} (hr : Room 0 (A.deeper (envOfC "put" (defScope s_put) s.heap.objs.size T.a_put cdv)))  :
    PSs (cxOf CX0 P w K mg base N_put "put" (defScope s_put) T.a_put cdv A outer s H E).nox (defBody s_put) (t_put K  ) :=
    (pss_one (ps_ret (pe_op o_add (pe_op o_add (pe_slice sl_any (pv 0) po_none (po_some (pv 1))) (pv 3)) (pe_slice sl_any (pv 0) (po_some (pe_op o_add (pv 1) (pv 2))) po_none))))
def t_by_folds (K : PySem.W.Frag)  (sp_put : Sp) : TS :=
    (tSeq (tAsg (tLst tNil) (gName 2))
    (tSeq (tFor (iEnumS (tCons (tVar 1) tNil)) (gTup K 2 (gCons (gName 3) (gCons (gName 4) gNil))) (tSeq (tIfS (tTest (tOp (rInA K) (tVar 4) (tVar 0))) (tDrop (tBM K "list" rAppend (tVar 2) (tCons (tCall sp_put [] E0 (tCons (tVar 1) (tCons (tVar 3) (tCons (tC (.int 1)) (tCons (tOp (rIxA K) (tVar 0) (tVar 4)) tNil))))) tNil))) tNext)
    (tFor (iItems (tVar 0)) (gTup K 2 (gCons (gName 5) (gCons (gName 6) gNil))) (tIfS (tTest (tOp (rEqA K) (L2.tSl (rSlAny K) (tVar 1) (tSome (tVar 3)) (tSome (tOp (rAddA K) (tVar 3) (tCB (rLenA K) (tCons (tVar 6) tNil))))) (tVar 6))) (tDrop (tBM K "list" rAppend (tVar 2) (tCons (tCall sp_put [] E0 (tCons (tVar 1) (tCons (tVar 3) (tCons (tCB (rLenA K) (tCons (tVar 6) tNil)) (tCons (tVar 5) tNil))))) tNil))) tNext))))
    (tRet (tVar 2))))
theorem d_by_folds (T : Txt K mg) {cdv : Value} {A : Around} {outer : List Env} {s : Shared} {H : Hp} {E : XK} (hr : Room 1 (A.deeper (envOfC "by_folds" (defScope s_by_folds) s.heap.objs.size T.a_by_folds cdv))) {sp_put : Sp} (G_put : FnOk P w K mg base CX0 1 T.a_put T.fd_put P_put sp_put) :
    PSs (cxOf CX0 P w K mg base N_by_folds "by_folds" (defScope s_by_folds) T.a_by_folds cdv A outer s H E).nox (defBody s_by_folds) (t_by_folds K  sp_put) :=
    (pss_cons (ps_set (i := 2) sc_by_folds.nd rfl (Or.inl rfl) (pe_lst pa_nil))
    (pss_cons (ps_for PassesOwn.never rfl (pi_enumS rfl T.n_enumerate (pa_cons (pv 1) pa_nil)) (pg_tup rfl (pgs_cons (pg_name (i := 3) sc_by_folds.nd rfl (Or.inl rfl)) (pgs_cons (pg_name (i := 4) sc_by_folds.nd rfl (Or.inl rfl)) pgs_nil))) (pss_cons (ps_if (pt_cmpR (o_in (hu_of hr)) (pv 4) (pv 0) (by rfl)) (pss_one (ps_expr (pe_bm PySem.F.plainAttrs_list PySem.F.slot_list_append PySem.F.type_list_append mt_append (pv 2) (pa_cons (pe_call G_put (hr.mono (by decide)) rfl T.g_put T.k_put T.b_put .nil pass0 (pa_cons (pv 1) (pa_cons (pv 3) (pa_cons pe_int (pa_cons (pe_ix (ix_any (hu_of hr)) (pv 0) (pv 4) (fun _ _ => rfl)) pa_nil))))) pa_nil)))) pss_nil)
    (pss_one (ps_for PassesOwn.never rfl (pi_items (pv 0)) (pg_tup rfl (pgs_cons (pg_name (i := 5) sc_by_folds.nd rfl (Or.inl rfl)) (pgs_cons (pg_name (i := 6) sc_by_folds.nd rfl (Or.inl rfl)) pgs_nil))) (pss_one (ps_if (pt_cmpR (o_eq (hu4 hr)) (pe_slice sl_any (pv 1) (po_some (pv 3)) (po_some (pe_op o_add (pv 3) (pe_callB c_len (by rfl) T.n_len (by decide +kernel) (pa_cons (pv 6) pa_nil))))) (pv 6) (nomark _)) (pss_one (ps_expr (pe_bm PySem.F.plainAttrs_list PySem.F.slot_list_append PySem.F.type_list_append mt_append (pv 2) (pa_cons (pe_call G_put (hr.mono (by decide)) rfl T.g_put T.k_put T.b_put .nil pass0 (pa_cons (pv 1) (pa_cons (pv 3) (pa_cons (pe_callB c_len (by rfl) T.n_len (by decide +kernel) (pa_cons (pv 6) pa_nil)) (pa_cons (pv 5) pa_nil))))) pa_nil)))) pss_nil))))))
    (pss_one (ps_ret (pv 2)))))
def t_by_marks (K : PySem.W.Frag)  (sp_put : Sp) : TS :=
    (tSeq (tAsg (tLst tNil) (gName 2))
    (tSeq (tFor (iEnumZ (tCons (tVar 1) (tCons (L2.tSl (rSlAny K) (tVar 1) (tSome (tC (.int 1))) tNo) tNil))) (gTup K 2 (gCons (gName 3) (gCons (gName 4) gNil))) (tSeq (tAsg (tVar 4) (gTup K 2 (gCons (gName 5) (gCons (gName 6) gNil))))
    (tIfS (tAnd (tTest (tOp (rInA K) (tVar 5) (tVar 0))) (tAnd (tTest (tOp (rInA K) (tVar 6) (tVar 0))) (tTest (tOp (rNeA K) (tOp (rIxA K) (tVar 0) (tVar 5)) (tOp (rIxA K) (tVar 0) (tVar 6)))))) (tDrop (tBM K "list" rAppend (tVar 2) (tCons (tCall sp_put [] E0 (tCons (tVar 1) (tCons (tVar 3) (tCons (tC (.int 2)) (tCons (tOp (rAddA K) (tVar 6) (tVar 5)) tNil))))) tNil))) tNext)))
    (tRet (tVar 2))))
theorem d_by_marks (T : Txt K mg) {cdv : Value} {A : Around} {outer : List Env} {s : Shared} {H : Hp} {E : XK} (hr : Room 1 (A.deeper (envOfC "by_marks" (defScope s_by_marks) s.heap.objs.size T.a_by_marks cdv))) {sp_put : Sp} (G_put : FnOk P w K mg base CX0 1 T.a_put T.fd_put P_put sp_put) :
    PSs (cxOf CX0 P w K mg base N_by_marks "by_marks" (defScope s_by_marks) T.a_by_marks cdv A outer s H E).nox (defBody s_by_marks) (t_by_marks K  sp_put) :=
    (pss_cons (ps_set (i := 2) sc_by_marks.nd rfl (Or.inl rfl) (pe_lst pa_nil))
    (pss_cons (ps_for PassesOwn.never rfl (pi_enumZ rfl T.n_enumerate rfl T.n_zip (pa_cons (pv 1) (pa_cons (pe_slice sl_any (pv 1) (po_some pe_int) po_none) pa_nil))) (pg_tup rfl (pgs_cons (pg_name (i := 3) sc_by_marks.nd rfl (Or.inl rfl)) (pgs_cons (pg_name (i := 4) sc_by_marks.nd rfl (Or.inl rfl)) pgs_nil))) (pss_cons (ps_asg (pv 4) (pg_tup rfl (pgs_cons (pg_name (i := 5) sc_by_marks.nd rfl (Or.inl rfl)) (pgs_cons (pg_name (i := 6) sc_by_marks.nd rfl (Or.inl rfl)) pgs_nil))))
    (pss_one (ps_if (PW.pt (pw_and (pt_cmpR (o_in (hu_of hr)) (pv 5) (pv 0) (by rfl)) (pw_and (pt_cmpR (o_in (hu_of hr)) (pv 6) (pv 0) (by rfl)) (pw_and1 (pt_cmpR (o_ne (hu4 hr)) (pe_ix (ix_any (hu_of hr)) (pv 0) (pv 5) (fun _ _ => rfl)) (pe_ix (ix_any (hu_of hr)) (pv 0) (pv 6) (fun _ _ => rfl)) (nomark _)))))) (pss_one (ps_expr (pe_bm PySem.F.plainAttrs_list PySem.F.slot_list_append PySem.F.type_list_append mt_append (pv 2) (pa_cons (pe_call G_put (hr.mono (by decide)) rfl T.g_put T.k_put T.b_put .nil pass0 (pa_cons (pv 1) (pa_cons (pv 3) (pa_cons pe_int (pa_cons (pe_op o_add (pv 6) (pv 5)) pa_nil))))) pa_nil)))) pss_nil))))
    (pss_one (ps_ret (pv 2)))))
def t_exchanges (K : PySem.W.Frag) (PG : Program) (W : World) (ad_Table : Addr) (sp_by_marks : Sp) (sp_Table_marks : Sp) (sp_by_folds : Sp) (sp_Table_folds : Sp) : TS :=
    (tRet (tCB (rSortedX PG W) (tCons (tCB (rSetX PG W K) (tCons (tLst (StX.tStar K (tCall sp_by_folds [] E0 (tCons (tProp ad_Table sp_Table_folds [] E0 (tVar 0)) (tCons (tVar 1) tNil))) (StX.tStar K (tCall sp_by_marks [] E0 (tCons (tProp ad_Table sp_Table_marks [] E0 (tVar 0)) (tCons (tVar 1) tNil))) tNil))) tNil)) tNil)))
theorem d_exchanges (T : Txt K mg) {cdv : Value} {A : Around} {outer : List Env} {s : Shared} {H : Hp} {E : XK} (hr : Room 2 (A.deeper (envOfC "exchanges" (defScope s_exchanges) s.heap.objs.size T.a_exchanges cdv))) {sp_by_marks : Sp} (G_by_marks : FnOk P w K mg base CX0 2 T.a_by_marks T.fd_by_marks P_by_marks sp_by_marks) {sp_Table_marks : Sp} (G_Table_marks : FnOk P w K mg base CX0 1 T.a_Table_marks T.fd_Table_marks P_Table_marks sp_Table_marks) {sp_by_folds : Sp} (G_by_folds : FnOk P w K mg base CX0 2 T.a_by_folds T.fd_by_folds P_by_folds sp_by_folds) {sp_Table_folds : Sp} (G_Table_folds : FnOk P w K mg base CX0 1 T.a_Table_folds T.fd_Table_folds P_Table_folds sp_Table_folds) :
    PSs (cxOf CX0 P w K mg base N_exchanges "exchanges" (defScope s_exchanges) T.a_exchanges cdv A outer s H E).nox (defBody s_exchanges) (t_exchanges K P w T.a_Table sp_by_marks sp_Table_marks sp_by_folds sp_Table_folds) :=
    (pss_one (ps_ret (pe_callB (c_sortedX rfl) (by rfl) T.n_sorted (by decide +kernel) (pa_cons (pe_callTy (c_setX rfl) (by rfl) T.n_set (by decide +kernel) (pa_cons (pe_lst (StX.pa_star (pe_call G_by_folds (hr.mono (by decide)) rfl T.g_by_folds T.k_by_folds T.b_by_folds .nil pass0 (pa_cons (pe_prop (pv 0) T.cl_Table T.pr_Table_folds G_Table_folds (hr.mono (by decide)) T.b_Table_folds .nil pass0 rfl) (pa_cons (pv 1) pa_nil))) (StX.pa_star (pe_call G_by_marks (hr.mono (by decide)) rfl T.g_by_marks T.k_by_marks T.b_by_marks .nil pass0 (pa_cons (pe_prop (pv 0) T.cl_Table T.pr_Table_marks G_Table_marks (hr.mono (by decide)) T.b_Table_marks .nil pass0 rfl) (pa_cons (pv 1) pa_nil))) pa_nil))) pa_nil)) pa_nil))))
def t_law_bag (K : PySem.W.Frag)   : TS :=
    (tSeq (tAsg (tIf (tTest (tOp (rLtA K) (tVar 1) (tCB (rLenA K) (tCons (tVar 0) tNil)))) (tOp (rIxA K) (tVar 0) (tVar 1)) (tC (.int 0))) (gName 2))
    (tSeq (tAsg (tIf (tTest (tOp (rGeA K) (tCB rAbs (tCons (tVar 2) tNil)) (tOp (rI CPow fun i j => V.int (i ^ j.toNat)) (tC (.int 10)) (tC (.int 18))))) (tCB rAbs (tCons (tVar 2) tNil)) (tC (.int 0))) (gName 3))
    (tRet (tLst (tCons (tVar 3) (tCons (tOp (rI (fun _ j => 0 < j) fun i j => V.int (i % j)) (tOp (rMulA K) (tOp (rAddA K) (tOp (rAddA K) (tOp (rI (fun _ j => 0 < j) fun i j => V.int (i % j)) (tVar 2) (tC (.int 2305843009213693951))) (tOp (rMulA K) (tC (.int 6211)) (tVar 1))) (tC (.int 17))) (tC (.int 92821993))) (tC (.int 2305843009213693951))) (tCons (tC (.int 0)) tNil)))))))
theorem d_law_bag (T : Txt K mg) {cdv : Value} {A : Around} {outer : List Env} {s : Shared} {H : Hp} {E : XK} (hr : Room 0 (A.deeper (envOfC "_law_bag" (defScope s_law_bag) s.heap.objs.size T.a_law_bag cdv)))  :
    PSs (cxOf CX0 P w K mg base N_law_bag "_law_bag" (defScope s_law_bag) T.a_law_bag cdv A outer s H E).nox (defBody s_law_bag) (t_law_bag K  ) :=
    (pss_cons (ps_set (i := 2) sc_law_bag.nd rfl (Or.inl rfl) (pe_ifExp (pt_cmpR (x_lt hr.units0) (pv 1) (pe_callB c_len (by rfl) T.n_len (by decide +kernel) (pa_cons (pv 0) pa_nil)) (nomark _)) (pe_ix (ix_any (hu_of hr)) (pv 0) (pv 1) (fun _ _ => rfl)) pe_int))
    (pss_cons (ps_set (i := 3) sc_law_bag.nd rfl (Or.inl rfl) (pe_ifExp (pt_cmpR (x_ge hr.units0) (pe_callB call_abs (by rfl) T.n_abs (by decide +kernel) (pa_cons (pv 2) pa_nil)) (pe_op op_pow pe_int pe_int) (nomark _)) (pe_callB call_abs (by rfl) T.n_abs (by decide +kernel) (pa_cons (pv 2) pa_nil)) pe_int))
    (pss_one (ps_ret (pe_lst (pa_cons (pv 3) (pa_cons (pe_op op_mod (pe_op o_mul (pe_op o_add (pe_op o_add (pe_op op_mod (pv 2) pe_int) (pe_op o_mul pe_int (pv 1))) pe_int) pe_int) pe_int) (pa_cons pe_int pa_nil))))))))
def t_law_take (K : PySem.W.Frag)   : TS :=
    (tSeq (tIfS (tTest (tOp (rGtA K) (tOp (rIxA K) (tVar 0) (tC (.int 0))) (tC (.int 0)))) (tSeq (tAsg (tOp (rI (fun _ j => 0 < j) fun i j => V.int (i % j)) (tOp (rIxA K) (tVar 0) (tC (.int 0))) (tVar 1)) (gName 3))
    (tSeq (tAsg (tOp (rI CDiv fun i j => V.int (i / j)) (tOp (rIxA K) (tVar 0) (tC (.int 0))) (tVar 1)) (gSub (tVar 0) (tC (.int 0)) rSetL))
    (tRet (tVar 3)))) tNext)
    (tSeq (tAsg (tOp (rAddA K) (tOp (rIxA K) (tVar 0) (tC (.int 2))) (tC (.int 1))) (gSub (tVar 0) (tC (.int 2)) rSetL))
    (tSeq (tAsg (tOp (rI (fun _ j => 0 < j) fun i j => V.int (i % j)) (tOp (rI CPow fun i j => V.int (i ^ j.toNat)) (tOp (rAddA K) (tOp (rIxA K) (tVar 0) (tC (.int 1))) (tOp (rMulA K) (tC (.int 5000011)) (tOp (rIxA K) (tVar 0) (tC (.int 2))))) (tC (.int 3))) (tC (.int 2305843009213693921))) (gName 2))
    (tSeq (tAsg (tOp (rI (fun _ j => 0 < j) fun i j => V.int (i % j)) (tOp (rI CPow fun i j => V.int (i ^ j.toNat)) (tOp (rAddA K) (tVar 2) (tOp (rMulA K) (tC (.int 71993051)) (tOp (rIxA K) (tVar 0) (tC (.int 2))))) (tC (.int 2))) (tC (.int 2305843009213693951))) (gName 2))
    (tRet (tOp (rI (fun _ j => 0 < j) fun i j => V.int (i % j)) (tOp (rI CDiv fun i j => V.int (i / j)) (tVar 2) (tC (.int 2048))) (tVar 1)))))))
theorem d_law_take (T : Txt K mg) {cdv : Value} {A : Around} {outer : List Env} {s : Shared} {H : Hp} {E : XK} (hr : Room 0 (A.deeper (envOfC "_law_take" (defScope s_law_take) s.heap.objs.size T.a_law_take cdv)))  :
    PSs (cxOf CX0 P w K mg base N_law_take "_law_take" (defScope s_law_take) T.a_law_take cdv A outer s H E).nox (defBody s_law_take) (t_law_take K  ) :=
    (pss_cons (ps_if (pt_cmpR (x_gt hr.units0) (pe_ix (ix_any (hu_of hr)) (pv 0) pe_int (fun _ _ => rfl)) pe_int (nomark _)) (pss_cons (ps_set (i := 3) sc_law_take.nd rfl (Or.inl rfl) (pe_op op_mod (pe_ix (ix_any (hu_of hr)) (pv 0) pe_int (fun _ _ => rfl)) (pv 1)))
    (pss_cons (ps_asg (pe_op op_fdiv (pe_ix (ix_any (hu_of hr)) (pv 0) pe_int (fun _ _ => rfl)) (pv 1)) (pg_sub (pv 0) pe_int set_list))
    (pss_one (ps_ret (pv 3))))) pss_nil)
    (pss_cons (ps_asg (pe_op o_add (pe_ix (ix_any (hu_of hr)) (pv 0) pe_int (fun _ _ => rfl)) pe_int) (pg_sub (pv 0) pe_int set_list))
    (pss_cons (ps_set (i := 2) sc_law_take.nd rfl (Or.inl rfl) (pe_op op_mod (pe_op op_pow (pe_op o_add (pe_ix (ix_any (hu_of hr)) (pv 0) pe_int (fun _ _ => rfl)) (pe_op o_mul pe_int (pe_ix (ix_any (hu_of hr)) (pv 0) pe_int (fun _ _ => rfl)))) pe_int) pe_int))
    (pss_cons (ps_set (i := 2) sc_law_take.nd rfl (Or.inl rfl) (pe_op op_mod (pe_op op_pow (pe_op o_add (pv 2) (pe_op o_mul pe_int (pe_ix (ix_any (hu_of hr)) (pv 0) pe_int (fun _ _ => rfl)))) pe_int) pe_int))
    (pss_one (ps_ret (pe_op op_mod (pe_op op_fdiv (pv 2) pe_int) (pv 1))))))))
def t_law_rule (K : PySem.W.Frag)  (sp_law_take : Sp) : TS :=
    (tSeq (tPar 2 3 (tCons tDNewK (tCons tDNewK tNil)))
    (tSeq (tFor (iSeq K (tC (.str "A1B2_Z9"))) (gName 1) (tIfS (tTest (tOp (rEqA K) (tCall sp_law_take [] E0 (tCons (tVar 0) (tCons (tC (.int 2)) tNil))) (tC (.int 0)))) (sDPut (tVar 2) (tVar 1) (tM1 (rJoin K) (tC (.str "")) (tLc (iRng1 (tCons (tOp (rIxA K) (tLst (tCons (tC (.int 1)) (tCons (tC (.int 1)) (tCons (tC (.int 2)) (tCons (tC (.int 2)) (tCons (tC (.int 3)) tNil)))))) (tCall sp_law_take [] E0 (tCons (tVar 0) (tCons (tC (.int 5)) tNil)))) tNil)) (gName 4) tYes (tOp (rIxA K) (tC (.str "aabc':^")) (tCall sp_law_take [] E0 (tCons (tVar 0) (tCons (tC (.int 7)) tNil)))) [4]))) tNext))
    (tSeq (tFor (iSeq K (tC (.str "':^~"))) (gName 1) (tIfS (tTest (tOp (rGtA K) (tCall sp_law_take [] E0 (tCons (tVar 0) (tCons (tC (.int 3)) tNil))) (tC (.int 0)))) (sDPut (tVar 3) (tVar 1) (tOp (rAddA K) (tC (.int 1)) (tCall sp_law_take [] E0 (tCons (tVar 0) (tCons (tC (.int 3)) tNil))))) tNext))
    (tRet (tTup (tCons (tLk (tVar 2)) (tCons (tLk (tVar 3)) tNil)))))))
theorem d_law_rule (T : Txt K mg) {cdv : Value} {A : Around} {outer : List Env} {s : Shared} {H : Hp} {E : XK} (hr : Room 1 (A.deeper (envOfC "_law_rule" (defScope s_law_rule) s.heap.objs.size T.a_law_rule cdv))) {sp_law_take : Sp} (G_law_take : FnOk P w K mg base CX0 1 T.a_law_take T.fd_law_take P_law_take sp_law_take) :
    PSs (cxOf CX0 P w K mg base N_law_rule "_law_rule" (defScope s_law_rule) T.a_law_rule cdv A outer s H E).nox (defBody s_law_rule) (t_law_rule K  sp_law_take) :=
    (pss_cons (ps_par (by rfl) sc_law_rule.nd (i := 2) (j := 3) rfl rfl (by decide) rfl rfl (pa_cons pe_dnewK (pa_cons pe_dnewK pa_nil)) (by rfl))
    (pss_cons (ps_for PassesOwn.never rfl (pi_seq pe_str) (pg_name (i := 1) sc_law_rule.nd rfl (Or.inl rfl)) (pss_one (ps_if (pt_cmpR (o_eq (hu4 hr)) (pe_call G_law_take (hr.mono (by decide)) rfl T.g_law_take T.k_law_take T.b_law_take .nil pass0 (pa_cons (pv 0) (pa_cons pe_int pa_nil))) pe_int (nomark _)) (pss_one (ps_dput (hu_of hr) (pv 2) (pv 1) (pe_join pe_str (pe_lc (own := [("_law_k", 4)]) rfl sc_law_rule.nd (pi_range1 rfl T.n_range (pa_cons (pe_ix (ix_any (hu_of hr)) (pe_lst (pa_cons pe_int (pa_cons pe_int (pa_cons pe_int (pa_cons pe_int (pa_cons pe_int pa_nil)))))) (pe_call G_law_take (hr.mono (by decide)) rfl T.g_law_take T.k_law_take T.b_law_take .nil pass0 (pa_cons (pv 0) (pa_cons pe_int pa_nil))) (fun _ _ => rfl)) pa_nil)) (blkOk_by (own := [("_law_k", 4)]) (N := N_law_rule) (sc := defScope s_law_rule) (by decide +kernel)) (fun _ _ _ _ _ => (pg_name (i := 4) sc_law_rule.nd rfl (Or.inl rfl))) (fun _ _ _ _ _ => pts_nil) (fun _ _ _ _ _ => (pe_ix (ix_any (hu_of hr)) pe_str (pe_call G_law_take (hr.mono (by decide)) rfl T.g_law_take T.k_law_take T.b_law_take .nil pass0 (pa_cons (pv 0) (pa_cons pe_int pa_nil))) (fun _ _ => rfl))))) rfl)) pss_nil)))
    (pss_cons (ps_for PassesOwn.never rfl (pi_seq pe_str) (pg_name (i := 1) sc_law_rule.nd rfl (Or.inl rfl)) (pss_one (ps_if (pt_cmpR (x_gt hr.units0) (pe_call G_law_take (hr.mono (by decide)) rfl T.g_law_take T.k_law_take T.b_law_take .nil pass0 (pa_cons (pv 0) (pa_cons pe_int pa_nil))) pe_int (nomark _)) (pss_one (ps_dput (hu_of hr) (pv 3) (pv 1) (pe_op o_add pe_int (pe_call G_law_take (hr.mono (by decide)) rfl T.g_law_take T.k_law_take T.b_law_take .nil pass0 (pa_cons (pv 0) (pa_cons pe_int pa_nil)))) rfl)) pss_nil)))
    (pss_one (ps_ret (pe_tup (pa_cons (pe_lk (pv 2)) (pa_cons (pe_lk (pv 3)) pa_nil))))))))
def t_law_word (K : PySem.W.Frag)  (sp_law_take : Sp) : TS :=
    (tSeq (tAsg (tC (.str "aabc'':^~A1B2_Z9z-")) (gName 2))
    (tRet (tM1 (rJoin K) (tC (.str "")) (tLc (iRng1 (tCons (tOp (rAddA K) (tC (.int 1)) (tCall sp_law_take [] E0 (tCons (tVar 0) (tCons (tVar 1) tNil)))) tNil)) (gName 3) tYes (tOp (rIxA K) (tVar 2) (tCall sp_law_take [] E0 (tCons (tVar 0) (tCons (tC (.int 18)) tNil)))) [3]))))
theorem d_law_word (T : Txt K mg) {cdv : Value} {A : Around} {outer : List Env} {s : Shared} {H : Hp} {E : XK} (hr : Room 1 (A.deeper (envOfC "_law_word" (defScope s_law_word) s.heap.objs.size T.a_law_word cdv))) {sp_law_take : Sp} (G_law_take : FnOk P w K mg base CX0 1 T.a_law_take T.fd_law_take P_law_take sp_law_take) :
    PSs (cxOf CX0 P w K mg base N_law_word "_law_word" (defScope s_law_word) T.a_law_word cdv A outer s H E).nox (defBody s_law_word) (t_law_word K  sp_law_take) :=
    (pss_cons (ps_set (i := 2) sc_law_word.nd rfl (Or.inr rfl) pe_str)
    (pss_one (ps_ret (pe_join pe_str (pe_lc (own := [("_law_k", 3)]) rfl sc_law_word.nd (pi_range1 rfl T.n_range (pa_cons (pe_op o_add pe_int (pe_call G_law_take (hr.mono (by decide)) rfl T.g_law_take T.k_law_take T.b_law_take .nil pass0 (pa_cons (pv 0) (pa_cons (pv 1) pa_nil)))) pa_nil)) (blkOk_by (own := [("_law_k", 3)]) (N := N_law_word) (sc := defScope s_law_word) (by decide +kernel)) (fun _ _ _ _ _ => (pg_name (i := 3) sc_law_word.nd rfl (Or.inl rfl))) (fun _ _ _ _ _ => pts_nil) (fun _ _ _ _ _ => (pe_ix (ix_any (hu_of hr)) (pv 2) (pe_call G_law_take (hr.mono (by decide)) rfl T.g_law_take T.k_law_take T.b_law_take .nil pass0 (pa_cons (pv 0) (pa_cons pe_int pa_nil))) (fun _ _ => rfl))))))))
def t_law_key (K : PySem.W.Frag)   : TS :=
    (tSeq (tAsg (tVar 0) (gTup K 2 (gCons (gName 2) (gCons (gName 3) gNil))))
    (tSeq (tPar 4 5 (tCons (tCB (rListA K) (tCons (tM1 (rJoin K) (tC (.str "")) (tLc (iSeq K (tVar 1)) (gName 9) tYes (tDGet2 (tVar 2) (tVar 9) (tVar 9)) [9])) tNil)) (tCons (tC (.bl false)) tNil)))
    (tSeq (tWhile (tNot (tB (tVar 5))) (tSeq (tAsg (tC (.bl true)) (gName 5))
    (tFor (iRng1 (tCons (tOp (rI0 fun i j => V.int (i - j)) (tCB (rLenA K) (tCons (tVar 4) tNil)) (tC (.int 1))) tNil)) (gName 6) (tSeq (tPar 7 8 (tCons (tOp (rIxA K) (tVar 4) (tVar 6)) (tCons (tOp (rIxA K) (tVar 4) (tOp (rAddA K) (tVar 6) (tC (.int 1)))) tNil)))
    (tIfS (tAnd (tTest (tOp (rInA K) (tVar 7) (tVar 3))) (tAnd (tTest (tOp (rInA K) (tVar 8) (tVar 3))) (tTest (tOp (rGtA K) (tOp (rIxA K) (tVar 3) (tVar 7)) (tOp (rIxA K) (tVar 3) (tVar 8)))))) (tSeq (tAsg (tTup (tCons (tVar 8) (tCons (tVar 7) tNil))) (gTup K 2 (gCons (gSub (tVar 4) (tVar 6) rSetL) (gCons (gSub (tVar 4) (tOp (rAddA K) (tVar 6) (tC (.int 1))) rSetL) gNil))))
    (tAsg (tC (.bl false)) (gName 5))) tNext)))))
    (tRet (tM1 (rJoin K) (tC (.str "")) (tVar 4))))))
theorem d_law_key (T : Txt K mg) {cdv : Value} {A : Around} {outer : List Env} {s : Shared} {H : Hp} {E : XK} (hr : Room 0 (A.deeper (envOfC "_law_key" (defScope s_law_key) s.heap.objs.size T.a_law_key cdv)))  :
    PSs (cxOf CX0 P w K mg base N_law_key "_law_key" (defScope s_law_key) T.a_law_key cdv A outer s H E).nox (defBody s_law_key) (t_law_key K  ) :=
    (pss_cons (ps_asg (pv 0) (pg_tup rfl (pgs_cons (pg_name (i := 2) sc_law_key.nd rfl (Or.inr rfl)) (pgs_cons (pg_name (i := 3) sc_law_key.nd rfl (Or.inl rfl)) pgs_nil))))
    (pss_cons (ps_par (by rfl) sc_law_key.nd (i := 4) (j := 5) rfl rfl (by decide) rfl rfl (pa_cons (pe_callTy (c_list rfl) (by rfl) T.n_list (by decide +kernel) (pa_cons (pe_join pe_str (pe_lc (own := [("_law_sign", 9)]) rfl sc_law_key.nd (pi_seq (pv 1)) (blkOk_by (own := [("_law_sign", 9)]) (N := N_law_key) (sc := defScope s_law_key) (by decide +kernel)) (fun _ _ _ _ _ => (pg_name (i := 9) sc_law_key.nd rfl (Or.inl rfl))) (fun _ _ _ _ _ => pts_nil) (fun _ _ _ _ _ => (pe_dget2 (hu_of hr) (pv 2) (pv 9) (pv 9) ⟨rfl, rfl, rfl, rfl⟩)))) pa_nil)) (pa_cons pe_bl pa_nil)) (by rfl))
    (pss_cons (ps_while PassesOwn.never (pt_not (pt_val (pv 5))) (pss_cons (ps_set (i := 5) sc_law_key.nd rfl (Or.inl rfl) pe_bl)
    (pss_one (ps_for PassesOwn.never rfl (pi_range1 rfl T.n_range (pa_cons (pe_op op_sub (pe_callB c_len (by rfl) T.n_len (by decide +kernel) (pa_cons (pv 4) pa_nil)) pe_int) pa_nil)) (pg_name (i := 6) sc_law_key.nd rfl (Or.inl rfl)) (pss_cons (ps_par (by rfl) sc_law_key.nd (i := 7) (j := 8) rfl rfl (by decide) rfl rfl (pa_cons (pe_ix (ix_any (hu_of hr)) (pv 4) (pv 6) (fun _ _ => rfl)) (pa_cons (pe_ix (ix_any (hu_of hr)) (pv 4) (pe_op o_add (pv 6) pe_int) (fun _ _ => rfl)) pa_nil)) (by rfl))
    (pss_one (ps_if (PW.pt (pw_and (pt_cmpR (o_in (hu_of hr)) (pv 7) (pv 3) (by rfl)) (pw_and (pt_cmpR (o_in (hu_of hr)) (pv 8) (pv 3) (by rfl)) (pw_and1 (pt_cmpR (x_gt hr.units0) (pe_ix (ix_any (hu_of hr)) (pv 3) (pv 7) (fun _ _ => rfl)) (pe_ix (ix_any (hu_of hr)) (pv 3) (pv 8) (fun _ _ => rfl)) (nomark _)))))) (pss_cons (ps_asg (pe_tup (pa_cons (pv 8) (pa_cons (pv 7) pa_nil))) (pg_tup rfl (pgs_cons (pg_sub (pv 4) (pv 6) set_list) (pgs_cons (pg_sub (pv 4) (pe_op o_add (pv 6) pe_int) set_list) pgs_nil))))
    (pss_one (ps_set (i := 5) sc_law_key.nd rfl (Or.inl rfl) pe_bl))) pss_nil)))))))
    (pss_one (ps_ret (pe_join pe_str (pv 4)))))))
def t_law_names (K : PySem.W.Frag)  (sp_law_take : Sp) (sp_law_word : Sp) (sp_exchanges : Sp) : TS :=
    (tSeq (tAsg (tLst tNil) (gName 3))
    (tSeq (tFor (iRng1 (tCons (tVar 2) tNil)) (gName 4) (tSeq (tAsg (tIf (tTest (tOp (rNeA K) (tVar 3) (tLst tNil))) (tCall sp_exchanges [] E0 (tCons (tVar 1) (tCons (tOp (rIxA K) (tVar 3) (tUn (rU fun i => V.int (-i)) (tC (.int 1)))) tNil))) (tLst tNil)) (gName 5))
    (tSeq (tAsg (tLc (iSeq K (tVar 5)) (gName 6) (tTest (tOp (rLtA K) (tCB (rLenA K) (tCons (tVar 6) tNil)) (tC (.int 13)))) (tVar 6) [6]) (gName 5))
    (tSeq (tAsg (tCall sp_law_word [] E0 (tCons (tVar 0) (tCons (tOp (rIxA K) (tLst (tCons (tC (.int 1)) (tCons (tC (.int 2)) (tCons (tC (.int 12)) tNil)))) (tCall sp_law_take [] E0 (tCons (tVar 0) (tCons (tC (.int 3)) tNil)))) tNil))) (gName 6))
    (tSeq (tIfS (tAnd (tTest (tOp (rNeA K) (tVar 5) (tLst tNil))) (tTest (tOp (rGtA K) (tCall sp_law_take [] E0 (tCons (tVar 0) (tCons (tC (.int 3)) tNil))) (tC (.int 0))))) (tAsg (tOp (rIxA K) (tVar 5) (tCall sp_law_take [] E0 (tCons (tVar 0) (tCons (tCB (rLenA K) (tCons (tVar 5) tNil)) tNil)))) (gName 6)) tNext)
    (tIfS (tTest (tOp (rNotInA K) (tVar 6) (tVar 3))) (tDrop (tBM K "list" rAppend (tVar 3) (tCons (tVar 6) tNil))) tNext))))))
    (tRet (tVar 3))))
theorem d_law_names (T : Txt K mg) {cdv : Value} {A : Around} {outer : List Env} {s : Shared} {H : Hp} {E : XK} (hr : Room 3 (A.deeper (envOfC "_law_names" (defScope s_law_names) s.heap.objs.size T.a_law_names cdv))) {sp_law_take : Sp} (G_law_take : FnOk P w K mg base CX0 1 T.a_law_take T.fd_law_take P_law_take sp_law_take) {sp_law_word : Sp} (G_law_word : FnOk P w K mg base CX0 2 T.a_law_word T.fd_law_word P_law_word sp_law_word) {sp_exchanges : Sp} (G_exchanges : FnOk P w K mg base CX0 3 T.a_exchanges T.fd_exchanges P_exchanges sp_exchanges) :
    PSs (cxOf CX0 P w K mg base N_law_names "_law_names" (defScope s_law_names) T.a_law_names cdv A outer s H E).nox (defBody s_law_names) (t_law_names K  sp_law_take sp_law_word sp_exchanges) :=
    (pss_cons (ps_set (i := 3) sc_law_names.nd rfl (Or.inl rfl) (pe_lst pa_nil))
    (pss_cons (ps_for PassesOwn.never rfl (pi_range1 rfl T.n_range (pa_cons (pv 2) pa_nil)) (pg_name (i := 4) sc_law_names.nd rfl (Or.inl rfl)) (pss_cons (ps_set (i := 5) sc_law_names.nd rfl (Or.inl rfl) (pe_ifExp (pt_cmpR (o_ne (hu4 hr)) (pv 3) (pe_lst pa_nil) (nomark _)) (pe_call G_exchanges (hr.mono (by decide)) rfl T.g_exchanges T.k_exchanges T.b_exchanges .nil pass0 (pa_cons (pv 1) (pa_cons (pe_ix (ix_any (hu_of hr)) (pv 3) (pe_un un_neg pe_int) (fun _ _ => rfl)) pa_nil))) (pe_lst pa_nil)))
    (pss_cons (ps_setLc (i := 5) (own := [("_law_word_here", 6)]) rfl sc_law_names.nd rfl rfl (sw_true rfl rfl rfl (by decide +kernel)) (pi_seq (pv 5)) (blkOk_by (own := [("_law_word_here", 6)]) (N := N_law_names) (sc := defScope s_law_names) (by decide +kernel)) (fun _ _ _ _ _ => (pg_name (i := 6) sc_law_names.nd rfl (Or.inl rfl))) (fun _ _ _ _ _ => pts_one (pt_cmpR (x_lt hr.units0) (pe_callB c_len (by rfl) T.n_len (by decide +kernel) (pa_cons (pv 6) pa_nil)) pe_int (nomark _))) (fun _ _ _ _ _ => (pv 6)))
    (pss_cons (ps_set (i := 6) sc_law_names.nd rfl (Or.inl rfl) (pe_call G_law_word (hr.mono (by decide)) rfl T.g_law_word T.k_law_word T.b_law_word .nil pass0 (pa_cons (pv 0) (pa_cons (pe_ix (ix_any (hu_of hr)) (pe_lst (pa_cons pe_int (pa_cons pe_int (pa_cons pe_int pa_nil)))) (pe_call G_law_take (hr.mono (by decide)) rfl T.g_law_take T.k_law_take T.b_law_take .nil pass0 (pa_cons (pv 0) (pa_cons pe_int pa_nil))) (fun _ _ => rfl)) pa_nil))))
    (pss_cons (ps_if (PW.pt (pw_and (pt_cmpR (o_ne (hu4 hr)) (pv 5) (pe_lst pa_nil) (nomark _)) (pw_and1 (pt_cmpR (x_gt hr.units0) (pe_call G_law_take (hr.mono (by decide)) rfl T.g_law_take T.k_law_take T.b_law_take .nil pass0 (pa_cons (pv 0) (pa_cons pe_int pa_nil))) pe_int (nomark _))))) (pss_one (ps_set (i := 6) sc_law_names.nd rfl (Or.inl rfl) (pe_ix (ix_any (hu_of hr)) (pv 5) (pe_call G_law_take (hr.mono (by decide)) rfl T.g_law_take T.k_law_take T.b_law_take .nil pass0 (pa_cons (pv 0) (pa_cons (pe_callB c_len (by rfl) T.n_len (by decide +kernel) (pa_cons (pv 5) pa_nil)) pa_nil))) (fun _ _ => rfl)))) pss_nil)
    (pss_one (ps_if (pt_cmpR (o_notin (hu_of hr)) (pv 6) (pv 3) (by rfl)) (pss_one (ps_expr (pe_bm PySem.F.plainAttrs_list PySem.F.slot_list_append PySem.F.type_list_append mt_append (pv 3) (pa_cons (pv 6) pa_nil)))) pss_nil)))))))
    (pss_one (ps_ret (pv 3)))))
def t_law_groups (K : PySem.W.Frag) (ad_law_groups_tab : Addr) (sp_law_key : Sp) : TS :=
    (tSeq (tAsg tDNewK (gName 2))
    (tSeq (tFor (iSeq K (tSortL K ad_law_groups_tab (("_law_groups" : Str) ++ ".<locals>." ++ "<lambda>") "_law_word_here" (tTup (tCons (tCB (rLenA K) (tCons (tVar 0) tNil)) (tCons (tVar 0) tNil))) (tCons (tVar 1) tNil))) (gName 3) (tDrop (tBM K "list" rAppend (tDSetd (tVar 2) (tCall sp_law_key [] E0 (tCons (tVar 0) (tCons (tVar 3) tNil))) (tLst tNil)) (tCons (tVar 3) tNil))))
    (tRet (tListVals (tVar 2)))))
theorem d_law_groups (T : Txt K mg) {cdv : Value} {A : Around} {outer : List Env} {s : Shared} {H : Hp} {E : XK} (hr : Room 3 (A.deeper (envOfC "_law_groups" (defScope s_law_groups) s.heap.objs.size T.a_law_groups cdv))) (TB : LamX.TabB base mg T.a_law_groups_code T.a_law_groups_tab) (hcode : cdv = .ref T.a_law_groups_code) {sp_law_key : Sp} (G_law_key : FnOk P w K mg base CX0 1 T.a_law_key T.fd_law_key P_law_key sp_law_key) :
    PSs (cxOf CX0 P w K mg base N_law_groups "_law_groups" (defScope s_law_groups) T.a_law_groups cdv A outer s H E).nox (defBody s_law_groups) (t_law_groups K T.a_law_groups_tab sp_law_key) :=
    (pss_cons (ps_set (i := 2) sc_law_groups.nd rfl (Or.inl rfl) pe_dnewK)
    (pss_cons (ps_for PassesOwn.never rfl (pi_seq (pe_sortedLam (k := 0) (x := "_law_word_here") TB hcode (by rfl) T.n_sorted (pa_cons (pv 1) pa_nil) rfl ⟨rfl, rfl, rfl, by decide +kernel, rfl, by decide +kernel, by decide +kernel⟩ rfl (fun _ _ _ _ => rfl) (hr.mono (by decide)) (fun _ _ _ _ _ _ _ => (pe_tup (pa_cons (pe_callB c_len (by rfl) T.n_len (by decide +kernel) (pa_cons (pv 0) pa_nil)) (pa_cons (pv 0) pa_nil)))))) (pg_name (i := 3) sc_law_groups.nd rfl (Or.inl rfl)) (pss_one (ps_expr (pe_bm PySem.F.plainAttrs_list PySem.F.slot_list_append PySem.F.type_list_append mt_append (pe_dsetd (pv 2) (pe_call G_law_key (hr.mono (by decide)) rfl T.g_law_key T.k_law_key T.b_law_key .nil pass0 (pa_cons (pv 0) (pa_cons (pv 3) pa_nil))) (pe_lst pa_nil) ⟨rfl, rfl, rfl, rfl⟩) (pa_cons (pv 3) pa_nil)))))
    (pss_one (ps_ret (pe_listVals rfl (by rfl) T.n_list (pv 2))))))
def t_law (K : PySem.W.Frag) (ad_Table : Addr) (sp_groups : Sp) (sp_bar : Sp) (sp_law_groups : Sp) (sp_law_names : Sp) (sp_law_take : Sp) (sp_Table___init : Sp) (sp_law_rule : Sp) (sp_law_bag : Sp) : TS :=
    (tSeq (tFor (iRng1 (tCons (tCB rMax2 (tCons (tC (.int 2)) (tCons (tCB rMin2 (tCons (tC (.int 6)) (tCons (tCB (rLenA K) (tCons (tVar 0) tNil)) tNil))) tNil))) tNil)) (gName 1) (tSeq (tAsg (tCall sp_law_bag [] E0 (tCons (tVar 0) (tCons (tVar 1) tNil))) (gName 2))
    (tFor (iRng1 (tCons (tC (.int 4)) tNil)) (gName 3) (tSeq (tAsg (tCall sp_law_rule [] E0 (tCons (tVar 2) tNil)) (gName 4))
    (tSeq (tAsg (tMake ad_Table sp_Table___init [] E0 (tCons (tOp (rIxA K) (tVar 4) (tC (.int 0))) (tCons (tOp (rIxA K) (tVar 4) (tC (.int 1))) tNil))) (gName 5))
    (tSeq (tAsg (tCall sp_law_names [] E0 (tCons (tVar 2) (tCons (tVar 5) (tCons (tOp (rIxA K) (tLst (tCons (tC (.int 3)) (tCons (tC (.int 12)) (tCons (tC (.int 60)) tNil)))) (tCall sp_law_take [] E0 (tCons (tVar 2) (tCons (tC (.int 3)) tNil)))) tNil)))) (gName 6))
    (tSeq (tPar 10 11 (tCons (tCall sp_law_groups [] E0 (tCons (tVar 4) (tCons (tVar 6) tNil))) (tCons (tCB (rReprA K) (tCons (tVar 6) tNil)) tNil)))
    (tSeq (tAsg (tCall sp_groups [] E0 (tCons (tVar 5) (tCons (tVar 6) tNil))) (gName 7))
    (tSeq (tIfS (tOr (tTest (tOp (rNeA K) (tCB (rReprA K) (tCons (tVar 7) tNil)) (tCB (rReprA K) (tCons (tVar 10) tNil)))) (tOr (tTest (tOp (rNeA K) (tCB (rReprA K) (tCons (tVar 6) tNil)) (tVar 11))) (tTest (tOp (rNeA K) (tCall sp_groups [] E0 (tCons (tVar 5) (tCons (tRevA K (tVar 6)) tNil))) (tVar 10))))) (tRet (tC (.bl false))) tNext)
    (tSeq (tAsg (tLc (iSeq K (tVar 10)) (gName 12) (tTest (tOp (rGtA K) (tCB (rLenA K) (tCons (tVar 12) tNil)) (tC (.int 1)))) (tVar 12) [12]) (gName 8))
    (tSeq (tAsg (tIf (tTest (tOp (rEqA K) (tVar 8) (tLst tNil))) (tC .non) (tTup (tCons (tOp (rIxA K) (tOp (rIxA K) (tVar 8) (tC (.int 0))) (tC (.int 0))) (tCons (tOp (rIxA K) (tOp (rIxA K) (tVar 8) (tC (.int 0))) (tC (.int 1))) tNil)))) (gName 9))
    (tSeq (tIfS (tTest (tOp (rNeA K) (tCB (rReprA K) (tCons (tLst (tCons (tCall sp_bar [] E0 (tCons (tVar 5) (tCons (tVar 6) tNil))) (tCons (tCall sp_bar [] E0 (tCons (tVar 5) (tCons (tRevA K (tVar 6)) tNil))) tNil))) tNil)) (tCB (rReprA K) (tCons (tLst (tCons (tVar 9) (tCons (tVar 9) tNil))) tNil)))) (tRet (tC (.bl false))) tNext)
    (tSeq (tDrop (tBM K "list" rAppend (tOp (rIxA K) (tVar 7) (tC (.int 0))) (tCons (tC (.str "changed")) tNil)))
    (tSeq (tDrop (tBM K "list" rAppend (tVar 7) (tCons (tLst tNil) tNil)))
    (tIfS (tTest (tOp (rNeA K) (tCall sp_groups [] E0 (tCons (tVar 5) (tCons (tVar 6) tNil))) (tVar 10))) (tRet (tC (.bl false))) tNext)))))))))))))))
    (tRet (tAndV (tOp (rEqA K) (tCall sp_groups [] E0 (tCons (tVar 5) (tCons (tLst tNil) tNil))) (tLst tNil)) (tAndV (tOp rIsNone (tCall sp_bar [] E0 (tCons (tVar 5) (tCons (tLst tNil) tNil))) (tC .non)) (tOp rIsNone (tCall sp_bar [] E0 (tCons (tVar 5) (tCons (tLst (tCons (tC (.str "a")) tNil)) tNil))) (tC .non))))))
theorem d_law (T : Txt K mg) {cdv : Value} {A : Around} {outer : List Env} {s : Shared} {H : Hp} {E : XK} (hr : Room 5 (A.deeper (envOfC "law" (defScope s_law) s.heap.objs.size T.a_law cdv))) (hg : A.guards = some []) {sp_groups : Sp} (G_groups : FnOk P w K mg base CX0 4 T.a_groups T.fd_groups P_groups sp_groups) {sp_bar : Sp} (G_bar : FnOk P w K mg base CX0 5 T.a_bar T.fd_bar P_bar sp_bar) {sp_law_groups : Sp} (G_law_groups : FnOk P w K mg base CX0 4 T.a_law_groups T.fd_law_groups P_law_groups sp_law_groups) {sp_law_names : Sp} (G_law_names : FnOk P w K mg base CX0 4 T.a_law_names T.fd_law_names P_law_names sp_law_names) {sp_law_take : Sp} (G_law_take : FnOk P w K mg base CX0 1 T.a_law_take T.fd_law_take P_law_take sp_law_take) {sp_Table___init : Sp} (G_Table___init : FnOk P w K mg base CX0 4 T.a_Table___init T.fd_Table___init P_Table___init sp_Table___init) {sp_law_rule : Sp} (G_law_rule : FnOk P w K mg base CX0 2 T.a_law_rule T.fd_law_rule P_law_rule sp_law_rule) {sp_law_bag : Sp} (G_law_bag : FnOk P w K mg base CX0 1 T.a_law_bag T.fd_law_bag P_law_bag sp_law_bag) :
    PSs (cxOf CX0 P w K mg base N_law "law" (defScope s_law) T.a_law cdv A outer s H E).nox (defBody s_law) (t_law K T.a_Table sp_groups sp_bar sp_law_groups sp_law_names sp_law_take sp_Table___init sp_law_rule sp_law_bag) :=
    (pss_cons (ps_for PassesOwn.never rfl (pi_range1 rfl T.n_range (pa_cons (pe_callB (call_max2 rfl) (by rfl) T.n_max (by decide +kernel) (pa_cons pe_int (pa_cons (pe_callB (call_min2 rfl) (by rfl) T.n_min (by decide +kernel) (pa_cons pe_int (pa_cons (pe_callB c_len (by rfl) T.n_len (by decide +kernel) (pa_cons (pv 0) pa_nil)) pa_nil))) pa_nil))) pa_nil)) (pg_name (i := 1) sc_law.nd rfl (Or.inl rfl)) (pss_cons (ps_set (i := 2) sc_law.nd rfl (Or.inl rfl) (pe_call G_law_bag (hr.mono (by decide)) rfl T.g_law_bag T.k_law_bag T.b_law_bag .nil pass0 (pa_cons (pv 0) (pa_cons (pv 1) pa_nil))))
    (pss_one (ps_for PassesOwn.never rfl (pi_range1 rfl T.n_range (pa_cons pe_int pa_nil)) (pg_name (i := 3) sc_law.nd rfl (Or.inl rfl)) (pss_cons (ps_set (i := 4) sc_law.nd rfl (Or.inl rfl) (pe_call G_law_rule (hr.mono (by decide)) rfl T.g_law_rule T.k_law_rule T.b_law_rule .nil pass0 (pa_cons (pv 2) pa_nil)))
    (pss_cons (ps_set (i := 5) sc_law.nd rfl (Or.inl rfl) (pe_make T.mk_Table G_Table___init (hr.mono (by decide)) rfl T.g_Table T.b_Table___init .nil pass0 (pa_cons (pe_ix (ix_any (hu_of hr)) (pv 4) pe_int (fun _ _ => rfl)) (pa_cons (pe_ix (ix_any (hu_of hr)) (pv 4) pe_int (fun _ _ => rfl)) pa_nil))))
    (pss_cons (ps_set (i := 6) sc_law.nd rfl (Or.inl rfl) (pe_call G_law_names (hr.mono (by decide)) rfl T.g_law_names T.k_law_names T.b_law_names .nil pass0 (pa_cons (pv 2) (pa_cons (pv 5) (pa_cons (pe_ix (ix_any (hu_of hr)) (pe_lst (pa_cons pe_int (pa_cons pe_int (pa_cons pe_int pa_nil)))) (pe_call G_law_take (hr.mono (by decide)) rfl T.g_law_take T.k_law_take T.b_law_take .nil pass0 (pa_cons (pv 2) (pa_cons pe_int pa_nil))) (fun _ _ => rfl)) pa_nil)))))
    (pss_cons (ps_par (by rfl) sc_law.nd (i := 10) (j := 11) rfl rfl (by decide) rfl rfl (pa_cons (pe_call G_law_groups (hr.mono (by decide)) rfl T.g_law_groups T.k_law_groups T.b_law_groups .nil pass0 (pa_cons (pv 4) (pa_cons (pv 6) pa_nil))) (pa_cons (pe_callB (c_repr hg (hu4 hr)) (by rfl) T.n_repr (by decide +kernel) (pa_cons (pv 6) pa_nil)) pa_nil)) (by rfl))
    (pss_cons (ps_set (i := 7) sc_law.nd rfl (Or.inl rfl) (pe_call G_groups (hr.mono (by decide)) rfl T.g_groups T.k_groups T.b_groups .nil pass0 (pa_cons (pv 5) (pa_cons (pv 6) pa_nil))))
    (pss_cons (ps_if (PW.pt (pw_or (pt_cmpR (o_ne (hu4 hr)) (pe_callB (c_repr hg (hu4 hr)) (by rfl) T.n_repr (by decide +kernel) (pa_cons (pv 7) pa_nil)) (pe_callB (c_repr hg (hu4 hr)) (by rfl) T.n_repr (by decide +kernel) (pa_cons (pv 10) pa_nil)) (nomark _)) (pw_or (pt_cmpR (o_ne (hu4 hr)) (pe_callB (c_repr hg (hu4 hr)) (by rfl) T.n_repr (by decide +kernel) (pa_cons (pv 6) pa_nil)) (pv 11) (nomark _)) (pw_or1 (pt_cmpR (o_ne (hu4 hr)) (pe_call G_groups (hr.mono (by decide)) rfl T.g_groups T.k_groups T.b_groups .nil pass0 (pa_cons (pv 5) (pa_cons (pe_revA (pv 6)) pa_nil))) (pv 10) (nomark _)))))) (pss_one (ps_ret pe_bl)) pss_nil)
    (pss_cons (ps_setLc (i := 8) (own := [("_law_group", 12)]) rfl sc_law.nd rfl rfl (sw_true rfl rfl rfl (by decide +kernel)) (pi_seq (pv 10)) (blkOk_by (own := [("_law_group", 12)]) (N := N_law) (sc := defScope s_law) (by decide +kernel)) (fun _ _ _ _ _ => (pg_name (i := 12) sc_law.nd rfl (Or.inl rfl))) (fun _ _ _ _ _ => pts_one (pt_cmpR (x_gt hr.units0) (pe_callB c_len (by rfl) T.n_len (by decide +kernel) (pa_cons (pv 12) pa_nil)) pe_int (nomark _))) (fun _ _ _ _ _ => (pv 12)))
    (pss_cons (ps_set (i := 9) sc_law.nd rfl (Or.inl rfl) (pe_ifExp (pt_cmpR (o_eq (hu4 hr)) (pv 8) (pe_lst pa_nil) (nomark _)) pe_non (pe_tup (pa_cons (pe_ix (ix_any (hu_of hr)) (pe_ix (ix_any (hu_of hr)) (pv 8) pe_int (fun _ _ => rfl)) pe_int (fun _ _ => rfl)) (pa_cons (pe_ix (ix_any (hu_of hr)) (pe_ix (ix_any (hu_of hr)) (pv 8) pe_int (fun _ _ => rfl)) pe_int (fun _ _ => rfl)) pa_nil)))))
    (pss_cons (ps_if (pt_cmpR (o_ne (hu4 hr)) (pe_callB (c_repr hg (hu4 hr)) (by rfl) T.n_repr (by decide +kernel) (pa_cons (pe_lst (pa_cons (pe_call G_bar (hr.mono (by decide)) rfl T.g_bar T.k_bar T.b_bar .nil pass0 (pa_cons (pv 5) (pa_cons (pv 6) pa_nil))) (pa_cons (pe_call G_bar (hr.mono (by decide)) rfl T.g_bar T.k_bar T.b_bar .nil pass0 (pa_cons (pv 5) (pa_cons (pe_revA (pv 6)) pa_nil))) pa_nil))) pa_nil)) (pe_callB (c_repr hg (hu4 hr)) (by rfl) T.n_repr (by decide +kernel) (pa_cons (pe_lst (pa_cons (pv 9) (pa_cons (pv 9) pa_nil))) pa_nil)) (nomark _)) (pss_one (ps_ret pe_bl)) pss_nil)
    (pss_cons (ps_expr (pe_bm PySem.F.plainAttrs_list PySem.F.slot_list_append PySem.F.type_list_append mt_append (pe_ix (ix_any (hu_of hr)) (pv 7) pe_int (fun _ _ => rfl)) (pa_cons pe_str pa_nil)))
    (pss_cons (ps_expr (pe_bm PySem.F.plainAttrs_list PySem.F.slot_list_append PySem.F.type_list_append mt_append (pv 7) (pa_cons (pe_lst pa_nil) pa_nil)))
    (pss_one (ps_if (pt_cmpR (o_ne (hu4 hr)) (pe_call G_groups (hr.mono (by decide)) rfl T.g_groups T.k_groups T.b_groups .nil pass0 (pa_cons (pv 5) (pa_cons (pv 6) pa_nil))) (pv 10) (nomark _)) (pss_one (ps_ret pe_bl)) pss_nil)))))))))))))))))
    (pss_one (ps_ret (pe_and (pe_cmpR (o_eq (hu4 hr)) (pe_call G_groups (hr.mono (by decide)) rfl T.g_groups T.k_groups T.b_groups .nil pass0 (pa_cons (pv 5) (pa_cons (pe_lst pa_nil) pa_nil))) (pe_lst pa_nil) (nomark _)) (pe_and (pe_cmpR op_isN (pe_call G_bar (hr.mono (by decide)) rfl T.g_bar T.k_bar T.b_bar .nil pass0 (pa_cons (pv 5) (pa_cons (pe_lst pa_nil) pa_nil))) pe_non (nomark _)) (pe_one (pe_cmpR op_isN (pe_call G_bar (hr.mono (by decide)) rfl T.g_bar T.k_bar T.b_bar .nil pass0 (pa_cons (pv 5) (pa_cons (pe_lst (pa_cons pe_str pa_nil)) pa_nil))) pe_non (nomark _))))))))
end
end Nm

set_option Elab.async false
set_option linter.all false
set_option maxRecDepth 100000
set_option maxHeartbeats 400000
namespace Nm
open PySem PySem.Spec L2
local macro_rules | `(tactic| walk_at "ev") => `(tactic| first
  | (with_reducible apply ev_var; assumption; with_unfolding_all rfl)
  | (with_reducible apply ev_c; first | with_reducible exact Den.int _ | with_reducible exact Den.str _ | with_reducible exact Den.bl _ | with_reducible exact Den.non | with_reducible exact Den.ty _)
  | with_reducible exact ea_nil
  | (with_reducible apply ea_cons; walk_at "ev"; walk_at "ev")
  | (with_reducible apply ev_op; walk_at "ev"; walk_at "ev"; walk_at "rv")
  | (with_reducible apply ev_cb; walk_at "ev"; walk_at "rv")
  | (with_reducible apply ev_lst; walk_at "ev"; walk_at "sz")
  | (with_reducible apply ev_tup; walk_at "ev"; walk_at "sz")
  | (with_reducible apply ev_un; walk_at "ev"; walk_at "rv")
  | (with_reducible apply ev_chainU; walk_at "ev"; walk_at "ev"; walk_at "rv"; walk_at "ev"; walk_at "rv")
  | with_reducible exact ev_dnew
  | with_reducible exact ev_disp1 (fun _ => Den.str _)
  | (with_reducible apply et_test; walk_at "ev")
  | (with_reducible apply et_B; walk_at "ev")
  | (with_reducible apply et_not; walk_at "ev")
  | (with_reducible apply ev_not; walk_at "ev")
  | (with_reducible apply ev_sl_str; walk_at "ev"; walk_at "ev"; walk_at "ev"; walk_at "sz")
  | (with_reducible apply eo_some; walk_at "ev")
  | with_reducible exact eo_none)
local macro_rules | `(tactic| walk_at "rv") => `(tactic| first
  | with_reducible exact rv_add_int | (with_reducible apply rv_add_str; walk_at "sz") | (with_reducible apply rv_add_lst; walk_at "sz")
  | with_reducible exact rv_lt_int | with_reducible exact rv_le_int | with_reducible exact rv_gt_int | with_reducible exact rv_ge_int
  | with_reducible exact rvA_eq_int | with_reducible exact rvA_eq_str | with_reducible exact rvA_ne_int | with_reducible exact rvA_ne_str
  | (with_reducible apply rv_mul_int; walk_at "mul")
  | with_reducible exact rv_in_sign | (with_reducible apply rc_len_str; walk_at "sz") | with_reducible exact rc_len_lst | with_reducible exact rc_len_tup
  | with_reducible exact rc_abs | with_reducible exact rc_max2 | with_reducible exact rc_min2
  | with_reducible exact rc_all | with_reducible exact rc_any | with_reducible exact ru_neg
  | (with_reducible apply rc_isiA; with_unfolding_all rfl; decide +kernel)
  | (with_reducible apply rv_ix_lst; with_unfolding_all rfl) | (with_reducible apply rv_ix_tup; with_unfolding_all rfl)
  | (with_reducible apply rv_I; first | walk_at "sd" | (unfold CPow; decide) | (unfold CDiv; first | decide | omega)))
local macro_rules | `(tactic| walk_at "sz") => `(tactic| first | assumption | (rw [sizeLine_eq]; omega) | (rw [sizeLine_eq]; decide) | (simp [sizeLine_eq]; done))
local macro_rules | `(tactic| walk_at "sd") => `(tactic| first | assumption | omega | decide)
local macro_rules | `(tactic| walk_at "mul") => `(tactic| first | exact Or.inl ⟨by omega, by omega⟩ | exact Or.inr ⟨by omega, by omega⟩)
/-! ### signs, words, names -/
def allS : Str := (("abcdefghijklmnopqrstuvwxyz" : Str) ++ ("ABCDEFGHIJKLMNOPQRSTUVWXYZ" : Str)) ++ ("0123456789'-.:^_~" : Str)
def isSignC (c : Nat) : Bool := decide (c ∈ allS.cps.toList)
def isSignL (l : List Nat) : Bool := match l with | [c] => isSignC c | _ => false
def isSign : D → Bool
  | .str s => isSignL s.cps.toList
  | _ => false
/-- plain data, its texts not too long -/
def okA : D → Bool
  | .str s => decide (s.length ≤ 1000000)
  | d => (tyD d).isSome
def f_is_sign : List D → Option D
  | [d] => if okA d then some (.bl (isSign d)) else none
  | _ => none
def hasSigns (d : D) (m : Int) : Bool := match d with
  | .str s => decide (1 ≤ (s.length : Int)) && decide ((s.length : Int) ≤ m) && s.cps.toList.all isSignC
  | _ => false
def f_has_signs : List D → Option D
  | [d, .int m] => if okA d then some (.bl (hasSigns d m)) else none
  | _ => none
def f_is_word : List D → Option D
  | [d] => if okA d then some (.bl (hasSigns d 40)) else none
  | _ => none
def f_is_name : List D → Option D
  | [d] => if okA d then some (.bl (hasSigns d 12)) else none
  | _ => none
section
variable {K : PySem.W.Frag} {vs : List V} {H : Hp} {Q : VK} {E : XK}
def isStrD : D → Bool | .str _ => true | _ => false
/-- isinstance(thing, str), whatever the thing -/
theorem ev_isStr {te : TE} {σ : L2.St} {F : Hp} {d : D} (h : EvD K te σ F d) (ok : okA d = true) : EvD K (tCB (rIsiA K) (tCons te (tCons (tC (.ty "str")) tNil))) σ F (.bl (isStrD d)) := by
  have go : ∀ {t : String} {b : Bool}, tyD d = some t → kitB t "str" = some b → EvD K (tCB (rIsiA K) (tCons te (tCons (tC (.ty "str")) tNil))) σ F (.bl b) := fun h1 h2 => ev_cb (ea_cons h (by walk_at "ev")) (rc_isiA h1 h2)
  cases d with
  | non => exact go (b := false) rfl (by decide +kernel)
  | bl b => exact go (b := false) rfl (by decide +kernel)
  | int b => exact go (b := false) rfl (by decide +kernel)
  | lst b => exact go (b := false) rfl (by decide +kernel)
  | tup b => exact go (b := false) rfl (by decide +kernel)
  | dic b => exact go (b := false) rfl (by decide +kernel)
  | str b => exact go (b := true) rfl (by decide +kernel)
  | obj C b => cases ok
  | ty C => cases ok
  | cls C => cases ok
theorem lenL (z : Str) : z.length = z.cps.toList.length := by simp [Str.length]
theorem rd_is_sign (h : spP K 1 f_is_sign vs H Q E) : t_is_sign K { nx := fun _ H' => Q .non H', rt := Q } (start N_is_sign vs) H := by
  obtain ⟨F, v, x, d, rfl, S, hv, hf, k⟩ := spP1 h
  have E1 : EnvD K F [.d x] (start N_is_sign [v]) := .cons ⟨v, rfl, hv⟩ .nil
  obtain ⟨ok, rfl⟩ := if_some hf
  refine s_ret S ?_ k
  have h0 := ev_isStr (ev_var (i := 0) E1 rfl) ok
  cases x with
  | str z =>
    have hz : z.length ≤ 1000000 := by simpa [okA] using ok
    refine ev_is (ev_andT h0 (ev_and (b := isSign (.str z)) (by walk_at "ev") fun h1 => ?_)) ?_
    · have h1 : z.length = 1 := by have := of_decide_eq_true h1; omega
      obtain ⟨c, hc⟩ : ∃ c, z.cps.toList = [c] := List.length_eq_one_iff.mp (by rw [← lenL]; exact h1)
      have e : z = ⟨#[c]⟩ := str_ext hc
      subst e
      apply ev_is
      · walk_at "ev"
      · rfl
    · have e : ∀ l : List Nat, ((l.length : Int) = 1) ∨ isSignL l = false := by
        intro l
        match l with
        | [] => exact .inr rfl
        | [c] => exact .inl rfl
        | _ :: _ :: _ => exact .inr rfl
      rcases e z.cps.toList with h | h
      · rw [lenL, decide_eq_true h]; rfl
      · have : isSign (.str z) = false := h
        rw [this]; simp
  | non => exact ev_andF h0
  | bl b => exact ev_andF h0
  | int b => exact ev_andF h0
  | lst b => exact ev_andF h0
  | tup b => exact ev_andF h0
  | dic b => exact ev_andF h0
  | obj C b => cases ok
  | ty C => cases ok
  | cls C => cases ok
theorem rd_has_signs (h : spP K 2 f_has_signs vs H Q E) : t_has_signs K (spP K 1 f_is_sign) { nx := fun _ H' => Q .non H', rt := Q } (start N_has_signs vs) H := by
  obtain ⟨F, v, w, x, y, d, rfl, S, hv, hw, hf, k⟩ := spP2 h
  have E1 : EnvD K F [.d x, .d y, .u] (start N_has_signs [v, w]) := .cons ⟨v, rfl, hv⟩ (.cons ⟨w, rfl, hw⟩ (.cons trivial .nil))
  cases y with
  | int m =>
    obtain ⟨ok, rfl⟩ := if_some hf
    refine s_ret S ?_ k
    have h0 := ev_isStr (ev_var (i := 0) E1 rfl) ok
    cases x with
    | str z =>
      have hz : z.length ≤ 1000000 := by simpa [okA] using ok
      refine ev_andT h0 (ev_and (ev_chain (q := decide ((z.length : Int) ≤ m)) (by walk_at "ev") (by walk_at "ev") (by walk_at "rv") (fun _ => by walk_at "ev") fun _ => by walk_at "rv") fun _ => ?_)
      refine ev_is (ev_cb (ea_cons (ev_is (ev_lc (f := fun d => .bl (isSign d)) E1 (ei_str (by walk_at "ev")) ?_ (wipe1 2) fun d F' σ' hd _ E' => ?_) ?_) ea_nil) (rc_all (bs := z.cps.toList.map isSignC))) ?_
      · unfold signs; rw [List.length_map, ← lenL, sizeLine_eq]; omega
      · obtain ⟨c, _, rfl⟩ := List.mem_map.mp hd
        exact ev_call (by walk_at "ev") rfl rfl
      · unfold signs; rw [List.map_map, List.map_map]; rfl
      · rw [List.all_map]; rfl
    | non => exact ev_andF h0
    | bl b => exact ev_andF h0
    | int b => exact ev_andF h0
    | lst b => exact ev_andF h0
    | tup b => exact ev_andF h0
    | dic b => exact ev_andF h0
    | obj C b => cases ok
    | ty C => cases ok
    | cls C => cases ok
  | _ => cases hf
end
end Nm

set_option Elab.async false
set_option linter.all false
set_option maxRecDepth 100000
set_option maxHeartbeats 400000
namespace Nm
open PySem PySem.Spec L2
local macro_rules | `(tactic| walk_at "ev") => `(tactic| first
  | (with_reducible apply ev_var; assumption; with_unfolding_all rfl)
  | (with_reducible apply ev_c; first | with_reducible exact Den.int _ | with_reducible exact Den.str _ | with_reducible exact Den.bl _ | with_reducible exact Den.non | with_reducible exact Den.ty _)
  | with_reducible exact ea_nil
  | (with_reducible apply ea_cons; walk_at "ev"; walk_at "ev")
  | (with_reducible apply ev_op; walk_at "ev"; walk_at "ev"; walk_at "rv")
  | (with_reducible apply ev_cb; walk_at "ev"; walk_at "rv")
  | (with_reducible apply ev_lst; walk_at "ev"; walk_at "sz")
  | (with_reducible apply ev_tup; walk_at "ev"; walk_at "sz")
  | (with_reducible apply ev_un; walk_at "ev"; walk_at "rv")
  | (with_reducible apply ev_chainU; walk_at "ev"; walk_at "ev"; walk_at "rv"; walk_at "ev"; walk_at "rv")
  | with_reducible exact ev_dnew
  | with_reducible exact ev_disp1 (fun _ => Den.str _)
  | (with_reducible apply et_test; walk_at "ev")
  | (with_reducible apply et_B; walk_at "ev")
  | (with_reducible apply et_not; walk_at "ev")
  | (with_reducible apply ev_not; walk_at "ev")
  | (with_reducible apply ev_sl_str; walk_at "ev"; walk_at "ev"; walk_at "ev"; walk_at "sz")
  | (with_reducible apply eo_some; walk_at "ev")
  | with_reducible exact eo_none)
local macro_rules | `(tactic| walk_at "rv") => `(tactic| first
  | with_reducible exact rv_add_int | (with_reducible apply rv_add_str; walk_at "sz") | (with_reducible apply rv_add_lst; walk_at "sz")
  | with_reducible exact rv_lt_int | with_reducible exact rv_le_int | with_reducible exact rv_gt_int | with_reducible exact rv_ge_int
  | with_reducible exact rvA_eq_int | with_reducible exact rvA_eq_str | with_reducible exact rvA_ne_int | with_reducible exact rvA_ne_str
  | (with_reducible apply rv_mul_int; walk_at "mul")
  | with_reducible exact rv_in_sign | (with_reducible apply rc_len_str; walk_at "sz") | with_reducible exact rc_len_lst | with_reducible exact rc_len_tup
  | with_reducible exact rc_abs | with_reducible exact rc_max2 | with_reducible exact rc_min2
  | with_reducible exact rc_all | with_reducible exact rc_any | with_reducible exact ru_neg
  | (with_reducible apply rc_isiA; with_unfolding_all rfl; decide +kernel)
  | (with_reducible apply rv_ix_lst; with_unfolding_all rfl) | (with_reducible apply rv_ix_tup; with_unfolding_all rfl)
  | (with_reducible apply rv_I; first | walk_at "sd" | (unfold CPow; decide) | (unfold CDiv; first | decide | omega)))
local macro_rules | `(tactic| walk_at "sz") => `(tactic| first | assumption | (rw [sizeLine_eq]; omega) | (rw [sizeLine_eq]; decide) | (simp [sizeLine_eq]; done))
local macro_rules | `(tactic| walk_at "sd") => `(tactic| first | assumption | omega | decide)
local macro_rules | `(tactic| walk_at "mul") => `(tactic| first | exact Or.inl ⟨by omega, by omega⟩ | exact Or.inr ⟨by omega, by omega⟩)
/-! ### the bag -/
section
variable {K : PySem.W.Frag} {vs : List V} {H : Hp} {Q : VK} {E : XK}
theorem mix_small {y z : Int} {m : Nat} (hy : 0 ≤ y) (hy2 : y < 2305843009213693951) (hz : 0 ≤ z) (hz2 : z ≤ 1000000000) (c : Int) (hc : 0 ≤ c) (hc2 : c ≤ 1000000000) : (y + c * z).natAbs < 2 ^ 64 := by
  have h1 : 0 ≤ c * z := Int.mul_nonneg hc hz
  have h2 : c * z ≤ 1000000000 * 1000000000 := Int.mul_le_mul hc2 hz2 hz (by decide)
  omega
theorem rd_law_take (h : spTake K vs H Q E) : t_law_take K { nx := fun _ H' => Q .non H', rt := Q } (start N_law_take vs) H := by
  obtain ⟨F, b, n, ws, ds, rfl, S, ⟨x, y, z, o, hx, hy, hy2, hz, hz2⟩, l, e, pre, k⟩ := h
  match ds, l, e, pre, k with
  | [.int m], .cons (.int _) .nil, _, ⟨m0, m1⟩, k =>
  refine ⟨.ref b, rfl, .inl (.inl ⟨b, _, 0, _, rfl, rfl, SqL.of o.h, rfl, .inl ⟨x, 0, rfl, rfl, _, rfl, ?_⟩⟩)⟩
  refine ite2 (fun hp => ?_) (fun hp => ?_)
  · have hp := of_decide_eq_true hp
    refine ⟨.ref b, rfl, .inl (.inl ⟨b, _, 0, _, rfl, rfl, SqL.of o.h, rfl, .int m, rfl, x, m, rfl, rfl, m0, ?_⟩)⟩
    refine ⟨.ref b, rfl, .inl (.inl ⟨b, _, 0, _, rfl, rfl, SqL.of o.h, rfl, .int m, rfl, x, m, rfl, rfl, ⟨m0, m1⟩, ?_⟩)⟩
    refine ⟨.ref b, rfl, b, _, 0, 0, rfl, rfl, o.h, rfl, .int (x % m), rfl, ?_⟩
    refine k _ (.int (x % m)) F _ (o.set S) ⟨x / m, y, z, ⟨o.f, upd_same⟩, Int.ediv_nonneg hx (by omega), hy, hy2, hz, by omega⟩ ⟨Int.emod_nonneg _ (by omega), Int.emod_lt_of_pos _ m0⟩ (.int _)
  · -- bag[2] = bag[2] + 1
    refine ⟨.ref b, rfl, .inl (.inl ⟨b, _, 2, _, rfl, rfl, SqL.of o.h, rfl, .inl ⟨z, 1, rfl, rfl, ?_⟩⟩)⟩
    refine ⟨.ref b, rfl, b, _, 2, 2, rfl, rfl, o.h, rfl, ?_⟩
    have o2 : Own F (upd H b (.lst [.int x, .int y, .int (z + 1)])) b (.lst [.int x, .int y, .int (z + 1)]) := ⟨o.f, upd_same⟩
    -- the first mixing
    refine ⟨.ref b, rfl, .inl (.inl ⟨b, _, 1, _, rfl, rfl, SqL.of o2.h, rfl, .ref b, rfl, .inl (.inl ⟨b, _, 2, _, rfl, rfl, SqL.of o2.h, rfl, .inl ⟨_, z + 1, rfl, rfl, .inl ⟨by decide, by decide⟩, .inl ⟨_, _, rfl, rfl, _, _, rfl, rfl, ⟨by decide, by decide, mix_small (m := 0) hy hy2 (by omega) (by omega) _ (by decide) (by decide)⟩, _, _, rfl, rfl, (show (0 : Int) < 2305843009213693921 by decide), ?_⟩⟩⟩)⟩)⟩
    have m3 := Int.emod_nonneg ((y + 5000011 * (z + 1)) ^ (3 : Int).toNat) (show (2305843009213693921 : Int) ≠ 0 by decide)
    have m4 := Int.emod_lt_of_pos ((y + 5000011 * (z + 1)) ^ (3 : Int).toNat) (show (0 : Int) < 2305843009213693921 by decide)
    -- the second one
    refine ⟨_, rfl, .ref b, rfl, .inl (.inl ⟨b, _, 2, _, rfl, rfl, SqL.of o2.h, rfl, .inl ⟨_, z + 1, rfl, rfl, .inl ⟨by decide, by decide⟩, .inl ⟨_, _, rfl, rfl, _, _, rfl, rfl, ⟨by decide, by decide, mix_small (m := 0) m3 (by omega) (by omega) (by omega) _ (by decide) (by decide)⟩, _, _, rfl, rfl, (show (0 : Int) < 2305843009213693951 by decide), ?_⟩⟩⟩)⟩
    refine ⟨_, rfl, _, _, rfl, rfl, ⟨by decide, by decide⟩, .int m, rfl, _, m, rfl, rfl, m0, ?_⟩
    refine k _ (.int _) F _ (o.set S) ⟨x, y, z + 1, o2, hx, hy, hy2, by omega, by omega⟩ ⟨Int.emod_nonneg _ (by omega), Int.emod_lt_of_pos _ m0⟩ (.int _)
end
section
variable {K : PySem.W.Frag} {vs : List V} {H : Hp} {Q : VK} {E : XK}
theorem rd_law_bag (h : spBag K vs H Q E) : t_law_bag K { nx := fun _ H' => Q .non H', rt := Q } (start N_law_bag vs) H := by
  obtain ⟨F, a, ns, i, rfl, S, hs, h0, h1, k⟩ := h
  have hs' := same_l S hs
  -- whatever the cell is
  have rest : ∀ c : Int, tSeq (tAsg (tIf (tTest (tOp (rGeA K) (tCB rAbs (tCons (tVar 2) tNil)) (tOp (rI CPow fun i j => V.int (i ^ j.toNat)) (tC (.int 10)) (tC (.int 18))))) (tCB rAbs (tCons (tVar 2) tNil)) (tC (.int 0))) (gName 3))
      (tRet (tLst (tCons (tVar 3) (tCons (tOp (rI (fun _ j => 0 < j) fun i j => V.int (i % j)) (tOp (rMulA K) (tOp (rAddA K) (tOp (rAddA K) (tOp (rI (fun _ j => 0 < j) fun i j => V.int (i % j)) (tVar 2) (tC (.int 2305843009213693951))) (tOp (rMulA K) (tC (.int 6211)) (tVar 1))) (tC (.int 17))) (tC (.int 92821993))) (tC (.int 2305843009213693951))) (tCons (tC (.int 0)) tNil))))) { nx := fun _ H' => Q .non H', rt := Q } [some (.ref a), some (.int i), some (.int c), none] H := by
    intro c
    have fin : ∀ x : Int, 0 ≤ x → tRet (tLst (tCons (tVar 3) (tCons (tOp (rI (fun _ j => 0 < j) fun i j => V.int (i % j)) (tOp (rMulA K) (tOp (rAddA K) (tOp (rAddA K) (tOp (rI (fun _ j => 0 < j) fun i j => V.int (i % j)) (tVar 2) (tC (.int 2305843009213693951))) (tOp (rMulA K) (tC (.int 6211)) (tVar 1))) (tC (.int 17))) (tC (.int 92821993))) (tC (.int 2305843009213693951))) (tCons (tC (.int 0)) tNil)))) { nx := fun _ H' => Q .non H', rt := Q } [some (.ref a), some (.int i), some (.int c), some (.int x)] H := by
      intro x hx
      have c0 := Int.emod_nonneg c (show (2305843009213693951 : Int) ≠ 0 by decide)
      have c1 := Int.emod_lt_of_pos c (show (0 : Int) < 2305843009213693951 by decide)
      refine ⟨_, rfl, _, rfl, _, _, rfl, rfl, (show (0 : Int) < 2305843009213693951 by decide), _, rfl, .inl ⟨_, i, rfl, rfl, .inl ⟨by decide, by decide⟩, .inl ⟨_, _, rfl, rfl, .inl ⟨_, _, rfl, rfl, .inl ⟨_, _, rfl, rfl, .inl ⟨by omega, by omega⟩, _, _, rfl, rfl, (show (0 : Int) < 2305843009213693951 by decide), ?_⟩⟩⟩⟩⟩
      refine ⟨by show 3 ≤ sizeLine; decide, fun p hp => k p _ hp (Ext.newM S hp) ⟨_, _, 0, ⟨S.free hp, upd_same⟩, hx, Int.emod_nonneg _ (by decide), Int.emod_lt_of_pos _ (by decide), Int.le_refl _, by decide⟩⟩
    refine ⟨_, rfl, c, rfl, _, _, rfl, rfl, ⟨by decide, by decide, by decide⟩, .inl ⟨_, _, rfl, rfl, _, rfl, ?_⟩⟩
    refine ite2 (fun _ => ?_) (fun _ => ?_)
    · refine ⟨_, rfl, c, rfl, fin _ ?_⟩
      split <;> omega
    · exact fin 0 (Int.le_refl _)
  refine ⟨.int i, rfl, .ref a, rfl, .inl ⟨a, _, rfl, .inl hs', .inl ⟨i, _, rfl, rfl, _, rfl, ?_⟩⟩⟩
  refine ite2 (fun hp => ?_) (fun hp => ?_)
  · have hp := of_decide_eq_true hp
    rw [List.length_map] at hp
    obtain ⟨j, rfl⟩ : ∃ j : Nat, i = (j : Int) := ⟨i.toNat, by omega⟩
    have hj : j < ns.length := by omega
    refine ⟨.ref a, rfl, .int j, rfl, .inl (.inl ⟨a, _, _, .int ns[j], rfl, rfl, hs', ?_, rest ns[j]⟩)⟩
    exact atI_nat (by rw [List.getElem?_map, List.getElem?_eq_getElem hj]; rfl)
  · exact rest 0
end
end Nm

set_option Elab.async false
set_option linter.all false
set_option maxRecDepth 100000
set_option maxHeartbeats 400000
namespace Nm
open PySem PySem.Spec L2
local macro_rules | `(tactic| walk_at "ev") => `(tactic| first
  | (with_reducible apply ev_var; assumption; with_unfolding_all rfl)
  | (with_reducible apply ev_c; first | with_reducible exact Den.int _ | with_reducible exact Den.str _ | with_reducible exact Den.bl _ | with_reducible exact Den.non | with_reducible exact Den.ty _)
  | with_reducible exact ea_nil
  | (with_reducible apply ea_cons; walk_at "ev"; walk_at "ev")
  | (with_reducible apply ev_op; walk_at "ev"; walk_at "ev"; walk_at "rv")
  | (with_reducible apply ev_cb; walk_at "ev"; walk_at "rv")
  | (with_reducible apply ev_lst; walk_at "ev"; walk_at "sz")
  | (with_reducible apply ev_tup; walk_at "ev"; walk_at "sz")
  | (with_reducible apply ev_un; walk_at "ev"; walk_at "rv")
  | (with_reducible apply ev_chainU; walk_at "ev"; walk_at "ev"; walk_at "rv"; walk_at "ev"; walk_at "rv")
  | with_reducible exact ev_dnew
  | with_reducible exact ev_disp1 (fun _ => Den.str _)
  | (with_reducible apply et_test; walk_at "ev")
  | (with_reducible apply et_B; walk_at "ev")
  | (with_reducible apply et_not; walk_at "ev")
  | (with_reducible apply ev_not; walk_at "ev")
  | (with_reducible apply ev_sl_str; walk_at "ev"; walk_at "ev"; walk_at "ev"; walk_at "sz")
  | (with_reducible apply eo_some; walk_at "ev")
  | with_reducible exact eo_none)
local macro_rules | `(tactic| walk_at "rv") => `(tactic| first
  | with_reducible exact rv_add_int | (with_reducible apply rv_add_str; walk_at "sz") | (with_reducible apply rv_add_lst; walk_at "sz")
  | with_reducible exact rv_lt_int | with_reducible exact rv_le_int | with_reducible exact rv_gt_int | with_reducible exact rv_ge_int
  | with_reducible exact rvA_eq_int | with_reducible exact rvA_eq_str | with_reducible exact rvA_ne_int | with_reducible exact rvA_ne_str
  | (with_reducible apply rv_mul_int; walk_at "mul")
  | with_reducible exact rv_in_sign | (with_reducible apply rc_len_str; walk_at "sz") | with_reducible exact rc_len_lst | with_reducible exact rc_len_tup
  | with_reducible exact rc_abs | with_reducible exact rc_max2 | with_reducible exact rc_min2
  | with_reducible exact rc_all | with_reducible exact rc_any | with_reducible exact ru_neg
  | (with_reducible apply rc_isiA; with_unfolding_all rfl; decide +kernel)
  | (with_reducible apply rv_ix_lst; with_unfolding_all rfl) | (with_reducible apply rv_ix_tup; with_unfolding_all rfl)
  | (with_reducible apply rv_I; first | walk_at "sd" | (unfold CPow; decide) | (unfold CDiv; first | decide | omega)))
local macro_rules | `(tactic| walk_at "sz") => `(tactic| first | assumption | (rw [sizeLine_eq]; omega) | (rw [sizeLine_eq]; decide) | (simp [sizeLine_eq]; done))
local macro_rules | `(tactic| walk_at "sd") => `(tactic| first | assumption | omega | decide)
local macro_rules | `(tactic| walk_at "mul") => `(tactic| first | exact Or.inl ⟨by omega, by omega⟩ | exact Or.inr ⟨by omega, by omega⟩)
/-! ### tables: readings -/
def isCls : D → Bool
  | .int i => [1, 2, 3].any (· == i)
  | _ => false
def R_is_class (ds : List D) (d : D) : Prop := ∃ x, ds = [x] ∧ (tyD x).isSome = true ∧ d = .bl (isCls x)
def R_look_folds (ds : List D) (d : D) : Prop := ∃ fo ma, okTab isSignC fo ma ∧ ds = [foD fo] ∧ d = .non
def R_look_marks (ds : List D) (d : D) : Prop := ∃ fo ma, okTab isSignC fo ma ∧ ds = [maD ma, foD fo] ∧ d = .non
def R_in_order (ds : List D) (d : D) : Prop := ∃ ma run, (∀ c ∈ run, (lk ma c).isSome = true) ∧ run.length ≤ 10000 ∧ ds = [.lst (chs run), maD ma] ∧ d = .lst (chs (inOrd ma run))
def R_ordered_runs (ds : List D) (d : D) : Prop := ∃ ma l, okMa ma ∧ l.length ≤ 10000 ∧ ds = [txt l, maD ma] ∧ d = txt (runs ma [] l)
def R_key_of (ds : List D) (d : D) : Prop := ∃ fo ma l, okTab isSignC fo ma ∧ (∀ c ∈ l, isSignC c = true) ∧ l.length ≤ 3000 ∧ ds = [ruleD fo ma, txt l] ∧ d = txt (key fo ma l)
def R_init (ds : List D) (gs : List (Str × D)) : Prop := ∃ fo ma, okTab isSignC fo ma ∧ ds = [foD fo, maD ma] ∧ gs = ([("rule", ruleD fo ma)] : List (Str × D))
section
variable {K : PySem.W.Frag} {vs : List V} {H : Hp} {Q : VK} {E : XK}
theorem rd_is_class {ad : Addr} (hs : ∀ H, SqT K H ad [.int 1, .int 2, .int 3]) (h : spR K 1 R_is_class vs H Q E) : t_is_class K ad { nx := fun _ H' => Q .non H', rt := Q } (start N_is_class vs) H := by
  obtain ⟨F, v, x, d, rfl, S, hv, ⟨_, e, ok, rfl⟩, k⟩ := spR1 h
  cases e
  have E1 : EnvD K F [.d x] (start N_is_class [v]) := .cons ⟨v, rfl, hv⟩ .nil
  refine s_ret S ?_ k
  have go : ∀ {t : String} {b : Bool} {n : String}, tyD x = some t → kitB t n = some b → EvD K (tCB (rIsiA K) (tCons (tVar 0) (tCons (tC (.ty n)) tNil))) (start N_is_class [v]) F (.bl b) := fun h1 h2 => ev_cb (ea_cons (ev_var (i := 0) E1 rfl) (by walk_at "ev")) (rc_isiA h1 h2)
  cases x with
  | int i =>
    refine ev_andT (go (b := true) rfl (by decide +kernel)) (ev_andT (ev_not (go (b := false) rfl (by decide +kernel))) ?_)
    exact ev_op (ev_var E1 rfl) (ev_tupC hs (DenL.ints [1, 2, 3])) (rv_in_ints (ns := [1, 2, 3]))
  | bl b => exact ev_andT (go (b := true) rfl (by decide +kernel)) (ev_andF (ev_not (go (b := true) rfl (by decide +kernel))))
  | non => exact ev_andF (go (b := false) rfl (by decide +kernel))
  | str b => exact ev_andF (go (b := false) rfl (by decide +kernel))
  | lst b => exact ev_andF (go (b := false) rfl (by decide +kernel))
  | tup b => exact ev_andF (go (b := false) rfl (by decide +kernel))
  | dic b => exact ev_andF (go (b := false) rfl (by decide +kernel))
  | obj C b => cases ok
  | ty C => cases ok
  | cls C => cases ok
theorem f_sign1 {c : Nat} (h : isSignC c = true) : f_is_sign [.str ⟨#[c]⟩] = some (.bl true) := by
  have e : f_is_sign [.str ⟨#[c]⟩] = some (.bl (isSignC c)) := rfl
  rw [e, h]
theorem hasSigns_txt {w : List Nat} {m : Nat} (h1 : 1 ≤ w.length) (h2 : w.length ≤ m) (h : ∀ c ∈ w, isSignC c = true) : hasSigns (txt w) m = true := by
  unfold hasSigns txt
  dsimp only
  rw [txt_len, decide_eq_true (by omega), decide_eq_true (by omega)]
  simp only [Bool.and_self, Bool.true_and, List.all_eq_true]
  exact h
theorem okA_txt {w : List Nat} (h : w.length ≤ 1000000) : okA (txt w) = true := by
  unfold okA txt
  dsimp only
  rw [txt_len]; exact decide_eq_true h
theorem f_has1 {w : List Nat} {m : Nat} (h0 : w.length ≤ 1000000) (h1 : 1 ≤ w.length) (h2 : w.length ≤ m) (h : ∀ c ∈ w, isSignC c = true) : f_has_signs [txt w, .int m] = some (.bl true) := by
  unfold f_has_signs
  dsimp only
  rw [okA_txt h0, hasSigns_txt h1 h2 h]
  rfl
theorem chS_mem {x : D} {ks : List Str} (h : x ∈ (sortS ks).map D.str) : ∃ k ∈ ks, x = .str k := by
  obtain ⟨k, hk, rfl⟩ := List.mem_map.mp h
  exact ⟨k, (sortS_perm ks).subset hk, rfl⟩
theorem keysF (fo : Fo) : (foE fo).map (·.1) = (fo.map fun p => (⟨#[p.1]⟩ : Str)).map Sum.inr := by unfold foE; rw [List.map_map, List.map_map]; rfl
theorem keysM (ma : Ma) : (maE ma).map (·.1) = (ma.map fun p => (⟨#[p.1]⟩ : Str)).map Sum.inr := by unfold maE; rw [List.map_map, List.map_map]; rfl
theorem rd_look_folds (h : spR K 1 R_look_folds vs H Q E) : t_look_folds K (spP K 2 f_has_signs) (spP K 1 f_is_sign) { nx := fun _ H' => Q .non H', rt := Q } (start N_look_folds vs) H := by
  obtain ⟨F, v, x, d, rfl, S, hv, ⟨fo, ma, ok, e, rfl⟩, k⟩ := spR1 h
  cases e
  have E1 : EnvD K F [.d (foD fo), .u, .u, .u] (start N_look_folds [v]) := .cons ⟨v, rfl, hv⟩ (.cons trivial (.cons trivial (.cons trivial .nil)))
  refine s_look (fun d r => r.set 1 (.d d)) (fun r => ∃ a b c, r = [.d (foD fo), a, b, c]) S E1 (ei_lst (ev_cb (by walk_at "ev") (rc_sorted_dic (keysF fo) (by rw [List.length_map]; have := ok.fl; omega)))) (fun d _ => tg_name) ⟨_, _, _, rfl⟩ ?_ fun F' H' r' σ' x _ _ => k _ F' H' x .non
  rintro d F2 H2 r' σ' N hd s2 S2 ⟨a, b, c, rfl⟩ E2 n
  obtain ⟨ks, hk, rfl⟩ := chS_mem hd
  obtain ⟨p, hp, rfl⟩ := List.mem_map.mp hk
  have hw := ok.fw p hp
  have hl := lk_self ok.fn hp
  refine q_asg (d := txt p.2) (j := 2) S2 E2 (ev_op (ev_var (i := 0) E2 rfl) (ev_var (i := 1) E2 rfl) (rv_ix_dic (k := .inr ⟨#[p.1]⟩) rfl (by rw [valD_fo, hl]; rfl))) fun F3 H3 σ3 x3 E3 => ?_
  refine q_if (K := K) (b := false) x3.s (et_is (et_not (et_B (ev_call (ds := [.str ⟨#[p.1]⟩]) (d := .bl true) (by walk_at "ev") (f_sign1 (ok.fs p hp)) rfl))) rfl) (fun z => nomatch z) fun _ F4 H4 x4 => ?_
  have E4 := E3.up x4.f
  refine s_if (K := K) (b := false) x4.s (et_is (et_or (a := false) (b := false) (et_is (et_not (et_B (ev_call (ds := [txt p.2, .int 3]) (d := .bl true) (ea_cons (ev_var (i := 2) E4 rfl) (ea_cons (ev_c (.int 3)) ea_nil)) ?_ rfl))) rfl) fun _ => et_B ?_) rfl) (fun z => nomatch z) fun _ F5 H5 x5 => n F5 H5 _ _ ((x3.tr x4).tr x5) (E4.up x5.f) ⟨_, _, _, rfl⟩
  · exact f_has1 (m := 3) (by omega) hw.1 hw.2.1 fun c hc => (hw.2.2 c hc).1
  · refine ev_is (ev_cb (ea_cons (ev_is (ev_lc (f := fun _ => .bl false) E4 (ei_str (z := ⟨p.2.toArray⟩) (ev_var E4 rfl)) ?_ (wipe1 3) fun d F' σ' hd _ E' => ?_) ?_) ea_nil) (rc_any (bs := p.2.map fun _ => false))) ?_
    · unfold signs; rw [List.length_map, sizeLine_eq]; show p.2.length < _; omega
    · obtain ⟨c, hc, rfl⟩ := List.mem_map.mp hd
      refine ev_is (ev_op (ev_var E' rfl) (ev_var E' rfl) (rv_in_dic (es := foE fo) (k := .inr ⟨#[c]⟩) rfl)) ?_
      rw [isSome_fo, (hw.2.2 c hc).2]; rfl
    · unfold signs; rw [List.map_map, List.map_map]; rfl
    · rw [List.any_map]
      have : p.2.any (id ∘ fun _ => false) = false := List.any_eq_false.mpr fun _ _ h => nomatch h
      rw [this]
theorem rd_look_marks (h : spR K 2 R_look_marks vs H Q E) : t_look_marks K (spR K 1 R_is_class) (spP K 1 f_is_sign) { nx := fun _ H' => Q .non H', rt := Q } (start N_look_marks vs) H := by
  obtain ⟨F, v, w, x, y, d, rfl, S, hv, hw, ⟨fo, ma, ok, e, rfl⟩, k⟩ := spR2 h
  cases e
  have E1 : EnvD K F [.d (maD ma), .d (foD fo), .u] (start N_look_marks [v, w]) := .cons ⟨v, rfl, hv⟩ (.cons ⟨w, rfl, hw⟩ (.cons trivial .nil))
  refine s_look (fun d r => r.set 2 (.d d)) (fun r => ∃ a, r = [.d (maD ma), .d (foD fo), a]) S E1 (ei_lst (ev_cb (by walk_at "ev") (rc_sorted_dic (keysM ma) (by rw [List.length_map]; have := ok.ml; omega)))) (fun d _ => tg_name) ⟨_, rfl⟩ ?_ fun F' H' r' σ' x _ _ => k _ F' H' x .non
  rintro d F2 H2 r' σ' N hd s2 S2 ⟨a, rfl⟩ E2 n
  obtain ⟨ks, hk, rfl⟩ := chS_mem hd
  obtain ⟨p, hp, rfl⟩ := List.mem_map.mp hk
  have hm := ok.ms p hp
  have hl := lk_self ok.mn hp
  refine q_if (K := K) (b := false) S2 (et_is (et_not (et_B (ev_call (ds := [.str ⟨#[p.1]⟩]) (d := .bl true) (by walk_at "ev") (f_sign1 hm.1) rfl))) rfl) (fun z => nomatch z) fun _ F4 H4 x4 => ?_
  have E4 := E2.up x4.f
  refine s_if (K := K) (b := false) x4.s (et_is (et_or (a := false) (b := false) (et_is (et_not (et_B (ev_callR (ds := [.int (p.2 : Nat)]) (d := .bl true) (ea_cons (ev_op (ev_var (i := 0) E4 rfl) (ev_var (i := 2) E4 rfl) (rv_ix_dic (k := .inr ⟨#[p.1]⟩) rfl (by rw [valD_ma, hl]; rfl))) ea_nil) ?_ rfl))) rfl) fun _ => et_test (ev_is (ev_op (ev_var E4 rfl) (ev_var E4 rfl) (rv_in_dic (es := foE fo) (k := .inr ⟨#[p.1]⟩) rfl)) (by rw [isSome_fo, hm.2.2]; rfl))) rfl) (fun z => nomatch z) fun _ F5 H5 x5 => n F5 H5 _ _ (x4.tr x5) (E4.up x5.f) ⟨_, rfl⟩
  refine ⟨_, rfl, rfl, ?_⟩
  rcases hm.2.1 with e | e | e <;> rw [e] <;> rfl
theorem ofCls_dec (ma : Ma) (n c : Nat) (m : Nat) (h : lk ma c = some m) : decide ((m : Int) = (n : Int)) = ofCls ma n c := by
  unfold ofCls
  rw [h]
  by_cases e : m = n
  · subst e; simp
  · have : ¬ ((m : Int) = (n : Int)) := by omega
    simp [e, this]
end
section
variable {K : PySem.W.Frag} {vs : List V} {H F : Hp} {Q : VK} {E : XK} {σ : L2.St} {ta tb : TE}
theorem rd_init {C : Addr} (c : Cls K C) (na : NoAttr K C "rule") (h : spIR K C 2 R_init vs H Q E) : t_Table___init K (spR K 2 R_look_marks) (spR K 1 R_look_folds) { nx := fun _ H' => Q .non H', rt := Q } (start N_Table___init vs) H := by
  obtain ⟨F, x, dx, ws, ds, gs, rfl, S, hx, fx, l, hn, ⟨fo, ma, ok, rfl, rfl⟩, k⟩ := h
  obtain ⟨v, w, rfl, hv, hw⟩ : ∃ v w, ws = [v, w] ∧ Den K F v (foD fo) ∧ Den K F w (maD ma) := by
    cases l with
    | cons a t => cases t with
      | cons b t => cases t; exact ⟨_, _, rfl, a, b⟩
  have E1 : EnvD K F [.v (.ref x), .d (foD fo), .d (maD ma), .u, .u] (start N_Table___init [.ref x, v, w]) := .cons rfl (.cons ⟨v, rfl, hv⟩ (.cons ⟨w, rfl, hw⟩ (.cons trivial (.cons trivial .nil))))
  refine q_drop S (ev_callR (ds := [foD fo]) (ea_cons (ev_var E1 rfl) ea_nil) ⟨fo, ma, ok, rfl, rfl⟩ rfl) fun F1 H1 x1 => ?_
  refine q_drop x1.s (ev_callR (ds := [maD ma, foD fo]) (ea_cons (ev_var (E1.up x1.f) rfl) (ea_cons (ev_var (E1.up x1.f) rfl) ea_nil)) ⟨fo, ma, ok, rfl, rfl⟩ rfl) fun F2 H2 x2 => ?_
  have E2 := E1.up (x1.f.trans x2.f)
  refine q_look (items := [.tup [foD fo, .int 40], .tup [maD ma, .int 8]]) (fun d r => match d with | .tup [a, b] => (r.set 3 (.d a)).set 4 (.d b) | _ => r) (fun r => ∃ a b, r = [.v (.ref x), .d (foD fo), .d (maD ma), a, b]) x2.s E2 (ei_tup (ev_tup (ea_cons (ev_tup (ea_cons (ev_var E2 rfl) (ea_cons (ev_c (.int 40)) ea_nil)) sz2) (ea_cons (ev_tup (ea_cons (ev_var E2 rfl) (ea_cons (ev_c (.int 8)) ea_nil)) sz2) ea_nil)) sz2)) ?_ ⟨_, _, rfl⟩ ?_ ?_
  · intro d hd
    simp only [List.mem_cons, List.not_mem_nil, or_false] at hd
    rcases hd with rfl | rfl
    · exact tg_two
    · exact tg_two
  · rintro d F3 H3 r' σ' N hd s3 S3 ⟨a, b, rfl⟩ E3 n
    simp only [List.mem_cons, List.not_mem_nil, or_false] at hd
    rcases hd with rfl | rfl
    · refine s_if (K := K) (b := false) S3 (et_test (ev_is (ev_op (ev_cb (ea_cons (ev_var (i := 3) E3 rfl) ea_nil) (rc_len_dic (es := foE fo))) (ev_var (i := 4) E3 rfl) rv_gt_int) ?_)) (fun z => nomatch z) fun _ F4 H4 x4 => n F4 H4 _ _ x4 (E3.up x4.f) ⟨_, _, rfl⟩
      have := ok.fl
      have e : (foE fo).length = fo.length := by unfold foE; rw [List.length_map]
      rw [e, decide_eq_false (by omega)]
    · refine s_if (K := K) (b := false) S3 (et_test (ev_is (ev_op (ev_cb (ea_cons (ev_var (i := 3) E3 rfl) ea_nil) (rc_len_dic (es := maE ma))) (ev_var (i := 4) E3 rfl) rv_gt_int) ?_)) (fun z => nomatch z) fun _ F4 H4 x4 => n F4 H4 _ _ x4 (E3.up x4.f) ⟨_, _, rfl⟩
      have := ok.ml
      have e : (maE ma).length = ma.length := by unfold maE; rw [List.length_map]
      rw [e, decide_eq_false (by omega)]
  · rintro F3 H3 r' σ' x3 E3 ⟨a, b, rfl⟩
    have x13 := (x1.tr x2).tr x3
    refine (ev_tup (as := [foD fo, maD ma]) (ea_cons (ev_dict (es := foE fo) (ea_cons (ev_var (i := 1) E3 rfl) ea_nil)) (ea_cons (ev_dict (es := maE ma) (ea_cons (ev_var (i := 2) E3 rfl) ea_nil)) ea_nil)) sz2) H3 x3.s _ fun y F4 H4 x4 dy => ?_
    obtain ⟨o, h1, h2⟩ := E3.get (i := 0) rfl
    have x14 := x13.tr x4
    have hx4 : H4 x = some (.ins C dx []) := x14.same _ _ hx
    have fx4 : F4 x = none := x14.n x fx (by rw [hx]; simp)
    refine ⟨.ref x, by rw [h1]; exact congrArg some h2, x, C, dx, [], rfl, hx4, c, na, by decide, ?_⟩
    have w : Own F4 H4 x (.ins C dx []) := ⟨fx4, hx4⟩
    exact k _ F4 _ (x14.tr (w.set x14.s)) fx4 upd_same (.cons dy .nil)
end
end Nm

set_option Elab.async false
set_option linter.all false
set_option maxRecDepth 100000
set_option maxHeartbeats 400000
namespace Nm
open PySem PySem.Spec L2
local macro_rules | `(tactic| walk_at "ev") => `(tactic| first
  | (with_reducible apply ev_var; assumption; with_unfolding_all rfl)
  | (with_reducible apply ev_c; first | with_reducible exact Den.int _ | with_reducible exact Den.str _ | with_reducible exact Den.bl _ | with_reducible exact Den.non | with_reducible exact Den.ty _)
  | with_reducible exact ea_nil
  | (with_reducible apply ea_cons; walk_at "ev"; walk_at "ev")
  | (with_reducible apply ev_op; walk_at "ev"; walk_at "ev"; walk_at "rv")
  | (with_reducible apply ev_cb; walk_at "ev"; walk_at "rv")
  | (with_reducible apply ev_lst; walk_at "ev"; walk_at "sz")
  | (with_reducible apply ev_tup; walk_at "ev"; walk_at "sz")
  | (with_reducible apply ev_un; walk_at "ev"; walk_at "rv")
  | (with_reducible apply ev_chainU; walk_at "ev"; walk_at "ev"; walk_at "rv"; walk_at "ev"; walk_at "rv")
  | with_reducible exact ev_dnew
  | with_reducible exact ev_disp1 (fun _ => Den.str _)
  | (with_reducible apply et_test; walk_at "ev")
  | (with_reducible apply et_B; walk_at "ev")
  | (with_reducible apply et_not; walk_at "ev")
  | (with_reducible apply ev_not; walk_at "ev")
  | (with_reducible apply ev_sl_str; walk_at "ev"; walk_at "ev"; walk_at "ev"; walk_at "sz")
  | (with_reducible apply eo_some; walk_at "ev")
  | with_reducible exact eo_none)
local macro_rules | `(tactic| walk_at "rv") => `(tactic| first
  | with_reducible exact rv_add_int | (with_reducible apply rv_add_str; walk_at "sz") | (with_reducible apply rv_add_lst; walk_at "sz")
  | with_reducible exact rv_lt_int | with_reducible exact rv_le_int | with_reducible exact rv_gt_int | with_reducible exact rv_ge_int
  | with_reducible exact rvA_eq_int | with_reducible exact rvA_eq_str | with_reducible exact rvA_ne_int | with_reducible exact rvA_ne_str
  | (with_reducible apply rv_mul_int; walk_at "mul")
  | with_reducible exact rv_in_sign | (with_reducible apply rc_len_str; walk_at "sz") | with_reducible exact rc_len_lst | with_reducible exact rc_len_tup
  | with_reducible exact rc_abs | with_reducible exact rc_max2 | with_reducible exact rc_min2
  | with_reducible exact rc_all | with_reducible exact rc_any | with_reducible exact ru_neg
  | (with_reducible apply rc_isiA; with_unfolding_all rfl; decide +kernel)
  | (with_reducible apply rv_ix_lst; with_unfolding_all rfl) | (with_reducible apply rv_ix_tup; with_unfolding_all rfl)
  | (with_reducible apply rv_I; first | walk_at "sd" | (unfold CPow; decide) | (unfold CDiv; first | decide | omega)))
local macro_rules | `(tactic| walk_at "sz") => `(tactic| first | assumption | (rw [sizeLine_eq]; omega) | (rw [sizeLine_eq]; decide) | (simp [sizeLine_eq]; done))
local macro_rules | `(tactic| walk_at "sd") => `(tactic| first | assumption | omega | decide)
local macro_rules | `(tactic| walk_at "mul") => `(tactic| first | exact Or.inl ⟨by omega, by omega⟩ | exact Or.inr ⟨by omega, by omega⟩)
/-! ### runs, keys -/
section
variable {K : PySem.W.Frag} {vs : List V} {H : Hp} {Q : VK} {E : XK}
theorem rd_in_order {ad : Addr} (hs : ∀ H, SqT K H ad [.int 1, .int 2, .int 3]) (h : spR K 2 R_in_order vs H Q E) : t_in_order K ad { nx := fun _ H' => Q .non H', rt := Q } (start N_in_order vs) H := by
  obtain ⟨F, v, w, x, y, d, rfl, S, hv, hw, ⟨ma, run, hr, hz, e, rfl⟩, k⟩ := spR2 h
  cases e
  have E1 : EnvD K F [.d (.lst (chs run)), .d (maD ma), .u, .u] (start N_in_order [v, w]) := .cons ⟨v, rfl, hv⟩ (.cons ⟨w, rfl, hw⟩ (.cons trivial (.cons trivial .nil)))
  refine s_ret S ?_ k
  let isC : D → D → Bool := fun n x => match n, x with
    | .int i, .str s => match s.cps.toList with | [c] => decide (((lk ma c).getD 0 : Nat) = i) | _ => false
    | _, _ => false
  refine ev_is (ev_lc2 (N := 10000) (items := [.int 1, .int 2, .int 3]) (ys := fun _ => chs run) (f := fun _ x => x) (p := isC) E1 (ei_tup (ev_tupC hs (DenL.ints [1, 2, 3]))) (by rw [sizeLine_eq]; decide) (fun _ _ => by unfold chs; rw [List.length_map]; exact hz) (wipe2 (by decide)) (wipe1 3) (fun d F' σ' _ _ E' => ei_lst (ev_var E' rfl)) ?_ ?_) ?_
  · intro d e F' σ' hd he _ E'
    obtain ⟨c, hc, rfl⟩ := List.mem_map.mp he
    obtain ⟨m, hm⟩ := Option.isSome_iff_exists.mp (hr c hc)
    have go : ∀ n : Nat, d = .int n → EvT K (tTest (tOp (rEqA K) (tOp (rIxA K) (tVar 1) (tVar 3)) (tVar 2))) σ' F' (isC d (.str ⟨#[c]⟩)) := by
      rintro n rfl
      refine et_test (ev_is (ev_op (ev_op (d := .int (m : Nat)) (ev_var (i := 1) E' rfl) (ev_var (i := 3) E' rfl) (rv_ix_dic (k := .inr ⟨#[c]⟩) rfl (by rw [valD_ma, hm]; rfl))) (ev_var (i := 2) E' rfl) rvA_eq_int) ?_)
      show D.bl (decide ((m : Int) = n)) = D.bl (decide ((((lk ma c).getD 0 : Nat) : Int) = (n : Int)))
      rw [hm]; rfl
    simp only [List.mem_cons, List.not_mem_nil, or_false] at hd
    rcases hd with rfl | rfl | rfl
    · exact go 1 rfl
    · exact go 2 rfl
    · exact go 3 rfl
  · intro d e F' σ' _ _ _ E' _
    exact ev_var E' rfl
  · have f : ∀ n : Nat, ((chs run).filter (isC (.int n))).map (fun x => x) = chs (run.filter (ofCls ma n)) := by
      intro n
      rw [List.map_id']
      unfold chs
      rw [List.filter_map]
      congr 1
      refine List.filter_congr fun c hc => ?_
      obtain ⟨m, hm⟩ := Option.isSome_iff_exists.mp (hr c hc)
      show decide ((((lk ma c).getD 0 : Nat) : Int) = (n : Int)) = _
      rw [hm]
      exact ofCls_dec ma n c m hm
    have e : (([.int 1, .int 2, .int 3] : List D).flatMap fun d => ((chs run).filter (isC d)).map (fun x => x)) = chs (inOrd ma run) := by
      have f1 := f 1; have f2 := f 2; have f3 := f 3
      show ((chs run).filter (isC (.int ((1 : Nat) : Int)))).map (fun x => x) ++ (((chs run).filter (isC (.int ((2 : Nat) : Int)))).map (fun x => x) ++ (((chs run).filter (isC (.int ((3 : Nat) : Int)))).map (fun x => x) ++ [])) = _
      rw [f1, f2, f3, List.append_nil]
      unfold inOrd chs
      rw [List.map_append, List.map_append]
    exact congrArg D.lst e
end
section
variable {K : PySem.W.Frag} {vs : List V} {H F : Hp} {Q : VK} {E : XK} {σ : L2.St} {ta tb : TE}
theorem rd_ordered_runs (h : spR K 2 R_ordered_runs vs H Q E) : t_ordered_runs K (spR K 2 R_in_order) { nx := fun _ H' => Q .non H', rt := Q } (start N_ordered_runs vs) H := by
  obtain ⟨F, v, w, x, y, d, rfl, S, hv, hw, ⟨ma, l, ok, hz, e, rfl⟩, k⟩ := spR2 h
  cases e
  have E1 : EnvD K F [.d (txt l), .d (maD ma), .u, .u, .u] (start N_ordered_runs [v, w]) := .cons ⟨v, rfl, hv⟩ (.cons ⟨w, rfl, hw⟩ (.cons trivial (.cons trivial (.cons trivial .nil))))
  refine q_par (d := .lst (chs [])) (e := .lst (chs [])) S E1 (ea_cons (ev_lst ea_nil (Nat.zero_le _)) (ea_cons (ev_lst ea_nil (Nat.zero_le _)) ea_nil)) fun F1 H1 σ1 x1 E1 => ?_
  refine q_for [] (fun i _ _ r => ∃ a A B, r = [.d (txt l), .d (maD ma), a, .d (.lst (chs A)), .d (.lst (chs B))] ∧ A ++ runs ma B (l.drop i) = runs ma [] l ∧ (∀ c ∈ B, (lk ma c).isSome = true) ∧ A.length + B.length ≤ i) x1.s E1 (ei_str (z := ⟨l.toArray⟩) (ev_var E1 rfl)) (fun F' H' _ => ⟨_, [], [], rfl, rfl, (by simp), Nat.le_refl _⟩) ?_ ?_
  · rintro i d F2 H2 F3 H3 r' σ' N hd x2 ⟨a, A, B, rfl, inv, hB, hle⟩ x3 E3 n
    have hd' : (l.map fun c => D.str ⟨#[c]⟩)[i]? = some d := hd
    rw [List.getElem?_map] at hd'
    obtain ⟨c, hc, rfl⟩ := Option.map_eq_some_iff.mp hd'
    have hil : i < l.length := (List.getElem?_eq_some_iff.mp hc).1
    have dr : l.drop i = c :: l.drop (i + 1) := by
      obtain ⟨_, e⟩ := List.getElem?_eq_some_iff.mp hc
      rw [List.drop_eq_getElem_cons hil, e]
    rw [dr] at inv
    refine s_if (K := K) (b := (lk ma c).isSome) x3.s (et_test (ev_is (ev_op (ev_var E3 rfl) (ev_var E3 rfl) (rv_in_dic (es := maE ma) (k := .inr ⟨#[c]⟩) rfl)) (by rw [isSome_ma]))) ?_ ?_
    · intro hm F4 H4 x4
      refine s_asg (d := .lst (chs (B ++ [c]))) x4.s (E3.up x4.f) (ev_is (ev_lst (ea_star_lst (ds := chs B) (ev_var (E3.up x4.f) rfl) (ea_cons (ev_var (E3.up x4.f) rfl) ea_nil)) ?_) (by rw [chs_app]; rfl)) fun F5 H5 σ5 x5 E5 => n F5 H5 _ _ (x4.tr x5) E5 ⟨_, A, B ++ [c], rfl, ?_, ?_, ?_⟩
      · rw [List.length_append, chs_len, sizeLine_eq]; simp only [List.length_cons, List.length_nil]; omega
      · rw [← inv]; conv => rhs; unfold runs
        rw [if_pos hm]
      · intro c' hc'
        rcases List.mem_append.mp hc' with hc' | hc'
        · exact hB c' hc'
        · simp at hc'; subst hc'; exact hm
      · simp only [List.length_append, List.length_cons, List.length_nil]; omega
    · intro hm F4 H4 x4
      have il := inOrd_len ok B hB
      refine q_asg (d := .lst (chs (A ++ (inOrd ma B ++ [c])))) x4.s (E3.up x4.f) (ev_is (ev_lst (ea_star_lst (ds := chs A) (ev_var (E3.up x4.f) rfl) (ea_star_lst (ds := chs (inOrd ma B)) (ev_callR (ds := [.lst (chs B), maD ma]) (ea_cons (ev_var (E3.up x4.f) rfl) (ea_cons (ev_var (E3.up x4.f) rfl) ea_nil)) ⟨ma, B, hB, by omega, rfl, rfl⟩ rfl) (ea_cons (ev_var (E3.up x4.f) rfl) ea_nil))) ?_) (by rw [chs_app, chs_app]; rfl)) fun F5 H5 σ5 x5 E5 => ?_
      · rw [List.length_append, List.length_append, chs_len, chs_len, il, sizeLine_eq]; simp only [List.length_cons, List.length_nil]; omega
      refine s_asg (d := .lst (chs [])) x5.s E5 (ev_lst ea_nil (Nat.zero_le _)) fun F6 H6 σ6 x6 E6 => n F6 H6 _ _ ((x4.tr x5).tr x6) E6 ⟨_, A ++ (inOrd ma B ++ [c]), [], rfl, ?_, by simp, ?_⟩
      · rw [← inv]; conv => rhs; unfold runs
        rw [if_neg (by rw [hm]; decide)]
        simp
      · simp only [List.length_append, List.length_cons, List.length_nil, il]; omega
  · rintro F2 H2 r' σ' x2 E2 ⟨a, A, B, rfl, inv, hB, hle⟩
    have hl : (signs ⟨l.toArray⟩).length = l.length := by unfold signs; simp
    rw [hl] at inv hle
    rw [List.drop_length] at inv
    have il := inOrd_len ok B hB
    refine s_ret x2.s ?_ fun v F3 H3 x3 => k v F3 H3 (((x1.tr x2)).tr x3)
    refine ev_is (ev_joinC (l := A ++ inOrd ma B) (ev_c (.str _)) (ev_lst (ea_star_lst (ds := chs A) (ev_var E2 rfl) (ea_star_lst (ds := chs (inOrd ma B)) (ev_callR (ds := [.lst (chs B), maD ma]) (ea_cons (ev_var E2 rfl) (ea_cons (ev_var E2 rfl) ea_nil)) ⟨ma, B, hB, by omega, rfl, rfl⟩ rfl) ea_nil)) ?_) ?_ ?_) ?_
    · simp only [List.length_append, chs_len, il, sizeLine_eq, List.length_nil]; omega
    · rw [chs_app, List.append_nil]
    · rw [List.length_append, il]; omega
    · show txt (A ++ runs ma B []) = _
      rw [inv]
theorem rd_key_of (h : spR K 2 R_key_of vs H Q E) : t_key_of K (spR K 2 R_ordered_runs) { nx := fun _ H' => Q .non H', rt := Q } (start N_key_of vs) H := by
  obtain ⟨F, v, w, x, y, d, rfl, S, hv, hw, ⟨fo, ma, l, ok, hs, hz, e, rfl⟩, k⟩ := spR2 h
  cases e
  have E1 : EnvD K F [.d (ruleD fo ma), .d (txt l), .u, .u, .u] (start N_key_of [v, w]) := .cons ⟨v, rfl, hv⟩ (.cons ⟨w, rfl, hw⟩ (.cons trivial (.cons trivial (.cons trivial .nil))))
  refine q_asgG (d := ruleD fo ma) S E1 (ev_var E1 rfl) tg_two fun F1 H1 σ1 x1 E1 => ?_
  have fl := folded_len ok hs
  refine s_ret x1.s ?_ fun v F3 H3 x3 => k v F3 H3 (x1.tr x3)
  refine ev_callR (ds := [txt (folded fo l), maD ma]) (ea_cons ?_ (ea_cons (ev_var E1 rfl) ea_nil)) ⟨ma, folded fo l, ok.okMa, by omega, rfl, rfl⟩ rfl
  refine ev_joinW (ws := l.map (foldS fo)) (ev_c (.str _)) (ev_lc (f := onCh fun c => txt (foldS fo c)) E1 (ei_str (z := ⟨l.toArray⟩) (ev_var E1 rfl)) ?_ (wipe1 4) fun d F' σ' hd _ E' => ?_) ?_ (by show (folded fo l).length ≤ _; omega)
  · unfold signs; rw [List.length_map, sizeLine_eq]; show l.length < _; omega
  · obtain ⟨c, hc, rfl⟩ := List.mem_map.mp hd
    show EvD K _ σ' F' (txt (foldS fo c))
    refine ev_if (b := (lk fo c).isSome) (et_test (ev_is (ev_op (ev_var E' rfl) (ev_var E' rfl) (rv_in_dic (es := foE fo) (k := .inr ⟨#[c]⟩) rfl)) (by rw [isSome_fo]))) (fun h => ?_) fun h => ?_
    · obtain ⟨w, hw⟩ := Option.isSome_iff_exists.mp h
      rw [foldS_some hw]
      exact ev_op (ev_var E' rfl) (ev_var E' rfl) (rv_ix_dic (es := foE fo) (k := .inr ⟨#[c]⟩) rfl (by rw [valD_fo, hw]; rfl))
    · rw [foldS_none (Option.isNone_iff_eq_none.mp (by simpa using h))]
      exact ev_var E' rfl
  · unfold signs; rw [List.map_map, List.map_map]; rfl
end
end Nm

set_option Elab.async false
set_option linter.all false
set_option maxRecDepth 100000
set_option maxHeartbeats 400000
namespace Nm
open PySem PySem.Spec L2
local macro_rules | `(tactic| walk_at "ev") => `(tactic| first
  | (with_reducible apply ev_var; assumption; with_unfolding_all rfl)
  | (with_reducible apply ev_c; first | with_reducible exact Den.int _ | with_reducible exact Den.str _ | with_reducible exact Den.bl _ | with_reducible exact Den.non | with_reducible exact Den.ty _)
  | with_reducible exact ea_nil
  | (with_reducible apply ea_cons; walk_at "ev"; walk_at "ev")
  | (with_reducible apply ev_op; walk_at "ev"; walk_at "ev"; walk_at "rv")
  | (with_reducible apply ev_cb; walk_at "ev"; walk_at "rv")
  | (with_reducible apply ev_lst; walk_at "ev"; walk_at "sz")
  | (with_reducible apply ev_tup; walk_at "ev"; walk_at "sz")
  | (with_reducible apply ev_un; walk_at "ev"; walk_at "rv")
  | (with_reducible apply ev_chainU; walk_at "ev"; walk_at "ev"; walk_at "rv"; walk_at "ev"; walk_at "rv")
  | with_reducible exact ev_dnew
  | with_reducible exact ev_disp1 (fun _ => Den.str _)
  | (with_reducible apply et_test; walk_at "ev")
  | (with_reducible apply et_B; walk_at "ev")
  | (with_reducible apply et_not; walk_at "ev")
  | (with_reducible apply ev_not; walk_at "ev")
  | (with_reducible apply ev_sl_str; walk_at "ev"; walk_at "ev"; walk_at "ev"; walk_at "sz")
  | (with_reducible apply eo_some; walk_at "ev")
  | with_reducible exact eo_none)
local macro_rules | `(tactic| walk_at "rv") => `(tactic| first
  | with_reducible exact rv_add_int | (with_reducible apply rv_add_str; walk_at "sz") | (with_reducible apply rv_add_lst; walk_at "sz")
  | with_reducible exact rv_lt_int | with_reducible exact rv_le_int | with_reducible exact rv_gt_int | with_reducible exact rv_ge_int
  | with_reducible exact rvA_eq_int | with_reducible exact rvA_eq_str | with_reducible exact rvA_ne_int | with_reducible exact rvA_ne_str
  | (with_reducible apply rv_mul_int; walk_at "mul")
  | with_reducible exact rv_in_sign | (with_reducible apply rc_len_str; walk_at "sz") | with_reducible exact rc_len_lst | with_reducible exact rc_len_tup
  | with_reducible exact rc_abs | with_reducible exact rc_max2 | with_reducible exact rc_min2
  | with_reducible exact rc_all | with_reducible exact rc_any | with_reducible exact ru_neg
  | (with_reducible apply rc_isiA; with_unfolding_all rfl; decide +kernel)
  | (with_reducible apply rv_ix_lst; with_unfolding_all rfl) | (with_reducible apply rv_ix_tup; with_unfolding_all rfl)
  | (with_reducible apply rv_I; first | walk_at "sd" | (unfold CPow; decide) | (unfold CDiv; first | decide | omega)))
local macro_rules | `(tactic| walk_at "sz") => `(tactic| first | assumption | (rw [sizeLine_eq]; omega) | (rw [sizeLine_eq]; decide) | (simp [sizeLine_eq]; done))
local macro_rules | `(tactic| walk_at "sd") => `(tactic| first | assumption | omega | decide)
local macro_rules | `(tactic| walk_at "mul") => `(tactic| first | exact Or.inl ⟨by omega, by omega⟩ | exact Or.inr ⟨by omega, by omega⟩)
/-! ### the law's rules and words -/
def postRule (_ : List D) (d : D) : Prop := ∃ fo ma, Drawn fo ma ∧ d = ruleD fo ma
abbrev spRule (K : PySem.W.Frag) : Sp := spB K 0 43 (fun _ => True) postRule
section
variable {K : PySem.W.Frag} {vs : List V} {H : Hp} {Q : VK} {E : XK}
theorem rd_law_rule (h : spRule K vs H Q E) : t_law_rule K (spTake K) { nx := fun _ H' => Q .non H', rt := Q } (start N_law_rule vs) H := by
  obtain ⟨F, b, n, ws, ds, rfl, S, w, l, hn, _, k⟩ := h
  obtain rfl : ws = [] := by
    cases l with
    | nil => rfl
    | cons _ _ => cases hn
  have E0 : EnvD K F [.v (.ref b), .u, .u, .u, .u] (start N_law_rule [.ref b]) := .cons rfl (.cons trivial (.cons trivial (.cons trivial (.cons trivial .nil))))
  intro p hp q hq
  refine ⟨_, _, rfl, ?_⟩
  have x1 : Ext [] F H F (upd H p (.dK [])) := Ext.newM S hp
  have x2 : Ext [] F (upd H p (.dK [])) F (upd (upd H p (.dK [])) q (.dK [])) := Ext.newM x1.s hq
  have x12 := x1.tr x2
  have pq : p ≠ q := fun z => by rw [← z, upd_same] at hq; cases hq
  have hqH : H q = none := by
    cases e : H q with
    | none => rfl
    | some o => have := x1.same q o e; rw [hq] at this; cases this
  have bp : b ≠ p := fun z => w.ne (by rw [z]; exact hp)
  have bq : b ≠ q := fun z => w.ne (by rw [z]; exact hqH)
  have op : Own F (upd (upd H p (.dK [])) q (.dK [])) p (.dK (foV [])) := ⟨S.free hp, by rw [upd_ne pq]; exact upd_same⟩
  have oq : Own F (upd (upd H p (.dK [])) q (.dK [])) q (.dK (maV [])) := ⟨S.free hqH, upd_same⟩
  have E1 : EnvD K F [.v (.ref b), .u, .v (.ref p), .v (.ref q), .u] (((start N_law_rule [.ref b]).set 2 (some (.ref p))).set 3 (some (.ref q))) := EnvD.set (s := .v (.ref q)) 3 (EnvD.set (s := .v (.ref p)) 2 E0 rfl) rfl
  have lenF : ∀ {fo : Fo}, (fo.map (·.1)).Sublist key7 → (foV fo).length < sizeLine := fun h => by
    have := h.length_le
    rw [List.length_map] at this
    unfold foV; rw [List.length_map, sizeLine_eq]
    have : key7.length = 7 := rfl
    omega
  have lenM : ∀ {ma : Ma}, (ma.map (·.1)).Sublist mrk4 → (maV ma).length < sizeLine := fun h => by
    have := h.length_le
    rw [List.length_map] at this
    unfold maV; rw [List.length_map, sizeLine_eq]
    have : mrk4.length = 4 := rfl
    omega
  refine q_for [b, p, q] (fun i F' H' r => ∃ a e fo, r = [.v (.ref b), a, .v (.ref p), .v (.ref q), e] ∧ BagAt F' H' b (n + 8 + (7 - i) * 5) ∧ Own F' H' p (.dK (foV fo)) ∧ Own F' H' q (.dK (maV [])) ∧ (fo.map (·.1)).Sublist (key7.take i) ∧ ∀ z ∈ fo, 1 ≤ z.2.length ∧ z.2.length ≤ 3 ∧ ∀ c ∈ z.2, c ∈ sig7)
    x12.s E1 (ei_str (z := "A1B2_Z9") (ev_c (.str _))) (fun F' H' x => ⟨_, _, [], rfl, (w.ext0 (x12.tr x)).less (by omega), op.ext0 x, oq.ext0 x, by simp, by simp⟩) ?_ ?_
  · rintro i d F1 H1 F2 H2 r' σ' N hd y1 ⟨a, e, fo, rfl, w1, op1, oq1, hs, hf⟩ y2 E2 nx
    have hd' : (key7.map fun c => D.str ⟨#[c]⟩)[i]? = some d := hd
    rw [List.getElem?_map] at hd'
    obtain ⟨c, hc, rfl⟩ := Option.map_eq_some_iff.mp hd'
    have hi : i < 7 := (List.getElem?_eq_some_iff.mp hc).1
    have ss := sub_succ hs hc
    have nw := sub_new (by decide) hs hc
    refine s_ifB (n := n + 8 + (7 - (i + 1)) * 5 + 4) (c := 1) y2.s ((w1.ext0 y2).less (by omega)) (eb_op (eb_take E2 rfl (ev_c (.int 2)) (by decide) (by decide)) (eb_of (ev_c (.int 0))) ?_) (fun F3 H3 y3 w3 => ?_) (fun F3 H3 y3 w3 => nx F3 H3 _ _ (y3.wide (by simp)) (E2.up y3.f) ⟨_, _, fo, rfl, w3.less (by omega), (op1.ext0 y2).ext y3 (by simpa using bp.symm), (oq1.ext0 y2).ext y3 (by simpa using bq.symm), ss.2, hf⟩)
    · rintro x y ⟨m, rfl, _⟩ rfl
      exact ⟨_, rvA_eq_int, _, rfl⟩
    · have E3 := E2.up y3.f
      have op3 := (op1.ext0 y2).ext y3 (by simpa using bp.symm)
      have oq3 := (oq1.ext0 y2).ext y3 (by simpa using bq.symm)
      refine s_dputB (i := 2) (j := 1) (x := ⟨#[c]⟩) (n := n + 8 + (7 - (i + 1)) * 5) y3.s E3 w3 (eb_word (z := "aabc':^") (m := 7) (lo := 1) (N := 3) (ci := 1) E3 rfl (by decide) (ebi_rng1 (S := fun ds => ∃ m : Nat, ds = [.int (m : Nat)] ∧ 1 ≤ m ∧ m ≤ 3) (eb_cons (eb_pick_lst (m := 5) E3 rfl (ev_lst (ea_cons (ev_c (.int 1)) (ea_cons (ev_c (.int 1)) (ea_cons (ev_c (.int 2)) (ea_cons (ev_c (.int 2)) (ea_cons (ev_c (.int 3)) ea_nil))))) sz5) (ev_c (.int 5)) (by decide) rfl (by decide)) eb_nil ?_) ?_) (by decide) (ev_c (.str _)) (fun F' σ' d _ _ => ev_c (.str _)) (fun F' σ' d _ _ => ev_c (.int 7)) (by decide) rfl (by decide)) rfl rfl op3 (lenF (hs.trans (List.take_sublist _ _))) bp.symm ?_
      · rintro x xs hx rfl
        simp only [List.mem_cons, List.not_mem_nil, or_false] at hx
        rcases hx with rfl | rfl | rfl | rfl | rfl
        · exact ⟨1, rfl, by decide, by decide⟩
        · exact ⟨1, rfl, by decide, by decide⟩
        · exact ⟨2, rfl, by decide, by decide⟩
        · exact ⟨2, rfl, by decide, by decide⟩
        · exact ⟨3, rfl, by decide, by decide⟩
      · rintro ds ⟨m, rfl, h1, h2⟩
        exact ⟨m, rfl, by omega, by rw [List.length_map, List.length_range]; omega, by rw [List.length_map, List.length_range]; omega⟩
      · rintro v d F4 H4 ⟨wd, rfl, h1, h2, h3⟩ dv y4 w4 op4
        cases dv
        have oq4 := oq3.ext y4 (by simpa using bq.symm)
        have E4 := E3.up y4.f
        refine nx F4 _ _ _ (((y3.trans y4).wide (by simp)).trans ((op4.set y4.s).wide (by simp))) E4 ⟨_, _, fo ++ [(c, wd)], rfl, w4.set (o := .tup []) bp, ⟨op4.f, ?_⟩, oq4.put pq.symm, ?_, ?_⟩
        · rw [upd_same]
          have nk : ∀ z ∈ foV fo, z.1 ≠ .inr ⟨#[c]⟩ := newKey (fun w : List Nat => V.str ⟨w.toArray⟩) nw
          rw [putK_new nk]
          unfold foV
          rw [List.map_append]; rfl
        · rw [List.map_append]; exact ss.1
        · intro z hz
          rcases List.mem_append.mp hz with hz | hz
          · exact hf z hz
          · simp at hz; subst hz; exact ⟨h1, h2, h3⟩
  · rintro F1 H1 r' σ' y1 E1 ⟨a, e, fo, rfl, w1, op1, oq1, hs, hf⟩
    have hs : (fo.map (·.1)).Sublist key7 := hs
    have w1 : BagAt F1 H1 b (n + 8) := w1
    refine q_for [b, p, q] (fun i F' H' r => ∃ a e ma, r = [.v (.ref b), a, .v (.ref p), .v (.ref q), e] ∧ BagAt F' H' b (n + (4 - i) * 2) ∧ Own F' H' p (.dK (foV fo)) ∧ Own F' H' q (.dK (maV ma)) ∧ (ma.map (·.1)).Sublist (mrk4.take i) ∧ ∀ z ∈ ma, z.2 = 1 ∨ z.2 = 2 ∨ z.2 = 3)
      y1.s E1 (ei_str (z := "':^~") (ev_c (.str _))) (fun F' H' x => ⟨_, _, [], rfl, w1.ext0 x, op1.ext0 x, oq1.ext0 x, by simp, by simp⟩) ?_ ?_
    · rintro i d F1 H1 F2 H2 r' σ' N hd y1 ⟨a, e, ma, rfl, w1, op1, oq1, hs, hf⟩ y2 E2 nx
      have hd' : (mrk4.map fun c => D.str ⟨#[c]⟩)[i]? = some d := hd
      rw [List.getElem?_map] at hd'
      obtain ⟨c, hc, rfl⟩ := Option.map_eq_some_iff.mp hd'
      have hi : i < 4 := (List.getElem?_eq_some_iff.mp hc).1
      have ss := sub_succ hs hc
      have nw := sub_new (by decide) hs hc
      refine s_ifB (n := n + (4 - (i + 1)) * 2 + 1) (c := 1) y2.s ((w1.ext0 y2).less (by omega)) (eb_op (eb_take E2 rfl (ev_c (.int 3)) (by decide) (by decide)) (eb_of (ev_c (.int 0))) ?_) (fun F3 H3 y3 w3 => ?_) (fun F3 H3 y3 w3 => nx F3 H3 _ _ (y3.wide (by simp)) (E2.up y3.f) ⟨_, _, ma, rfl, w3.less (by omega), (op1.ext0 y2).ext y3 (by simpa using bp.symm), (oq1.ext0 y2).ext y3 (by simpa using bq.symm), ss.2, hf⟩)
      · rintro x y ⟨m, rfl, _⟩ rfl
        exact ⟨_, rv_gt_int, _, rfl⟩
      · have E3 := E2.up y3.f
        have op3 := (op1.ext0 y2).ext y3 (by simpa using bp.symm)
        have oq3 := (oq1.ext0 y2).ext y3 (by simpa using bq.symm)
        refine s_dputB (i := 3) (j := 1) (x := ⟨#[c]⟩) (n := n + (4 - (i + 1)) * 2) (c := 0 + 1) (R := fun d => ∃ k : Nat, d = .int (k : Nat) ∧ (k = 1 ∨ k = 2 ∨ k = 3)) y3.s E3 w3 (eb_op (eb_of (ev_c (.int 1))) (eb_take (m := 3) E3 rfl (ev_c (.int 3)) (by decide) (by decide)) ?_) rfl rfl oq3 (lenM (hs.trans (List.take_sublist _ _))) bq.symm ?_
        · rintro x y rfl ⟨m, rfl, hm⟩
          exact ⟨_, rv_add_int, m + 1, congrArg D.int (by omega), by omega⟩
        · rintro v d F4 H4 ⟨m, rfl, hm⟩ dv y4 w4 oq4
          cases dv
          have op4 := op3.ext y4 (by simpa using bp.symm)
          have E4 := E3.up y4.f
          refine nx F4 _ _ _ (((y3.trans y4).wide (by simp)).trans ((oq4.set y4.s).wide (by simp))) E4 ⟨_, _, ma ++ [(c, m)], rfl, w4.set (o := .tup []) bq, op4.put pq, ⟨oq4.f, ?_⟩, ?_, ?_⟩
          · rw [upd_same]
            have nk : ∀ z ∈ maV ma, z.1 ≠ .inr ⟨#[c]⟩ := newKey (fun w : Nat => V.int (w : Nat)) nw
            rw [putK_new nk]
            unfold maV
            rw [List.map_append]; rfl
          · rw [List.map_append]; exact ss.1
          · intro z hz
            rcases List.mem_append.mp hz with hz | hz
            · exact hf z hz
            · simp at hz; subst hz; exact hm
    · rintro F2 H2 r' σ' y2 E2 ⟨a, e, ma, rfl, w2, op2, oq2, hs2, hf2⟩
      have hs2 : (ma.map (·.1)).Sublist mrk4 := hs2
      have w2 : BagAt F2 H2 b n := w2
      obtain ⟨o1, h1, h2⟩ := E2.get (i := 2) rfl
      have h2 : o1 = some (.ref p) := h2
      subst h2
      obtain ⟨o2, h3, h4⟩ := E2.get (i := 3) rfl
      have h4 : o2 = some (.ref q) := h4
      subst h4
      refine ⟨.ref p, h1, .inr ⟨p, _, rfl, op2.h, trivial, fun od => ?_⟩⟩
      refine ⟨.ref q, h3, .inr ⟨q, .dK (maV ma), rfl, (by rw [upd_ne pq.symm]; exact oq2.h), trivial, fun od' => ?_⟩⟩
      refine ⟨sz2, fun t ht => ?_⟩
      have y3 := op2.set (u := .frz od (.dK (foV fo))) y2.s
      have oq3 : Own F2 (upd H2 p (.frz od (.dK (foV fo)))) q (.dK (maV ma)) := oq2.put pq.symm
      have y4 := oq3.set (u := .frz od' (.dK (maV ma))) y3.s
      have x2 : Ext [b] F H F2 (upd (upd H2 p (.frz od (.dK (foV fo)))) q (.frz od' (.dK (maV ma)))) := Ext.drop x12 (((y1.trans y2).trans (y3.wide (by simp))).trans (y4.wide (by simp))) (by
        intro a ha
        simp only [List.mem_cons, List.not_mem_nil, or_false] at ha
        rcases ha with rfl | rfl | rfl
        · exact .inl (by simp)
        · exact .inr hp
        · exact .inr hqH)
      have z1 := Ext.freeze (o := .frz od (.dK (foV fo))) x2 hp (by rw [upd_ne pq]; exact upd_same) op2.f
      have z2 := Ext.freeze (o := .frz od' (.dK (maV ma))) z1 hqH upd_same (by rw [upd_ne pq.symm]; exact oq2.f)
      have z3 := Ext.new (o := .tup [.ref p, .ref q]) z2.s ht
      have w3 : BagAt F2 (upd (upd H2 p (.frz od (.dK (foV fo)))) q (.frz od' (.dK (maV ma)))) b n := (w2.set (o := .tup []) bp).set (o := .tup []) bq
      refine k _ _ _ _ (z2.tl z3) ((w3.fz ?_).ext0 z3) ⟨fo, ma, ⟨hs, hf, hs2, hf2⟩, rfl⟩ (.tup (SqT.of upd_same) (.cons (.dic (o := od) (z3.f _ _ ?_) (den_foV fo)) (.cons (.dic (z3.f _ _ upd_same) (den_maV ma)) .nil)))
      · rw [upd_ne bq, upd_ne bp]; exact w2.nf
      · rw [upd_ne pq]; exact upd_same
end
end Nm

set_option Elab.async false
set_option linter.all false
set_option maxRecDepth 100000
set_option maxHeartbeats 400000
namespace Nm
open PySem PySem.Spec L2
local macro_rules | `(tactic| walk_at "ev") => `(tactic| first
  | (with_reducible apply ev_var; assumption; with_unfolding_all rfl)
  | (with_reducible apply ev_c; first | with_reducible exact Den.int _ | with_reducible exact Den.str _ | with_reducible exact Den.bl _ | with_reducible exact Den.non | with_reducible exact Den.ty _)
  | with_reducible exact ea_nil
  | (with_reducible apply ea_cons; walk_at "ev"; walk_at "ev")
  | (with_reducible apply ev_op; walk_at "ev"; walk_at "ev"; walk_at "rv")
  | (with_reducible apply ev_cb; walk_at "ev"; walk_at "rv")
  | (with_reducible apply ev_lst; walk_at "ev"; walk_at "sz")
  | (with_reducible apply ev_tup; walk_at "ev"; walk_at "sz")
  | (with_reducible apply ev_un; walk_at "ev"; walk_at "rv")
  | (with_reducible apply ev_chainU; walk_at "ev"; walk_at "ev"; walk_at "rv"; walk_at "ev"; walk_at "rv")
  | with_reducible exact ev_dnew
  | with_reducible exact ev_disp1 (fun _ => Den.str _)
  | (with_reducible apply et_test; walk_at "ev")
  | (with_reducible apply et_B; walk_at "ev")
  | (with_reducible apply et_not; walk_at "ev")
  | (with_reducible apply ev_not; walk_at "ev")
  | (with_reducible apply ev_sl_str; walk_at "ev"; walk_at "ev"; walk_at "ev"; walk_at "sz")
  | (with_reducible apply eo_some; walk_at "ev")
  | with_reducible exact eo_none)
local macro_rules | `(tactic| walk_at "rv") => `(tactic| first
  | with_reducible exact rv_add_int | (with_reducible apply rv_add_str; walk_at "sz") | (with_reducible apply rv_add_lst; walk_at "sz")
  | with_reducible exact rv_lt_int | with_reducible exact rv_le_int | with_reducible exact rv_gt_int | with_reducible exact rv_ge_int
  | with_reducible exact rvA_eq_int | with_reducible exact rvA_eq_str | with_reducible exact rvA_ne_int | with_reducible exact rvA_ne_str
  | (with_reducible apply rv_mul_int; walk_at "mul")
  | with_reducible exact rv_in_sign | (with_reducible apply rc_len_str; walk_at "sz") | with_reducible exact rc_len_lst | with_reducible exact rc_len_tup
  | with_reducible exact rc_abs | with_reducible exact rc_max2 | with_reducible exact rc_min2
  | with_reducible exact rc_all | with_reducible exact rc_any | with_reducible exact ru_neg
  | (with_reducible apply rc_isiA; with_unfolding_all rfl; decide +kernel)
  | (with_reducible apply rv_ix_lst; with_unfolding_all rfl) | (with_reducible apply rv_ix_tup; with_unfolding_all rfl)
  | (with_reducible apply rv_I; first | walk_at "sd" | (unfold CPow; decide) | (unfold CDiv; first | decide | omega)))
local macro_rules | `(tactic| walk_at "sz") => `(tactic| first | assumption | (rw [sizeLine_eq]; omega) | (rw [sizeLine_eq]; decide) | (simp [sizeLine_eq]; done))
local macro_rules | `(tactic| walk_at "sd") => `(tactic| first | assumption | omega | decide)
local macro_rules | `(tactic| walk_at "mul") => `(tactic| first | exact Or.inl ⟨by omega, by omega⟩ | exact Or.inr ⟨by omega, by omega⟩)
/-! ### the law's key, by exchanging neighbours -/
section
theorem calm_snoc {ma : Ma} {a b : Nat} (hw : wrong ma a b = false) : ∀ x : List Nat, calmL ma (x ++ [a]) = true → calmL ma (x ++ [a, b]) = true
  | [], _ => by simp [calmL, hw]
  | [c], h => by
    simp only [List.cons_append, List.nil_append, calmL, Bool.and_eq_true] at h ⊢
    exact ⟨h.1, by simp [hw]⟩
  | c :: d :: x, h => by
    simp only [List.cons_append, calmL, Bool.and_eq_true] at h ⊢
    exact ⟨h.1, calm_snoc hw (d :: x) h.2⟩
theorem split_at {L : List Nat} {i : Nat} (h : i + 1 < L.length) : ∃ x a b y, L = x ++ a :: b :: y ∧ x.length = i ∧ L[i]? = some a ∧ L[i + 1]? = some b := by
  refine ⟨L.take i, L[i], L[i + 1], L.drop (i + 2), ?_, by rw [List.length_take]; omega, List.getElem?_eq_getElem (by omega), List.getElem?_eq_getElem h⟩
  have h1 : L.drop i = L[i] :: L.drop (i + 1) := List.drop_eq_getElem_cons (by omega)
  have h2 : L.drop (i + 1) = L[i + 1] :: L.drop (i + 2) := List.drop_eq_getElem_cons h
  conv => lhs; rw [← List.take_append_drop i L, h1, h2]
def chV (l : List Nat) : List V := l.map fun c => .str ⟨#[c]⟩
theorem chV_len (l : List Nat) : (chV l).length = l.length := by unfold chV; rw [List.length_map]
theorem chV_get {l : List Nat} {i c : Nat} (h : l[i]? = some c) : atI (chV l) (i : Nat) = some (.str ⟨#[c]⟩) := atI_nat (by unfold chV; rw [List.getElem?_map, h]; rfl)
theorem den_chV {K : PySem.W.Frag} {F : Hp} : ∀ l : List Nat, DenL K F (chV l) (chs l)
  | [] => .nil
  | c :: l => .cons (.str _) (den_chV l)
theorem swap_set {x y : List Nat} {a b : Nat} : ((chV (x ++ a :: b :: y)).set x.length (.str ⟨#[b]⟩)).set (x.length + 1) (.str ⟨#[a]⟩) = chV (x ++ b :: a :: y) := by
  unfold chV
  rw [List.map_append, List.map_append]
  have e : x.length = (x.map fun c => V.str ⟨#[c]⟩).length := by rw [List.length_map]
  rw [List.map_cons, List.map_cons, List.map_cons, List.map_cons]
  rw [List.set_append_right _ _ (by omega), List.set_append_right _ _ (by omega)]
  rw [← e, Nat.sub_self, show x.length + 1 - x.length = 1 by omega]
  rfl
variable {K : PySem.W.Frag} {vs : List V} {H : Hp} {Q : VK} {E : XK}
theorem rd_law_key (h : spR K 2 R_key_of vs H Q E) : t_law_key K { nx := fun _ H' => Q .non H', rt := Q } (start N_law_key vs) H := by
  obtain ⟨F, v, w, x, y, d, rfl, S, hv, hw, ⟨fo, ma, l, ok, hs, hz, e, rfl⟩, k⟩ := spR2 h
  cases e
  have E1 : EnvD K F [.d (ruleD fo ma), .d (txt l), .u, .u, .u, .u, .u, .u, .u, .u] (start N_law_key [v, w]) := .cons ⟨v, rfl, hv⟩ (.cons ⟨w, rfl, hw⟩ (.cons trivial (.cons trivial (.cons trivial (.cons trivial (.cons trivial (.cons trivial (.cons trivial (.cons trivial .nil)))))))))
  refine q_asgG (d := ruleD fo ma) S E1 (ev_var E1 rfl) tg_two fun F1 H1 σ1 x1 E1 => ?_
  have fl := folded_len ok hs
  have hj : EvD K (tM1 (rJoin K) (tC (.str "")) (tLc (iSeq K (tVar 1)) (gName 9) tYes (tDGet2 (tVar 2) (tVar 9) (tVar 9)) [9])) σ1 F1 (txt (folded fo l)) := by
    refine ev_joinW (ws := l.map (foldS fo)) (ev_c (.str _)) (ev_lc (f := onCh fun c => txt (foldS fo c)) E1 (ei_str (z := ⟨l.toArray⟩) (ev_var E1 rfl)) ?_ (wipe1 9) fun d F' σ' hd _ E' => ?_) ?_ (by show (folded fo l).length ≤ _; omega)
    · unfold signs; rw [List.length_map, sizeLine_eq]; show l.length < _; omega
    · obtain ⟨c, hc, rfl⟩ := List.mem_map.mp hd
      refine ev_is (ev_get2 (es := foE fo) (k := .inr ⟨#[c]⟩) (ev_var E' rfl) (ev_var E' rfl) rfl (ev_var E' rfl)) ?_
      show _ = txt (foldS fo c)
      rw [valD_fo]
      cases hl : lk fo c with
      | none => rw [foldS_none hl]; rfl
      | some w => rw [foldS_some hl]; rfl
    · unfold signs; rw [List.map_map, List.map_map]; rfl
  refine hj H1 x1.s _ fun z F2 H2 x2 dz => ?_
  cases dz
  refine .inr (.inl ⟨_, rfl, by rw [txt_len, sizeLine_eq]; omega, fun p hp => ⟨_, _, rfl, ?_⟩⟩)
  have x3 : Ext [] F2 H2 F2 (upd H2 p (.lst (chV (folded fo l)))) := Ext.newM x2.s hp
  have hpF : F2 p = none := x2.s.free hp
  have hpH : H p = none := by
    cases q : H p with
    | none => rfl
    | some o => have := (x1.tr x2).same p o q; rw [hp] at this; cases this
  let T : List Sl → Prop := fun r => ∃ a b c e, r = [.d (ruleD fo ma), .d (txt l), .d (foD fo), .d (maD ma), .v (.ref p), a, b, c, e, .u] ∨ ∃ f, r = [.d (ruleD fo ma), .d (txt l), .d (foD fo), .d (maD ma), .v (.ref p), a, b, c, e, f]
  have E2 : EnvD K F2 [.d (ruleD fo ma), .d (txt l), .d (foD fo), .d (maD ma), .v (.ref p), .d (.bl false), .u, .u, .u, .u] ((σ1.set 4 (some (.ref p))).set 5 (some (.bl false))) := EnvD.set (s := .d (.bl false)) 5 (EnvD.set (s := .v (.ref p)) 4 (E1.up x2.f) rfl) ⟨_, rfl, .bl _⟩
  refine ⟨fun m σ' H' => ∃ F' L rd a b c e, Ext [p] F2 (upd H2 p (.lst (chV (folded fo l)))) F' H' ∧ Own F' H' p (.lst (chV L)) ∧ EnvD K F' [.d (ruleD fo ma), .d (txt l), .d (foD fo), .d (maD ma), .v (.ref p), .d (.bl rd), a, b, c, e] σ' ∧ runs ma [] L = key fo ma l ∧ L.length = (folded fo l).length ∧ (rd = true → calmL ma L = true) ∧ m = 2 * inv ma L + (if rd then 0 else 1),
    ⟨_, F2, folded fo l, false, _, _, _, _, Ext.refl x3.s, ⟨hpF, upd_same⟩, E2, rfl, rfl, (fun z => nomatch z), rfl⟩, ?_⟩
  rintro m σ' H' ⟨F', L, rd, a, b, c, e, y, o, E', hr, hl, hc, rfl⟩
  refine et_not (et_B (ev_var (i := 5) E' rfl)) H' y.s _ fun F3 H3 y3 => ?_
  cases rd with
  | false =>
    have o3 := o.ext0 y3
    refine ⟨fun σ4 H4 => ∃ F4 L4 rd a b c e, Ext [p] F3 H3 F4 H4 ∧ Own F4 H4 p (.lst (chV L4)) ∧ EnvD K F4 [.d (ruleD fo ma), .d (txt l), .d (foD fo), .d (maD ma), .v (.ref p), .d (.bl rd), a, b, c, e] σ4 ∧ runs ma [] L4 = key fo ma l ∧ L4.length = (folded fo l).length ∧ (rd = true → calmL ma L4 = true ∧ L4 = L) ∧ (rd = false → inv ma L4 < inv ma L), ?_, ?_⟩
    · rintro σ4 H4 ⟨F4, L4, rd, a, b, c, e, y4, o4, E4, hr4, hl4, hc4, hv4⟩
      refine ⟨2 * inv ma L4 + (if rd then 0 else 1), ?_, F4, L4, rd, a, b, c, e, (y.tl y3).trans y4, o4, E4, hr4, hl4, fun z => (hc4 z).1, rfl⟩
      cases rd with
      | true => rw [(hc4 rfl).2]; simp
      | false => have := hv4 rfl; simp; omega
    · refine q_asg (d := .bl true) y3.s (E'.up y3.f) (ev_c (.bl _)) fun F4 H4 σ4 y4 E4 => ?_
      have o4 := o3.ext0 y4
      refine s_forH [p] (items := (List.range (L.length - 1)).map fun i => .int (i : Nat)) (fun i F' H' r => ∃ L' rd a b c e, r = [.d (ruleD fo ma), .d (txt l), .d (foD fo), .d (maD ma), .v (.ref p), .d (.bl rd), a, b, c, e] ∧ Own F' H' p (.lst (chV L')) ∧ runs ma [] L' = key fo ma l ∧ L'.length = (folded fo l).length ∧ (rd = true → calmL ma (L'.take (i + 1)) = true ∧ L' = L) ∧ (rd = false → inv ma L' < inv ma L)) (fun d r => r.set 6 (.d d)) y4.s E4 ?_ (fun d _ => tg_name) ?_ ?_ ?_
      · by_cases h0 : L.length = 0
        · have : L = [] := List.length_eq_zero_iff.mp h0
          subst this
          refine fun R q => ?_
          have at1 : At (tOp (rI0 fun i j => V.int (i - j)) (tCB (rLenA K) (tCons (tVar 4) tNil)) (tC (.int 1))) σ4 H4 (.int (-1)) := at_sub (i := 0) (at_len o4.h (at_slot E4 rfl)) at_c
          refine at1 _ ?_
          have one : EvA K (fun _ H2 R => R [.int (-1)] H2) σ4 F4 [.int (-1)] := fun H2 s2 R2 q2 => q2 _ F4 H2 (Ext.refl s2) (.cons (.int _) .nil)
          exact ei_rng1 one (by decide) (by decide) H4 y4.s R fun J F5 H5 y5 W => q J F5 H5 y5 W
        · have e1 : ((chV L).length : Int) - 1 = ((L.length - 1 : Nat) : Int) := by rw [chV_len]; omega
          have at1 : At (tOp (rI0 fun i j => V.int (i - j)) (tCB (rLenA K) (tCons (tVar 4) tNil)) (tC (.int 1))) σ4 H4 (.int ((L.length - 1 : Nat) : Int)) := by
            rw [← e1]; exact at_sub (at_len o4.h (at_slot E4 rfl)) at_c
          exact eih_rng1 y4.s at1 (by omega)
      · intro F5 H5 y5
        refine ⟨L, true, _, _, _, _, rfl, o4.ext0 y5, hr, hl, fun _ => ⟨?_, rfl⟩, (fun z => nomatch z)⟩
        cases L with
        | nil => rfl
        | cons _ _ => rfl
      · rintro i d F5 H5 F6 H6 r' σ6 N hd y5 ⟨L', rd, a, b, c, e, rfl, o5, hr5, hl5, hc5, hv5⟩ y6 E6 nx
        rw [List.getElem?_map] at hd
        obtain ⟨i', hi', rfl⟩ := Option.map_eq_some_iff.mp hd
        have hi : i < L.length - 1 := by have := (List.getElem?_eq_some_iff.mp hi').1; rwa [List.length_range] at this
        rw [List.getElem?_range hi] at hi'
        obtain rfl := Option.some.inj hi'
        have o6 := o5.ext0 y6
        obtain ⟨xl, p1, p2, yl, rfl, hxl, g1, g2⟩ := split_at (L := L') (i := i) (by omega)
        have e1 : (i : Int) + 1 = ((i + 1 : Nat) : Int) := by omega
        have a1 : At (tOp (rIxA K) (tVar 4) (tVar 6)) σ6 H6 (.str ⟨#[p1]⟩) := at_ix o6.h (at_slot E6 rfl) (at_int E6 rfl) (chV_get g1)
        have a2 : At (tOp (rIxA K) (tVar 4) (tOp (rAddA K) (tVar 6) (tC (.int 1)))) σ6 H6 (.str ⟨#[p2]⟩) := at_ix o6.h (at_slot E6 rfl) (at_add (at_int E6 rfl) at_c) (by rw [e1]; exact chV_get g2)
        refine a1 _ (a2 _ ⟨_, _, rfl, ?_⟩)
        have E7 : EnvD K F6 [.d (ruleD fo ma), .d (txt l), .d (foD fo), .d (maD ma), .v (.ref p), .d (.bl rd), .d (.int (i : Nat)), .d (.str ⟨#[p1]⟩), .d (.str ⟨#[p2]⟩), e] ((σ6.set 7 (some (.str ⟨#[p1]⟩))).set 8 (some (.str ⟨#[p2]⟩))) := EnvD.set (s := .d (.str ⟨#[p2]⟩)) 8 (EnvD.set (s := .d (.str ⟨#[p1]⟩)) 7 E6 ⟨_, rfl, .str _⟩) ⟨_, rfl, .str _⟩
        have tst : EvT K (tAnd (tTest (tOp (rInA K) (tVar 7) (tVar 3))) (tAnd (tTest (tOp (rInA K) (tVar 8) (tVar 3))) (tTest (tOp (rGtA K) (tOp (rIxA K) (tVar 3) (tVar 7)) (tOp (rIxA K) (tVar 3) (tVar 8)))))) ((σ6.set 7 (some (.str ⟨#[p1]⟩))).set 8 (some (.str ⟨#[p2]⟩))) F6 (wrong ma p1 p2) := by
          refine et_is (et_and (et_test (ev_op (ev_var (i := 7) E7 rfl) (ev_var (i := 3) E7 rfl) (rv_in_dic (es := maE ma) (k := .inr ⟨#[p1]⟩) rfl))) fun h1 => et_and (b := wrong ma p1 p2) (et_test (ev_op (ev_var (i := 8) E7 rfl) (ev_var (i := 3) E7 rfl) (rv_in_dic (es := maE ma) (k := .inr ⟨#[p2]⟩) rfl))) fun h2 => ?_) ?_
          · rw [isSome_ma] at h1 h2
            obtain ⟨m1, q1⟩ := Option.isSome_iff_exists.mp h1
            obtain ⟨m2, q2⟩ := Option.isSome_iff_exists.mp h2
            refine et_test (ev_is (ev_op (ev_op (d := .int (m1 : Nat)) (ev_var (i := 3) E7 rfl) (ev_var (i := 7) E7 rfl) (rv_ix_dic (es := maE ma) (k := .inr ⟨#[p1]⟩) rfl (by rw [valD_ma, q1]; rfl))) (ev_op (d := .int (m2 : Nat)) (ev_var (i := 3) E7 rfl) (ev_var (i := 8) E7 rfl) (rv_ix_dic (es := maE ma) (k := .inr ⟨#[p2]⟩) rfl (by rw [valD_ma, q2]; rfl))) rv_gt_int) ?_)
            unfold wrong
            rw [q1, q2]
            congr 1
            simp
          · rw [isSome_ma, isSome_ma]
            unfold wrong
            cases lk ma p1 with
            | none => rfl
            | some m1 => cases lk ma p2 with
              | none => rfl
              | some m2 => rfl
        refine s_if (K := K) y6.s tst ?_ ?_
        · intro hwr F7 H7 y7
          have E8 := E7.up y7.f
          have o7 := o6.ext0 y7
          obtain ⟨w1, w2, w3⟩ := wrong_ne hwr
          have b8 : ∀ {H : Hp}, At (tVar 8) ((σ6.set 7 (some (.str ⟨#[p1]⟩))).set 8 (some (.str ⟨#[p2]⟩))) H (.str ⟨#[p2]⟩) := at_str (i := 8) E8 rfl
          have b7 : ∀ {H : Hp}, At (tVar 7) ((σ6.set 7 (some (.str ⟨#[p1]⟩))).set 8 (some (.str ⟨#[p2]⟩))) H (.str ⟨#[p1]⟩) := at_str (i := 7) E8 rfl
          have b4 : ∀ {H : Hp}, At (tVar 4) ((σ6.set 7 (some (.str ⟨#[p1]⟩))).set 8 (some (.str ⟨#[p2]⟩))) H (.ref p) := at_slot (i := 4) E8 rfl
          have b6 : ∀ {H : Hp}, At (tVar 6) ((σ6.set 7 (some (.str ⟨#[p1]⟩))).set 8 (some (.str ⟨#[p2]⟩))) H (.int (i : Nat)) := at_int (i := 6) E8 rfl
          have b61 : ∀ {H : Hp}, At (tOp (rAddA K) (tVar 6) (tC (.int 1))) ((σ6.set 7 (some (.str ⟨#[p1]⟩))).set 8 (some (.str ⟨#[p2]⟩))) H (.int ((i : Nat) + 1)) := at_add b6 at_c
          refine q_pairAsg b8 b7 fun t ht => ?_
          have y8 : Ext [] F7 H7 F7 (upd H7 t (.tup [.str ⟨#[p2]⟩, .str ⟨#[p1]⟩])) := Ext.newM y7.s ht
          have o8 := o7.ext0 y8
          refine g_swap (i := i) (j := i + 1) upd_same b4 b6 o8.h (by rw [chV_len]; omega) (fun _ => b4) (fun _ => b61) (by rw [chV_len]; omega) ?_
          have y10 := o8.set (u := .lst (((chV (xl ++ p1 :: p2 :: yl)).set i (.str ⟨#[p2]⟩)).set (i + 1) (.str ⟨#[p1]⟩))) y8.s
          subst hxl
          rw [swap_set] at y10 ⊢
          refine s_asg (d := .bl false) y10.s E8 (ev_c (.bl _)) fun F9 H9 σ9 y11 E9 => nx F9 H9 _ _ (((y7.tr y8).tr y10).tl y11) E9 ⟨xl ++ p2 :: p1 :: yl, false, _, _, _, _, rfl, (⟨o8.f, upd_same⟩ : Own _ _ _ _).ext0 y11, ?_, ?_, (fun z => nomatch z), fun _ => ?_⟩
          · rw [← hr5]; exact (runs_swap w1 w2 w3 yl xl []).symm
          · rw [← hl5]; simp
          · have h1 := inv_swap hwr (wrong_anti hwr) yl xl
            cases rd with
            | true =>
              have := (hc5 rfl).2
              rw [← this]; omega
            | false => have := hv5 rfl; omega
        · intro hwr F7 H7 y7
          refine nx F7 H7 _ _ (y7.wide (by simp)) (E7.up y7.f) ⟨xl ++ p1 :: p2 :: yl, rd, _, _, _, _, rfl, o6.ext0 y7, hr5, hl5, fun z => ⟨?_, (hc5 z).2⟩, hv5⟩
          have h1 := (hc5 z).1
          subst hxl
          have t1 : (xl ++ p1 :: p2 :: yl).take (xl.length + 1) = xl ++ [p1] := by
            rw [List.take_append, List.take_of_length_le (by omega)]; simp
          have t2 : (xl ++ p1 :: p2 :: yl).take (xl.length + 1 + 1) = xl ++ [p1, p2] := by
            rw [List.take_append]; simp [show xl.length + 1 + 1 - xl.length = 2 by omega, List.take_of_length_le (show xl.length ≤ xl.length + 1 + 1 by omega)]
          rw [t1] at h1
          rw [t2]
          exact calm_snoc hwr xl h1
      · rintro F5 H5 r' σ5 y5 E5 ⟨L', rd, a, b, c, e, rfl, o5, hr5, hl5, hc5, hv5⟩
        refine ⟨F5, L', rd, a, b, c, e, y4.tr y5, o5, E5, hr5, hl5, fun z => ?_, hv5⟩
        obtain ⟨h1, h2⟩ := hc5 z
        refine ⟨?_, h2⟩
        rw [List.length_map, List.length_range, List.take_of_length_le (by rw [h2]; omega)] at h1
        exact h1
  | true =>
    have cal := hc rfl
    have eL : L = key fo ma l := by
      have := runs_calm ok.okMa L [] (by simp) (by simpa using cal)
      rw [← hr, this]; rfl
    subst eL
    have o3 := o.ext0 y3
    have xx : Ext [] F H F3 H3 := Ext.drop ((x1.tr x2).tr x3) (y.tl y3) (by intro a ha; simp at ha; subst ha; exact .inr hpH)
    have z1 := Ext.freeze xx hpH o3.h o3.f
    have g1 : Same F3 (upd F3 p (.lst (chV (key fo ma l)))) := same_new o3.f
    have E3 := (E'.up y3.f).up g1
    obtain ⟨o1, h1, h2⟩ := E3.get (i := 4) rfl
    have h2 : o1 = some (.ref p) := h2
    subst h2
    have ev4 : EvD K (tVar 4) σ' (upd F3 p (.lst (chV (key fo ma l)))) (.lst (chs (key fo ma l))) := fun H s Q q => ⟨_, h1, q _ _ H (Ext.refl s) (.lst upd_same (den_chV _))⟩
    exact s_ret z1.s (ev_joinC (ev_c (.str _)) ev4 rfl (by rw [hl]; omega)) fun v F4 H4 y4 dv => k v F4 H4 (z1.tr y4) dv
end
end Nm

set_option Elab.async false
set_option linter.all false
set_option maxRecDepth 100000
set_option maxHeartbeats 400000
namespace Nm
open PySem PySem.Spec L2
local macro_rules | `(tactic| walk_at "ev") => `(tactic| first
  | (with_reducible apply ev_var; assumption; with_unfolding_all rfl)
  | (with_reducible apply ev_c; first | with_reducible exact Den.int _ | with_reducible exact Den.str _ | with_reducible exact Den.bl _ | with_reducible exact Den.non | with_reducible exact Den.ty _)
  | with_reducible exact ea_nil
  | (with_reducible apply ea_cons; walk_at "ev"; walk_at "ev")
  | (with_reducible apply ev_op; walk_at "ev"; walk_at "ev"; walk_at "rv")
  | (with_reducible apply ev_cb; walk_at "ev"; walk_at "rv")
  | (with_reducible apply ev_lst; walk_at "ev"; walk_at "sz")
  | (with_reducible apply ev_tup; walk_at "ev"; walk_at "sz")
  | (with_reducible apply ev_un; walk_at "ev"; walk_at "rv")
  | (with_reducible apply ev_chainU; walk_at "ev"; walk_at "ev"; walk_at "rv"; walk_at "ev"; walk_at "rv")
  | with_reducible exact ev_dnew
  | with_reducible exact ev_disp1 (fun _ => Den.str _)
  | (with_reducible apply et_test; walk_at "ev")
  | (with_reducible apply et_B; walk_at "ev")
  | (with_reducible apply et_not; walk_at "ev")
  | (with_reducible apply ev_not; walk_at "ev")
  | (with_reducible apply ev_sl_str; walk_at "ev"; walk_at "ev"; walk_at "ev"; walk_at "sz")
  | (with_reducible apply eo_some; walk_at "ev")
  | with_reducible exact eo_none)
local macro_rules | `(tactic| walk_at "rv") => `(tactic| first
  | with_reducible exact rv_add_int | (with_reducible apply rv_add_str; walk_at "sz") | (with_reducible apply rv_add_lst; walk_at "sz")
  | with_reducible exact rv_lt_int | with_reducible exact rv_le_int | with_reducible exact rv_gt_int | with_reducible exact rv_ge_int
  | with_reducible exact rvA_eq_int | with_reducible exact rvA_eq_str | with_reducible exact rvA_ne_int | with_reducible exact rvA_ne_str
  | (with_reducible apply rv_mul_int; walk_at "mul")
  | with_reducible exact rv_in_sign | (with_reducible apply rc_len_str; walk_at "sz") | with_reducible exact rc_len_lst | with_reducible exact rc_len_tup
  | with_reducible exact rc_abs | with_reducible exact rc_max2 | with_reducible exact rc_min2
  | with_reducible exact rc_all | with_reducible exact rc_any | with_reducible exact ru_neg
  | (with_reducible apply rc_isiA; with_unfolding_all rfl; decide +kernel)
  | (with_reducible apply rv_ix_lst; with_unfolding_all rfl) | (with_reducible apply rv_ix_tup; with_unfolding_all rfl)
  | (with_reducible apply rv_I; first | walk_at "sd" | (unfold CPow; decide) | (unfold CDiv; first | decide | omega)))
local macro_rules | `(tactic| walk_at "sz") => `(tactic| first | assumption | (rw [sizeLine_eq]; omega) | (rw [sizeLine_eq]; decide) | (simp [sizeLine_eq]; done))
local macro_rules | `(tactic| walk_at "sd") => `(tactic| first | assumption | omega | decide)
local macro_rules | `(tactic| walk_at "mul") => `(tactic| first | exact Or.inl ⟨by omega, by omega⟩ | exact Or.inr ⟨by omega, by omega⟩)
/-! ### exchanges: readings -/
def R_put (ds : List D) (d : D) : Prop := ∃ l i m w, l.length ≤ 100000 ∧ w.length ≤ 100000 ∧ ds = [txt l, .int (i : Nat), .int (m : Nat), txt w] ∧ d = txt (put l i m w)
def R_folds (C : Addr) (ds : List D) (d : D) : Prop := ∃ fo ma, ds = [tabD C fo ma] ∧ d = foD fo
def R_marks (C : Addr) (ds : List D) (d : D) : Prop := ∃ fo ma, ds = [tabD C fo ma] ∧ d = maD ma
def R_by_folds (ds : List D) (d : D) : Prop := ∃ fo l, (∀ p ∈ fo, p.2.length ≤ 3) ∧ fo.length ≤ 40 ∧ l.length ≤ 1000 ∧ ds = [foD fo, txt l] ∧ d = .lst ((byF fo l).map txt)
def R_by_marks (ds : List D) (d : D) : Prop := ∃ ma l, l.length ≤ 1000 ∧ ds = [maD ma, txt l] ∧ d = .lst ((byM ma l).map txt)
def R_exchanges (C : Addr) (ds es : List D) : Prop := ∃ fo ma l, okTab isSignC fo ma ∧ l.length ≤ 1000 ∧ (byF fo l).length + (byM ma l).length < 4000 ∧ ds = [tabD C fo ma, txt l] ∧ es = (exs fo ma l).map txt
section
variable {K : PySem.W.Frag} {vs : List V} {H : Hp} {Q : VK} {E : XK}
theorem rd_put (h : spR K 4 R_put vs H Q E) : t_put K { nx := fun _ H' => Q .non H', rt := Q } (start N_put vs) H := by
  obtain ⟨F, v, w, u, t, x, y, z, q, d, rfl, S, hv, hw, hu, ht, ⟨l, i, m, wd, h1, h2, e, rfl⟩, k⟩ := spR4 h
  cases e
  have E1 : EnvD K F [.d (txt l), .d (.int (i : Nat)), .d (.int (m : Nat)), .d (txt wd)] (start N_put [v, w, u, t]) := .cons ⟨v, rfl, hv⟩ (.cons ⟨w, rfl, hw⟩ (.cons ⟨u, rfl, hu⟩ (.cons ⟨t, rfl, ht⟩ .nil)))
  have a1 : (l.take i).length ≤ l.length := by rw [List.length_take]; omega
  have a2 : (l.drop (i + m)).length ≤ l.length := by rw [List.length_drop]; omega
  exact s_ret S (ev_catT (ev_catT (ev_takeT (ev_var (i := 0) E1 rfl) (ev_var (i := 1) E1 rfl) (by omega)) (ev_var (i := 3) E1 rfl) (by omega)) (ev_dropT (ev_var (i := 0) E1 rfl) (ev_addN (ev_var (i := 1) E1 rfl) (ev_var (i := 2) E1 rfl)) (by omega)) (by rw [List.length_append]; omega)) k
theorem rd_Table_folds {C : Addr} (c : Cls K C) (na : NoAttr K C "rule") (h : spR K 1 (R_folds C) vs H Q E) : t_Table_folds K { nx := fun _ H' => Q .non H', rt := Q } (start N_Table_folds vs) H := by
  obtain ⟨F, v, x, d, rfl, S, hv, ⟨fo, ma, e, rfl⟩, k⟩ := spR1 h
  cases e
  have E1 : EnvD K F [.d (tabD C fo ma)] (start N_Table_folds [v]) := .cons ⟨v, rfl, hv⟩ .nil
  exact s_ret S (ev_dict (es := foE fo) (ea_cons (ev_op (d := foD fo) (ev_fld (d := ruleD fo ma) c na (ev_var (i := 0) E1 rfl) rfl) (ev_c (.int 0)) (rv_ix_tup rfl)) ea_nil)) k
theorem rd_Table_marks {C : Addr} (c : Cls K C) (na : NoAttr K C "rule") (h : spR K 1 (R_marks C) vs H Q E) : t_Table_marks K { nx := fun _ H' => Q .non H', rt := Q } (start N_Table_marks vs) H := by
  obtain ⟨F, v, x, d, rfl, S, hv, ⟨fo, ma, e, rfl⟩, k⟩ := spR1 h
  cases e
  have E1 : EnvD K F [.d (tabD C fo ma)] (start N_Table_marks [v]) := .cons ⟨v, rfl, hv⟩ .nil
  exact s_ret S (ev_dict (es := maE ma) (ea_cons (ev_op (d := maD ma) (ev_fld (d := ruleD fo ma) c na (ev_var (i := 0) E1 rfl) rfl) (ev_c (.int 1)) (rv_ix_tup rfl)) ea_nil)) k
theorem range_get {n i : Nat} {f : Nat → D} {d : D} (h : ((List.range n).map f)[i]? = some d) : i < n ∧ d = f i := by
  rw [List.getElem?_map] at h
  obtain ⟨m, h1, h2⟩ := Option.map_eq_some_iff.mp h
  have h3 := (List.getElem?_eq_some_iff.mp h1).1
  have e := (List.getElem?_eq_some_iff.mp h1).2
  rw [List.getElem_range] at e
  rw [List.length_range] at h3
  subst e
  exact ⟨h3, h2.symm⟩
theorem rd_by_folds (h : spR K 2 R_by_folds vs H Q E) : t_by_folds K (spR K 4 R_put) { nx := fun _ H' => Q .non H', rt := Q } (start N_by_folds vs) H := by
  obtain ⟨F, v, w, x, y, d, rfl, S, hv, hw, ⟨fo, l, hf, hfl, hl, e, rfl⟩, k⟩ := spR2 h
  cases e
  have E1 : EnvD K F [.d (foD fo), .d (txt l), .u, .u, .u, .u, .u] (start N_by_folds [v, w]) := .cons ⟨v, rfl, hv⟩ (.cons ⟨w, rfl, hw⟩ (.cons trivial (.cons trivial (.cons trivial (.cons trivial (.cons trivial .nil))))))
  refine q_new S E1 fun p H1 σ1 hp x1 o1 E1 => ?_
  have E1 : EnvD K F [.d (foD fo), .d (txt l), .v (.ref p), .u, .u, .u, .u] σ1 := E1
  have big : ∀ i, i < l.length → ∀ n, n ≤ i * (fo.length + 1) + (fo.length + 1) → n < 100000 := fun i hi n hn => by
    have : i * (fo.length + 1) ≤ 1000 * 41 := Nat.mul_le_mul (by omega) (by omega)
    omega
  refine q_forW [p] (fun i F' H' r => ∃ a3 a4 a5 a6, r = [.d (foD fo), .d (txt l), .v (.ref p), a3, a4, a5, a6] ∧ Own F' H' p (.lst (((List.range i).flatMap (byFat fo l)).map tv))) (fun d r => match d with | .tup [a, b] => (r.set 3 (.d a)).set 4 (.d b) | _ => r)
    x1.s E1 (ei_enumS (l := l) (ea_cons (ev_var (i := 1) E1 rfl) ea_nil) rfl) ?_ (fun F' H' x => ⟨_, _, _, _, rfl, o1.ext0 x⟩) ?_ ?_
  · intro d hd
    obtain ⟨i, hi, rfl⟩ := List.mem_map.mp hd
    exact tg_two
  · rintro i d F2 H2 r' σ2 N hd x2 ⟨F0, H0, ⟨a3, a4, a5, a6, rfl, o0⟩, x0⟩ E2 kN
    obtain ⟨hi, rfl⟩ := range_get hd
    have o2 := o0.ext0 x0
    have E2 : EnvD K F2 [.d (foD fo), .d (txt l), .v (.ref p), .d (.int (i : Nat)), .d (txt [l.getD i 0]), a5, a6] σ2 := E2
    have len0 : ((List.range i).flatMap (byFat fo l)).length ≤ i * (fo.length + 1) := by
      have := flatMap_len (byFat fo l) (fo.length + 1) (List.range i) fun i _ => byFat_len fo l i
      rw [List.length_range] at this
      exact this
    -- the loop over the folds, behind the first if
    have rest : ∀ F3 H3 (ws : List (List Nat)), Ext [p] F2 H2 F3 H3 → ws.length ≤ i * (fo.length + 1) + 1 → ws = (List.range i).flatMap (byFat fo l) ++ (match lk fo (l.getD i 0) with | some w => [put l i 1 w] | none => []) → Own F3 H3 p (.lst (ws.map tv)) → EnvD K F3 [.d (foD fo), .d (txt l), .v (.ref p), .d (.int (i : Nat)), .d (txt [l.getD i 0]), a5, a6] σ2 →
        tFor (iItems (tVar 0)) (gTup K 2 (gCons (gName 5) (gCons (gName 6) gNil))) (tIfS (tTest (tOp (rEqA K) (L2.tSl (rSlAny K) (tVar 1) (tSome (tVar 3)) (tSome (tOp (rAddA K) (tVar 3) (tCB (rLenA K) (tCons (tVar 6) tNil))))) (tVar 6))) (tDrop (tBM K "list" rAppend (tVar 2) (tCons (tCall (spR K 4 R_put) [] E0 (tCons (tVar 1) (tCons (tVar 3) (tCons (tCB (rLenA K) (tCons (tVar 6) tNil)) (tCons (tVar 5) tNil))))) tNil))) tNext) { nx := N, rt := Q, bk := (tRet (tVar 2)) { nx := fun _ H' => Q .non H', rt := Q }, ct := N } σ2 H3 := by
      intro F3 H3 ws x3 hws ews o3 E3
      refine s_forW [p] (fun j F' H' r => ∃ a5 a6, r = [.d (foD fo), .d (txt l), .v (.ref p), .d (.int (i : Nat)), .d (txt [l.getD i 0]), a5, a6] ∧ Own F' H' p (.lst ((ws ++ ((fo.take j).filter fun q => decide ((l.drop i).take q.2.length = q.2)).map fun q => put l i q.2.length [q.1]).map tv))) (fun d r => match d with | .tup [a, b] => (r.set 5 (.d a)).set 6 (.d b) | _ => r)
        x3.s E3 (ei_items (es := foE fo) (ev_var (i := 0) E3 rfl)) ?_ (fun F' H' x => ⟨_, _, rfl, by simpa using o3.ext0 x⟩) ?_ ?_
      · intro d hd
        obtain ⟨q, hq, rfl⟩ := List.mem_map.mp hd
        exact tg_two
      · rintro j d F4 H4 r' σ4 N2 hd x4 ⟨F00, H00, ⟨b5, b6, rfl, o00⟩, x00⟩ E4 kN2
        unfold foE at hd
        rw [List.map_map, List.getElem?_map] at hd
        obtain ⟨q, hq, rfl⟩ := Option.map_eq_some_iff.mp hd
        have hqm : q ∈ fo := List.mem_of_getElem? hq
        have hjl : j < fo.length := (List.getElem?_eq_some_iff.mp hq).1
        have o4 := o00.ext0 x00
        have E4 : EnvD K F4 [.d (foD fo), .d (txt l), .v (.ref p), .d (.int (i : Nat)), .d (txt [l.getD i 0]), .d (txt [q.1]), .d (txt q.2)] σ4 := E4
        have q3 := hf q hqm
        have len4 : (ws ++ ((fo.take j).filter fun q => decide ((l.drop i).take q.2.length = q.2)).map fun q => put l i q.2.length [q.1]).length < 100000 := by
          rw [List.length_append, List.length_map]
          have := filt_len (fun q : Nat × List Nat => decide ((l.drop i).take q.2.length = q.2)) (fo.take j)
          have := List.length_take_le j fo
          have := big i hi (ws.length + j) (by omega)
          rw [List.length_take] at *
          omega
        have lenE : ∀ {F' : Hp} {σ' : L2.St}, EnvD K F' [.d (foD fo), .d (txt l), .v (.ref p), .d (.int (i : Nat)), .d (txt [l.getD i 0]), .d (txt [q.1]), .d (txt q.2)] σ' → EvD K (tCB (rLenA K) (tCons (tVar 6) tNil)) σ' F' (.int (q.2.length : Nat)) := fun E' => ev_lenT (ev_var (i := 6) E' rfl) (by omega)
        have e1 : (i + q.2.length) - i = q.2.length := by omega
        refine s_if (K := K) (b := decide ((l.drop i).take q.2.length = q.2)) x4.s (et_is (et_eqT (ev_subT (ev_var (i := 1) E4 rfl) (ev_var (i := 3) E4 rfl) (ev_addN (ev_var (i := 3) E4 rfl) (lenE E4)) (by omega)) (ev_var (i := 6) E4 rfl)) (by rw [e1])) ?_ ?_
        · intro hc F5 H5 x5
          refine s_appT x5.s (E4.up x5.f) rfl (o4.ext0 x5) (ev_callR (R := R_put) (ds := [txt l, .int (i : Nat), .int (q.2.length : Nat), txt [q.1]]) (ea_cons (ev_var (i := 1) (E4.up x5.f) rfl) (ea_cons (ev_var (i := 3) (E4.up x5.f) rfl) (ea_cons (lenE (E4.up x5.f)) (ea_cons (ev_var (i := 5) (E4.up x5.f) rfl) ea_nil)))) ⟨l, i, q.2.length, [q.1], by omega, by simp, rfl, rfl⟩ rfl) len4 fun F6 H6 x6 o6 E6 => ?_
          refine kN2 F6 H6 _ _ (x5.f.trans x6.f) (((x4.tl x5)).trans x6) E6 ⟨_, _, rfl, ?_⟩
          have eq : ws ++ ((fo.take (j + 1)).filter fun q => decide ((l.drop i).take q.2.length = q.2)).map (fun q => put l i q.2.length [q.1]) = (ws ++ ((fo.take j).filter fun q => decide ((l.drop i).take q.2.length = q.2)).map fun q => put l i q.2.length [q.1]) ++ [put l i q.2.length [q.1]] := by
            rw [take_succ' hq, List.filter_append, List.filter_cons, if_pos hc, List.map_append, List.append_assoc]
            rfl
          rw [eq]
          exact o6
        · intro hc F5 H5 x5
          refine kN2 F5 H5 _ _ x5.f (x4.tl x5) (E4.up x5.f) ⟨_, _, rfl, ?_⟩
          rw [take_succ' hq, List.filter_append, List.filter_cons, if_neg (by rw [hc]; decide)]
          simpa using o4.ext0 x5
      · rintro F4 H4 r' σ4 x4 E4 ⟨b5, b6, rfl, o4⟩
        have ln : ((foE fo).map fun e => D.tup [kD e.1, e.2]).length = fo.length := by unfold foE; rw [List.length_map, List.length_map]
        rw [ln, List.take_length] at o4
        refine kN F4 H4 _ _ (x3.f.trans x4.f) ((x2.trans x3).trans x4) E4 ⟨_, _, _, _, rfl, ?_⟩
        rw [List.range_succ, List.flatMap_append, List.flatMap_cons, List.flatMap_nil, List.append_nil]
        rw [ews, List.append_assoc] at o4
        exact o4
    refine q_if (K := K) (b := (lk fo (l.getD i 0)).isSome) x2.s (et_inFo (ev_var (i := 4) E2 rfl) (ev_var (i := 0) E2 rfl)) ?_ ?_
    · intro hc F3 H3 x3
      obtain ⟨wd, hwd⟩ := Option.isSome_iff_exists.mp hc
      have w3 := hf _ (lk_mem hwd)
      have w3 : wd.length ≤ 3 := w3
      refine s_appT x3.s (E2.up x3.f) rfl (o2.ext0 x3) (ev_callR (R := R_put) (ds := [txt l, .int (i : Nat), .int ((1 : Nat) : Int), txt wd]) (ea_cons (ev_var (i := 1) (E2.up x3.f) rfl) (ea_cons (ev_var (i := 3) (E2.up x3.f) rfl) (ea_cons (ev_c (.int 1)) (ea_cons (ev_ixFo (ev_var (i := 0) (E2.up x3.f) rfl) (ev_var (i := 4) (E2.up x3.f) rfl) hwd) ea_nil)))) ⟨l, i, 1, wd, by omega, by omega, rfl, rfl⟩ rfl) (big i hi _ (by omega)) fun F4 H4 x4 o4 E4 => ?_
      exact rest F4 H4 _ (x3.tr x4) (by rw [List.length_append]; simp only [List.length_cons, List.length_nil]; omega) (by rw [hwd]) o4 E4
    · intro hc F3 H3 x3
      have hn : lk fo (l.getD i 0) = none := by
        cases z : lk fo (l.getD i 0) with
        | none => rfl
        | some w => rw [z] at hc; cases hc
      exact rest F3 H3 ((List.range i).flatMap (byFat fo l)) (x3.wide (by simp)) (by omega) (by rw [hn]; simp) (o2.ext0 x3) (E2.up x3.f)
  · rintro F2 H2 r' σ2 x2 E2 ⟨a3, a4, a5, a6, rfl, o2⟩
    have ln : ((List.range l.length).map fun i => D.tup [.int (i : Nat), .str ⟨#[l.getD i 0]⟩]).length = l.length := by simp
    rw [ln] at o2
    have xx : Ext [] F H F2 H2 := Ext.drop x1 x2 (by intro a ha; simp at ha; subst ha; exact .inr hp)
    have z1 := Ext.freeze xx hp o2.h o2.f
    have g1 : Same F2 (upd F2 p (.lst ((byF fo l).map tv))) := same_new o2.f
    have E4 := (E2.up g1).seeV (i := 2) rfl (.lst upd_same (DenL.txts (byF fo l)))
    exact s_ret z1.s (ev_var (i := 2) E4 rfl) fun v F4 H4 y4 dv => k v F4 H4 (z1.tr y4) dv
theorem rd_by_marks (h : spR K 2 R_by_marks vs H Q E) : t_by_marks K (spR K 4 R_put) { nx := fun _ H' => Q .non H', rt := Q } (start N_by_marks vs) H := by
  obtain ⟨F, v, w, x, y, d, rfl, S, hv, hw, ⟨ma, l, hl, e, rfl⟩, k⟩ := spR2 h
  cases e
  have E1 : EnvD K F [.d (maD ma), .d (txt l), .u, .u, .u, .u, .u] (start N_by_marks [v, w]) := .cons ⟨v, rfl, hv⟩ (.cons ⟨w, rfl, hw⟩ (.cons trivial (.cons trivial (.cons trivial (.cons trivial (.cons trivial .nil))))))
  refine q_new S E1 fun p H1 σ1 hp x1 o1 E1 => ?_
  have E1 : EnvD K F [.d (maD ma), .d (txt l), .v (.ref p), .u, .u, .u, .u] σ1 := E1
  have mn : min l.length (l.drop 1).length = l.length - 1 := by rw [List.length_drop]; omega
  refine q_forW [p] (fun i F' H' r => ∃ a3 a4 a5 a6, r = [.d (maD ma), .d (txt l), .v (.ref p), a3, a4, a5, a6] ∧ Own F' H' p (.lst (((List.range i).flatMap (byMat ma l)).map tv))) (fun d r => match d with | .tup [a, b] => (r.set 3 (.d a)).set 4 (.d b) | _ => r)
    x1.s E1 (ei_enumZ (l := l) (m := l.drop 1) (ea_cons (ev_var (i := 1) E1 rfl) (ea_cons (ev_dropT (i := 1) (ev_var (i := 1) E1 rfl) (ev_c (.int 1)) (by omega)) ea_nil)) rfl rfl) ?_ (fun F' H' x => ⟨_, _, _, _, rfl, o1.ext0 x⟩) ?_ ?_
  · intro d hd
    obtain ⟨i, hi, rfl⟩ := List.mem_map.mp hd
    exact tg_two
  · rintro i d F2 H2 r' σ2 N hd x2 ⟨F0, H0, ⟨a3, a4, a5, a6, rfl, o0⟩, x0⟩ E2 kN
    obtain ⟨hi, rfl⟩ := range_get hd
    rw [mn] at hi
    have e2 : (l.drop 1).getD i 0 = l.getD (i + 1) 0 := by rw [List.getD_eq_getElem?_getD, List.getD_eq_getElem?_getD, List.getElem?_drop, Nat.add_comm]
    have o2 := o0.ext0 x0
    have len0 : ((List.range i).flatMap (byMat ma l)).length < 100000 := by
      have := flatMap_len (byMat ma l) 1 (List.range i) fun i _ => byMat_len ma l i
      rw [List.length_range] at this
      omega
    generalize ec : l.getD i 0 = c at *
    generalize ed : l.getD (i + 1) 0 = d at *
    rw [e2] at E2
    have E2 : EnvD K F2 [.d (maD ma), .d (txt l), .v (.ref p), .d (.int (i : Nat)), .d (.tup [txt [c], txt [d]]), a5, a6] σ2 := E2
    refine q_asgG (d := .tup [txt [c], txt [d]]) x2.s E2 (ev_var (i := 4) E2 rfl) tg_two fun F3 H3 σ3 x3 E3 => ?_
    have E3 : EnvD K F3 [.d (maD ma), .d (txt l), .v (.ref p), .d (.int (i : Nat)), .d (.tup [txt [c], txt [d]]), .d (txt [c]), .d (txt [d])] σ3 := E3
    refine s_if (K := K) (b := two ma c d) x3.s (et_and (et_inMa (ev_var (i := 5) E3 rfl) (ev_var (i := 0) E3 rfl)) fun h1 => et_and (et_inMa (ev_var (i := 6) E3 rfl) (ev_var (i := 0) E3 rfl)) fun h2 => ?_) ?_ ?_
    · obtain ⟨n1, g1⟩ := Option.isSome_iff_exists.mp h1
      obtain ⟨n2, g2⟩ := Option.isSome_iff_exists.mp h2
      refine et_is (et_neN (ev_ixMa (ev_var (i := 0) E3 rfl) (ev_var (i := 5) E3 rfl) g1) (ev_ixMa (ev_var (i := 0) E3 rfl) (ev_var (i := 6) E3 rfl) g2)) ?_
      rw [g1, g2]
      simp
    · intro hc F4 H4 x4
      refine s_appT x4.s (E3.up x4.f) rfl ((o2.ext0 x3).ext0 x4) (ev_callR (R := R_put) (ds := [txt l, .int (i : Nat), .int ((2 : Nat) : Int), txt ([d] ++ [c])]) (ea_cons (ev_var (i := 1) (E3.up x4.f) rfl) (ea_cons (ev_var (i := 3) (E3.up x4.f) rfl) (ea_cons (ev_c (.int 2)) (ea_cons (ev_catT (ev_var (i := 6) (E3.up x4.f) rfl) (ev_var (i := 5) (E3.up x4.f) rfl) (by simp)) ea_nil)))) ⟨l, i, 2, [d] ++ [c], by omega, by simp, rfl, rfl⟩ rfl) len0 fun F5 H5 x5 o5 E5 => ?_
      refine kN F5 H5 _ _ ((x3.f.trans x4.f).trans x5.f) (((x2.tl x3).tl x4).trans x5) E5 ⟨_, _, _, _, rfl, ?_⟩
      rw [List.range_succ, List.flatMap_append, List.flatMap_cons, List.flatMap_nil, List.append_nil]
      have : byMat ma l i = [put l i 2 ([d] ++ [c])] := by unfold byMat; rw [ec, ed, if_pos hc]; rfl
      rw [this]
      exact o5
    · intro hc F4 H4 x4
      refine kN F4 H4 _ _ (x3.f.trans x4.f) ((x2.tl x3).tl x4) (E3.up x4.f) ⟨_, _, _, _, rfl, ?_⟩
      rw [List.range_succ, List.flatMap_append, List.flatMap_cons, List.flatMap_nil, List.append_nil]
      have : byMat ma l i = [] := by unfold byMat; rw [ec, ed, if_neg (by rw [hc]; decide)]
      rw [this, List.append_nil]
      exact (o2.ext0 x3).ext0 x4
  · rintro F2 H2 r' σ2 x2 E2 ⟨a3, a4, a5, a6, rfl, o2⟩
    have ln : ((List.range (min l.length (l.drop 1).length)).map fun i => D.tup [.int (i : Nat), .tup [.str ⟨#[l.getD i 0]⟩, .str ⟨#[(l.drop 1).getD i 0]⟩]]).length = l.length - 1 := by rw [List.length_map, List.length_range, mn]
    rw [ln] at o2
    have xx : Ext [] F H F2 H2 := Ext.drop x1 x2 (by intro a ha; simp at ha; subst ha; exact .inr hp)
    have z1 := Ext.freeze xx hp o2.h o2.f
    have g1 : Same F2 (upd F2 p (.lst ((byM ma l).map tv))) := same_new o2.f
    have E4 := (E2.up g1).seeV (i := 2) rfl (.lst upd_same (DenL.txts (byM ma l)))
    exact s_ret z1.s (ev_var (i := 2) E4 rfl) fun v F4 H4 y4 dv => k v F4 H4 (z1.tr y4) dv
theorem map_txt (ws : List (List Nat)) : ws.map txt = (ws.map mkS).map D.str := by rw [List.map_map]; rfl
end
end Nm

set_option Elab.async false
set_option linter.all false
set_option maxRecDepth 100000
set_option maxHeartbeats 400000
namespace Nm
open PySem PySem.Spec L2
local macro_rules | `(tactic| walk_at "ev") => `(tactic| first
  | (with_reducible apply ev_var; assumption; with_unfolding_all rfl)
  | (with_reducible apply ev_c; first | with_reducible exact Den.int _ | with_reducible exact Den.str _ | with_reducible exact Den.bl _ | with_reducible exact Den.non | with_reducible exact Den.ty _)
  | with_reducible exact ea_nil
  | (with_reducible apply ea_cons; walk_at "ev"; walk_at "ev")
  | (with_reducible apply ev_op; walk_at "ev"; walk_at "ev"; walk_at "rv")
  | (with_reducible apply ev_cb; walk_at "ev"; walk_at "rv")
  | (with_reducible apply ev_lst; walk_at "ev"; walk_at "sz")
  | (with_reducible apply ev_tup; walk_at "ev"; walk_at "sz")
  | (with_reducible apply ev_un; walk_at "ev"; walk_at "rv")
  | (with_reducible apply ev_chainU; walk_at "ev"; walk_at "ev"; walk_at "rv"; walk_at "ev"; walk_at "rv")
  | with_reducible exact ev_dnew
  | with_reducible exact ev_disp1 (fun _ => Den.str _)
  | (with_reducible apply et_test; walk_at "ev")
  | (with_reducible apply et_B; walk_at "ev")
  | (with_reducible apply et_not; walk_at "ev")
  | (with_reducible apply ev_not; walk_at "ev")
  | (with_reducible apply ev_sl_str; walk_at "ev"; walk_at "ev"; walk_at "ev"; walk_at "sz")
  | (with_reducible apply eo_some; walk_at "ev")
  | with_reducible exact eo_none)
local macro_rules | `(tactic| walk_at "rv") => `(tactic| first
  | with_reducible exact rv_add_int | (with_reducible apply rv_add_str; walk_at "sz") | (with_reducible apply rv_add_lst; walk_at "sz")
  | with_reducible exact rv_lt_int | with_reducible exact rv_le_int | with_reducible exact rv_gt_int | with_reducible exact rv_ge_int
  | with_reducible exact rvA_eq_int | with_reducible exact rvA_eq_str | with_reducible exact rvA_ne_int | with_reducible exact rvA_ne_str
  | (with_reducible apply rv_mul_int; walk_at "mul")
  | with_reducible exact rv_in_sign | (with_reducible apply rc_len_str; walk_at "sz") | with_reducible exact rc_len_lst | with_reducible exact rc_len_tup
  | with_reducible exact rc_abs | with_reducible exact rc_max2 | with_reducible exact rc_min2
  | with_reducible exact rc_all | with_reducible exact rc_any | with_reducible exact ru_neg
  | (with_reducible apply rc_isiA; with_unfolding_all rfl; decide +kernel)
  | (with_reducible apply rv_ix_lst; with_unfolding_all rfl) | (with_reducible apply rv_ix_tup; with_unfolding_all rfl)
  | (with_reducible apply rv_I; first | walk_at "sd" | (unfold CPow; decide) | (unfold CDiv; first | decide | omega)))
local macro_rules | `(tactic| walk_at "sz") => `(tactic| first | assumption | (rw [sizeLine_eq]; omega) | (rw [sizeLine_eq]; decide) | (simp [sizeLine_eq]; done))
local macro_rules | `(tactic| walk_at "sd") => `(tactic| first | assumption | omega | decide)
local macro_rules | `(tactic| walk_at "mul") => `(tactic| first | exact Or.inl ⟨by omega, by omega⟩ | exact Or.inr ⟨by omega, by omega⟩)
section
variable {K : PySem.W.Frag} {vs : List V} {H : Hp} {Q : VK} {E : XK}
theorem rd_exchanges {C : Addr} {PG : Program} {W : World} (h : spFL K 2 (R_exchanges C) vs H Q E) : t_exchanges K PG W C (spR K 2 R_by_marks) (spR K 1 (R_marks C)) (spR K 2 R_by_folds) (spR K 1 (R_folds C)) { nx := fun _ H' => Q .non H', rt := Q } (start N_exchanges vs) H := by
  obtain ⟨F, ds, es, S, dl, ⟨fo, ma, l, ok, hl, hz, rfl, rfl⟩, k⟩ := spFL1 h
  obtain ⟨v, w, rfl, hv, hw⟩ : ∃ v w, vs = [v, w] ∧ Den K F v (tabD C fo ma) ∧ Den K F w (txt l) := by
    cases dl with
    | cons a t => cases t with
      | cons b t => cases t; exact ⟨_, _, rfl, a, b⟩
  have E1 : EnvD K F [.d (tabD C fo ma), .d (txt l)] (start N_exchanges [v, w]) := .cons ⟨v, rfl, hv⟩ (.cons ⟨w, rfl, hw⟩ .nil)
  refine s_retL S (el_is (el_sortset (ks := (byF fo l ++ byM ma l).map mkS) (ds := (byF fo l).map txt ++ ((byM ma l).map txt ++ [])) (ea_cons (ev_lst (ea_star_lst (ev_callR (R := R_by_folds) (ds := [foD fo, txt l]) (ea_cons (ev_prop (R := R_folds C) (ev_var (i := 0) E1 rfl) ⟨fo, ma, rfl, rfl⟩) (ea_cons (ev_var (i := 1) E1 rfl) ea_nil)) ⟨fo, l, fun p hp => (ok.fw p hp).2.1, ok.fl, hl, rfl, rfl⟩ rfl) (ea_star_lst (ev_callR (R := R_by_marks) (ds := [maD ma, txt l]) (ea_cons (ev_prop (R := R_marks C) (ev_var (i := 0) E1 rfl) ⟨fo, ma, rfl, rfl⟩) (ea_cons (ev_var (i := 1) E1 rfl) ea_nil)) ⟨ma, l, hl, rfl, rfl⟩ rfl) ea_nil)) ?_) ea_nil) ?_ ?_) ?_) k
  · rw [List.length_append, List.length_append, List.length_map, List.length_map, sizeLine_eq]; simp only [List.length_nil]; omega
  · rw [List.append_nil, ← List.map_append, map_txt]
  · rw [List.length_map, List.length_append]; exact hz
  · unfold exs
    rw [map_txt, setT_S]
end
end Nm

set_option Elab.async false
set_option linter.all false
set_option maxRecDepth 100000
set_option maxHeartbeats 400000
namespace Nm
open PySem PySem.Spec L2
local macro_rules | `(tactic| walk_at "ev") => `(tactic| first
  | (with_reducible apply ev_var; assumption; with_unfolding_all rfl)
  | (with_reducible apply ev_c; first | with_reducible exact Den.int _ | with_reducible exact Den.str _ | with_reducible exact Den.bl _ | with_reducible exact Den.non | with_reducible exact Den.ty _)
  | with_reducible exact ea_nil
  | (with_reducible apply ea_cons; walk_at "ev"; walk_at "ev")
  | (with_reducible apply ev_op; walk_at "ev"; walk_at "ev"; walk_at "rv")
  | (with_reducible apply ev_cb; walk_at "ev"; walk_at "rv")
  | (with_reducible apply ev_lst; walk_at "ev"; walk_at "sz")
  | (with_reducible apply ev_tup; walk_at "ev"; walk_at "sz")
  | (with_reducible apply ev_un; walk_at "ev"; walk_at "rv")
  | (with_reducible apply ev_chainU; walk_at "ev"; walk_at "ev"; walk_at "rv"; walk_at "ev"; walk_at "rv")
  | with_reducible exact ev_dnew
  | with_reducible exact ev_disp1 (fun _ => Den.str _)
  | (with_reducible apply et_test; walk_at "ev")
  | (with_reducible apply et_B; walk_at "ev")
  | (with_reducible apply et_not; walk_at "ev")
  | (with_reducible apply ev_not; walk_at "ev")
  | (with_reducible apply ev_sl_str; walk_at "ev"; walk_at "ev"; walk_at "ev"; walk_at "sz")
  | (with_reducible apply eo_some; walk_at "ev")
  | with_reducible exact eo_none)
local macro_rules | `(tactic| walk_at "rv") => `(tactic| first
  | with_reducible exact rv_add_int | (with_reducible apply rv_add_str; walk_at "sz") | (with_reducible apply rv_add_lst; walk_at "sz")
  | with_reducible exact rv_lt_int | with_reducible exact rv_le_int | with_reducible exact rv_gt_int | with_reducible exact rv_ge_int
  | with_reducible exact rvA_eq_int | with_reducible exact rvA_eq_str | with_reducible exact rvA_ne_int | with_reducible exact rvA_ne_str
  | (with_reducible apply rv_mul_int; walk_at "mul")
  | with_reducible exact rv_in_sign | (with_reducible apply rc_len_str; walk_at "sz") | with_reducible exact rc_len_lst | with_reducible exact rc_len_tup
  | with_reducible exact rc_abs | with_reducible exact rc_max2 | with_reducible exact rc_min2
  | with_reducible exact rc_all | with_reducible exact rc_any | with_reducible exact ru_neg
  | (with_reducible apply rc_isiA; with_unfolding_all rfl; decide +kernel)
  | (with_reducible apply rv_ix_lst; with_unfolding_all rfl) | (with_reducible apply rv_ix_tup; with_unfolding_all rfl)
  | (with_reducible apply rv_I; first | walk_at "sd" | (unfold CPow; decide) | (unfold CDiv; first | decide | omega)))
local macro_rules | `(tactic| walk_at "sz") => `(tactic| first | assumption | (rw [sizeLine_eq]; omega) | (rw [sizeLine_eq]; decide) | (simp [sizeLine_eq]; done))
local macro_rules | `(tactic| walk_at "sd") => `(tactic| first | assumption | omega | decide)
local macro_rules | `(tactic| walk_at "mul") => `(tactic| first | exact Or.inl ⟨by omega, by omega⟩ | exact Or.inr ⟨by omega, by omega⟩)
/-! ### words in order, groups, the least pair -/
def R_word_order (ds : List D) (d : D) : Prop := ∃ w, w.length ≤ 100000 ∧ ds = [txt w] ∧ d = keyD w
def grpD (fo : Fo) (ma : Ma) (ws : List (List Nat)) : List (List D) := (grpK (key fo ma) (sortW ws)).map (·.2)
def okNames (ws : List (List Nat)) : Prop := ws.length ≤ 1000 ∧ ∀ w ∈ ws, (∀ c ∈ w, isSignC c = true) ∧ w.length ≤ 3000
def R_groups (C : Addr) (ds : List D) (gs : List (List D)) : Prop := ∃ fo ma ws, okTab isSignC fo ma ∧ okNames ws ∧ ds = [tabD C fo ma, .lst (ws.map txt)] ∧ gs = grpD fo ma ws
def barD (gs : List (List D)) : D := match gs.filter (fun g => decide (1 < g.length)) with
  | (a :: b :: _) :: _ => .tup [a, b]
  | _ => .non
def R_bar (C : Addr) (ds : List D) (d : D) : Prop := ∃ fo ma ws, okTab isSignC fo ma ∧ okNames ws ∧ ds = [tabD C fo ma, .lst (ws.map txt)] ∧ d = barD (grpD fo ma ws)
theorem addK_all {P : List D → Prop} (k : Str) (d : D) (h1 : P [d]) (h2 : ∀ g, P g → P (g ++ [d])) : ∀ gs : List (Str × List D), (∀ g ∈ gs, P g.2) → ∀ g ∈ addK gs k d, P g.2
  | [], _ => by simpa [addK] using h1
  | g :: gs, h => by
    have ih := addK_all k d h1 h2 gs fun y hy => h y (List.mem_cons_of_mem _ hy)
    intro y hy
    unfold addK at hy
    split at hy
    · rcases List.mem_cons.mp hy with rfl | hy
      · exact h2 _ (h g (by simp))
      · exact h y (List.mem_cons_of_mem _ hy)
    · rcases List.mem_cons.mp hy with rfl | hy
      · exact h _ (by simp)
      · exact ih y hy
theorem grpK_all {f : List Nat → List Nat} {ws : List (List Nat)} {P : List Nat → Prop} (h : ∀ w ∈ ws, P w) : ∀ g ∈ grpK f ws, ∃ us : List (List Nat), g.2 = us.map txt ∧ us ≠ [] ∧ ∀ u ∈ us, P u := by
  have go : ∀ (ws : List (List Nat)) (gs : List (Str × List D)), (∀ w ∈ ws, P w) → (∀ g ∈ gs, ∃ us : List (List Nat), g.2 = us.map txt ∧ us ≠ [] ∧ ∀ u ∈ us, P u) → ∀ g ∈ ws.foldl (fun gs w => addK gs (mkS (f w)) (txt w)) gs, ∃ us : List (List Nat), g.2 = us.map txt ∧ us ≠ [] ∧ ∀ u ∈ us, P u := by
    intro ws
    induction ws with
    | nil => intro gs _ h2; exact h2
    | cons w ws ih =>
      intro gs h1 h2
      refine ih _ (fun x hx => h1 x (List.mem_cons_of_mem _ hx)) ?_
      refine addK_all (P := fun l => ∃ us : List (List Nat), l = us.map txt ∧ us ≠ [] ∧ ∀ u ∈ us, P u) _ _ ⟨[w], rfl, by simp, fun u hu => ?_⟩ (fun g hg => ?_) gs h2
      · rcases List.mem_singleton.mp hu with rfl
        exact h1 _ (by simp)
      · obtain ⟨us, rfl, _, h4⟩ := hg
        refine ⟨us ++ [w], by simp, by simp, fun u hu => ?_⟩
        rcases List.mem_append.mp hu with hu | hu
        · exact h4 u hu
        · rcases List.mem_singleton.mp hu with rfl
          exact h1 _ (by simp)
  exact go ws [] h (by simp)
theorem okNames_sort {ws : List (List Nat)} (h : okNames ws) : okNames (sortW ws) := ⟨by rw [(sortW_perm ws).length_eq]; exact h.1, fun w hw => h.2 w ((sortW_perm ws).subset hw)⟩
theorem grpD_all {fo : Fo} {ma : Ma} {ws : List (List Nat)} (h : okNames ws) : ∀ g ∈ grpD fo ma ws, ∃ us : List (List Nat), g = us.map txt ∧ us ≠ [] ∧ us.length ≤ 1000 ∧ ∀ u ∈ us, (∀ c ∈ u, isSignC c = true) ∧ u.length ≤ 3000 := by
  intro g hg
  obtain ⟨x, hx, rfl⟩ := List.mem_map.mp hg
  obtain ⟨us, e, h1, h2⟩ := grpK_all (f := key fo ma) (P := fun u => (∀ c ∈ u, isSignC c = true) ∧ u.length ≤ 3000) (okNames_sort h).2 x hx
  have := (grpK_len (key fo ma) (sortW ws)).2 x hx
  rw [e, List.length_map] at this
  exact ⟨us, e, h1, Nat.le_trans this (okNames_sort h).1, h2⟩
theorem grpD_len {fo : Fo} {ma : Ma} {ws : List (List Nat)} (h : okNames ws) : (grpD fo ma ws).length ≤ 1000 := by
  unfold grpD
  rw [List.length_map]
  exact Nat.le_trans (grpK_len _ _).1 (okNames_sort h).1
theorem grpD_rev {fo : Fo} {ma : Ma} {ws : List (List Nat)} : grpD fo ma ws.reverse = grpD fo ma ws := by
  unfold grpD
  rw [sortW_rev]
theorem sgn_lt {c : Nat} (h : isSignC c = true) : c < 1114112 := by
  have : ∀ c ∈ allS.cps.toList, c < 1114112 := by decide +kernel
  exact this c (of_decide_eq_true h)
theorem lol_txt : ∀ {gs : List (List D)}, (∀ g ∈ gs, ∃ us : List (List Nat), g = us.map txt ∧ ∀ u ∈ us, ∀ c ∈ u, isSignC c = true) → txtDL (gs.map D.lst) = true ∧ dpL (gs.map D.lst) ≤ 1
  | [], _ => ⟨rfl, by simp [dpL]⟩
  | g :: gs, h => by
    obtain ⟨us, rfl, hu⟩ := h g (by simp)
    have ih := lol_txt fun y hy => h y (List.mem_cons_of_mem _ hy)
    have t := txts_ok (ws := us) fun w hw c hc => sgn_lt (hu w hw c hc)
    refine ⟨?_, ?_⟩
    · rw [List.map_cons, txtDL_cons, ih.1, Bool.and_true]
      unfold txtD
      exact t.1
    · rw [List.map_cons]
      unfold dpL dp
      rw [t.2]
      have := ih.2
      omega
section
variable {K : PySem.W.Frag} {vs : List V} {H : Hp} {Q : VK} {E : XK}
theorem rd_word_order (h : spR K 1 R_word_order vs H Q E) : t_word_order K { nx := fun _ H' => Q .non H', rt := Q } (start N_word_order vs) H := by
  obtain ⟨F, v, x, d, rfl, S, hv, ⟨w, hw, e, rfl⟩, k⟩ := spR1 h
  cases e
  have E1 : EnvD K F [.d (txt w)] (start N_word_order [v]) := .cons ⟨v, rfl, hv⟩ .nil
  have hl : (⟨w.toArray⟩ : Str).length = w.length := by rw [txt_len]
  refine s_ret S ?_ k
  refine ev_is (ev_tup (as := [.int (w.length : Nat), txt w]) (ea_cons (ev_is (ev_cb (ea_cons (ev_var E1 rfl) ea_nil) (rc_len_str (z := ⟨w.toArray⟩) (by rw [hl, sizeLine_eq]; omega))) (by rw [hl])) (ea_cons (ev_var E1 rfl) ea_nil)) (by rw [sizeLine_eq]; simp)) rfl
theorem spKey_order {w : List Nat} (h : w.length ≤ 100000) : SpKey K (spR K 1 R_word_order) w := fun F' H' S Q' q => ⟨F', [txt w], keyD w, S, .cons (.str _) .nil, ⟨w, h, rfl, rfl⟩, rfl, q⟩
theorem rd_groups {C ad : Addr} (c : Cls K C) (na : NoAttr K C "rule") (h : spLol K 2 (R_groups C) vs H Q E) : t_groups K ad (spR K 1 R_word_order) (spR K 2 R_key_of) { nx := fun _ H' => Q .non H', rt := Q } (start N_groups vs) H := by
  obtain ⟨F, ds, gs, S, dl, ⟨fo, ma, ws, ok, on, rfl, rfl⟩, _, k⟩ := h
  obtain ⟨v, w, rfl, hv, hw⟩ : ∃ v w, vs = [v, w] ∧ Den K F v (tabD C fo ma) ∧ Den K F w (.lst (ws.map txt)) := by
    cases dl with
    | cons a t => cases t with
      | cons b t => cases t; exact ⟨_, _, rfl, a, b⟩
  have E1 : EnvD K F [.d (tabD C fo ma), .d (.lst (ws.map txt)), .u, .u] (start N_groups [v, w]) := .cons ⟨v, rfl, hv⟩ (.cons ⟨w, rfl, hw⟩ (.cons trivial (.cons trivial .nil)))
  have os := okNames_sort on
  refine q_asgNewK S E1 fun p σ1 hp gp x1 E2 => ?_
  refine s_forX (DE := { nx := (tRet (tListVals (tVar 2))) { nx := fun _ H' => Q .non H', rt := Q }, rt := Q }) (fun i F' H' r' => ∃ rows a, r' = [.d (tabD C fo ma), .d (.lst (ws.map txt)), .v (.ref p), a] ∧ Ext [] F H F' H' ∧ GrpAt K H F' H' p rows (grpK (key fo ma) ((sortW ws).take i))) (items := (sortW ws).map txt) _ x1.s E2
    (ei_lst (el_sortG (ev_var E2 rfl) fun w hw => spKey_order (by have := (on.2 w hw).2; omega)).toD) (fun _ _ => tg_name) (fun F' H' x => ⟨[], _, rfl, x1.tr x, gp.ext x⟩) (fun _ _ _ _ ⟨_, _, _, x, _⟩ => x.s) ?_ ?_
  · rintro i d F2 H2 F3 H3 r' σ' N hd _ ⟨rows, a, rfl, x, g⟩ x3 E3 n
    rw [List.getElem?_map] at hd
    obtain ⟨u, hu, rfl⟩ := Option.map_eq_some_iff.mp hd
    obtain ⟨hs, hl⟩ := os.2 u (List.mem_of_getElem? hu)
    have E3' : EnvD K F3 [.d (tabD C fo ma), .d (.lst (ws.map txt)), .v (.ref p), .d (txt u)] σ' := E3
    have b := grpK_len (key fo ma) ((sortW ws).take i)
    have bl : ((sortW ws).take i).length ≤ 1000 := by rw [List.length_take]; have := os.1; omega
    refine s_setd x3.s E3' rfl (x.tl x3) (g.ext x3) (ev_callR (R := R_key_of) (ds := [ruleD fo ma, txt u]) (ea_cons (ev_fld (d := ruleD fo ma) c na (ev_var (i := 0) E3' rfl) rfl) (ea_cons (ev_var (i := 3) E3' rfl) ea_nil)) ⟨fo, ma, u, ok, hs, hl, rfl, rfl⟩ rfl) (ev_var (i := 3) E3' rfl) (by omega) (fun y hy => by have := b.2 y hy; omega) fun rows' F4 H4 x4 e4 g4 _ => ?_
    refine n F4 H4 _ _ e4 (E3'.up e4) ⟨rows', _, rfl, x4, ?_⟩
    rw [grpK_snoc hu]
    exact g4
  · rintro F2 H2 r' σ' _ E3 ⟨rows, a, rfl, x, g⟩
    rw [List.length_map, List.take_length] at g
    exact s_retVals E3 rfl x g fun q rows F' H' x' w' _ => k q rows F' H' x' w'
theorem rd_bar {C : Addr} (h : spR K 2 (R_bar C) vs H Q E) : t_bar K (spLol K 2 (R_groups C)) { nx := fun _ H' => Q .non H', rt := Q } (start N_bar vs) H := by
  obtain ⟨F, v, w, x, y, d, rfl, S, hv, hw, ⟨fo, ma, ws, ok, on, e, rfl⟩, k⟩ := spR2 h
  cases e
  have E1 : EnvD K F [.d (tabD C fo ma), .d (.lst (ws.map txt)), .u, .u] (start N_bar [v, w]) := .cons ⟨v, rfl, hv⟩ (.cons ⟨w, rfl, hw⟩ (.cons trivial (.cons trivial .nil)))
  let big : D → Bool := fun d => match d with | .lst g => decide (1 < g.length) | _ => false
  have fe : (((grpD fo ma ws).map D.lst).filter big).map (fun x => x) = ((grpD fo ma ws).filter fun g => decide (1 < g.length)).map D.lst := by
    rw [List.map_id', List.filter_map]
    rfl
  refine q_asg (d := .lst (((grpD fo ma ws).filter fun g => decide (1 < g.length)).map D.lst)) S E1 (ev_is (ev_lcIf (f := fun x => x) (p := big) E1 (ei_lst (ev_callL (R := R_groups C) (ds := [tabD C fo ma, .lst (ws.map txt)]) (ea_cons (ev_var (i := 0) E1 rfl) (ea_cons (ev_var (i := 1) E1 rfl) ea_nil)) ⟨fo, ma, ws, ok, on, rfl, rfl⟩ rfl)) ?_ (wipe1 3) ?_ ?_) (congrArg D.lst fe)) fun F1 H1 σ1 x1 E2 => ?_
  · rw [List.length_map, sizeLine_eq]; have := grpD_len (fo := fo) (ma := ma) on; omega
  · intro d F' σ' hd _ E'
    obtain ⟨g, hg, rfl⟩ := List.mem_map.mp hd
    exact et_test (ev_is (ev_op (ev_cb (ea_cons (ev_var (i := 3) E' rfl) ea_nil) rc_len_lst) (ev_c (.int 1)) rv_gt_int) (by show D.bl (decide ((1 : Int) < (g.length : Int))) = D.bl (decide (1 < g.length)); congr 1; exact decide_eq_decide.mpr (by omega)))
  · intro d F' σ' _ _ E' _
    exact ev_var E' rfl
  · have al := grpD_all (fo := fo) (ma := ma) on
    unfold barD at k
    have ml : ∀ g ∈ (grpD fo ma ws).filter (fun g => decide (1 < g.length)), 1 < g.length ∧ g ∈ grpD fo ma ws := fun g hg => by
      rw [List.mem_filter] at hg
      exact ⟨of_decide_eq_true hg.2, hg.1⟩
    have tx := lol_txt (gs := (grpD fo ma ws).filter fun g => decide (1 < g.length)) fun g hg => by
      obtain ⟨us, e, _, _, h2⟩ := al g (ml g hg).2
      exact ⟨us, e, fun u hu => (h2 u hu).1⟩
    generalize hf : (grpD fo ma ws).filter (fun g => decide (1 < g.length)) = fs at E2 k tx ml
    refine s_ret x1.s ?_ fun v F3 H3 x3 => k v F3 H3 (x1.tr x3)
    have tq : txtD (.lst (fs.map D.lst)) = true := by unfold txtD; exact tx.1
    have dq : dp (.lst (fs.map D.lst)) ≤ 64 := by unfold dp; have := tx.2; omega
    have test : EvT K (tTest (tOp (rNeA K) (tVar 2) (tLst tNil))) σ1 F1 (!(fs.map D.lst).isEmpty) := et_test (ev_op (ev_var (i := 2) E2 rfl) (ev_lst ea_nil (Nat.zero_le _)) (rv_ne_nil tq dq))
    cases fs with
    | nil => exact ev_if test (fun z => absurd z (by simp)) fun _ => ev_c .non
    | cons g fs =>
      have h1 := (ml g (by simp)).1
      match g, h1 with
      | [], h1 => simp at h1
      | [_], h1 => simp at h1
      | a :: b :: g, _ =>
        refine ev_if test (fun _ => ?_) fun z => absurd z (by simp)
        have e0 : EvD K (tOp (rIxA K) (tVar 2) (tC (.int 0))) σ1 F1 (.lst (a :: b :: g)) := ev_op (ev_var (i := 2) E2 rfl) (ev_c (.int 0)) (rv_ix_lst (atI_nat (j := 0) rfl))
        exact ev_tup (as := [a, b]) (ea_cons (ev_op e0 (ev_c (.int 0)) (rv_ix_lst (atI_nat (j := 0) rfl))) (ea_cons (ev_op e0 (ev_c (.int 1)) (rv_ix_lst (atI_nat (j := 1) rfl))) ea_nil)) (by rw [sizeLine_eq]; simp)
end
end Nm

set_option Elab.async false
set_option linter.all false
set_option maxRecDepth 100000
set_option maxHeartbeats 400000
namespace Nm
open PySem PySem.Spec L2
local macro_rules | `(tactic| walk_at "ev") => `(tactic| first
  | (with_reducible apply ev_var; assumption; with_unfolding_all rfl)
  | (with_reducible apply ev_c; first | with_reducible exact Den.int _ | with_reducible exact Den.str _ | with_reducible exact Den.bl _ | with_reducible exact Den.non | with_reducible exact Den.ty _)
  | with_reducible exact ea_nil
  | (with_reducible apply ea_cons; walk_at "ev"; walk_at "ev")
  | (with_reducible apply ev_op; walk_at "ev"; walk_at "ev"; walk_at "rv")
  | (with_reducible apply ev_cb; walk_at "ev"; walk_at "rv")
  | (with_reducible apply ev_lst; walk_at "ev"; walk_at "sz")
  | (with_reducible apply ev_tup; walk_at "ev"; walk_at "sz")
  | (with_reducible apply ev_un; walk_at "ev"; walk_at "rv")
  | (with_reducible apply ev_chainU; walk_at "ev"; walk_at "ev"; walk_at "rv"; walk_at "ev"; walk_at "rv")
  | with_reducible exact ev_dnew
  | with_reducible exact ev_disp1 (fun _ => Den.str _)
  | (with_reducible apply et_test; walk_at "ev")
  | (with_reducible apply et_B; walk_at "ev")
  | (with_reducible apply et_not; walk_at "ev")
  | (with_reducible apply ev_not; walk_at "ev")
  | (with_reducible apply ev_sl_str; walk_at "ev"; walk_at "ev"; walk_at "ev"; walk_at "sz")
  | (with_reducible apply eo_some; walk_at "ev")
  | with_reducible exact eo_none)
local macro_rules | `(tactic| walk_at "rv") => `(tactic| first
  | with_reducible exact rv_add_int | (with_reducible apply rv_add_str; walk_at "sz") | (with_reducible apply rv_add_lst; walk_at "sz")
  | with_reducible exact rv_lt_int | with_reducible exact rv_le_int | with_reducible exact rv_gt_int | with_reducible exact rv_ge_int
  | with_reducible exact rvA_eq_int | with_reducible exact rvA_eq_str | with_reducible exact rvA_ne_int | with_reducible exact rvA_ne_str
  | (with_reducible apply rv_mul_int; walk_at "mul")
  | with_reducible exact rv_in_sign | (with_reducible apply rc_len_str; walk_at "sz") | with_reducible exact rc_len_lst | with_reducible exact rc_len_tup
  | with_reducible exact rc_abs | with_reducible exact rc_max2 | with_reducible exact rc_min2
  | with_reducible exact rc_all | with_reducible exact rc_any | with_reducible exact ru_neg
  | (with_reducible apply rc_isiA; with_unfolding_all rfl; decide +kernel)
  | (with_reducible apply rv_ix_lst; with_unfolding_all rfl) | (with_reducible apply rv_ix_tup; with_unfolding_all rfl)
  | (with_reducible apply rv_I; first | walk_at "sd" | (unfold CPow; decide) | (unfold CDiv; first | decide | omega)))
local macro_rules | `(tactic| walk_at "sz") => `(tactic| first | assumption | (rw [sizeLine_eq]; omega) | (rw [sizeLine_eq]; decide) | (simp [sizeLine_eq]; done))
local macro_rules | `(tactic| walk_at "sd") => `(tactic| first | assumption | omega | decide)
local macro_rules | `(tactic| walk_at "mul") => `(tactic| first | exact Or.inl ⟨by omega, by omega⟩ | exact Or.inr ⟨by omega, by omega⟩)
/-! ### the law's groups -/
abbrev qLam : Str := ("_law_groups" : Str) ++ ".<locals>." ++ "<lambda>"
def R_lgroups (ds : List D) (gs : List (List D)) : Prop := ∃ fo ma ws, okTab isSignC fo ma ∧ okNames ws ∧ ds = [ruleD fo ma, .lst (ws.map txt)] ∧ gs = grpD fo ma ws
section
variable {K : PySem.W.Frag} {vs : List V} {H : Hp} {Q : VK} {E : XK}
theorem lam_key {w : List Nat} (h : w.length ≤ 100000) : LamKey K "_law_word_here" (tTup (tCons (tCB (rLenA K) (tCons (tVar 0) tNil)) (tCons (tVar 0) tNil))) w := fun F' H' S Q' q => by
  have E1 : EnvD K F' [.d (txt w)] (start ["_law_word_here"] [tv w]) := .cons ⟨_, rfl, .str _⟩ .nil
  have hl : (⟨w.toArray⟩ : Str).length = w.length := by rw [txt_len]
  have e : EvD K (tTup (tCons (tCB (rLenA K) (tCons (tVar 0) tNil)) (tCons (tVar 0) tNil))) (start ["_law_word_here"] [tv w]) F' (keyD w) :=
    ev_is (ev_tup (as := [.int (w.length : Nat), txt w]) (ea_cons (ev_is (ev_cb (ea_cons (ev_var E1 rfl) ea_nil) (rc_len_str (z := ⟨w.toArray⟩) (by rw [hl, sizeLine_eq]; omega))) (by rw [hl])) (ea_cons (ev_var E1 rfl) ea_nil)) (by rw [sizeLine_eq]; simp)) rfl
  exact e H' S Q' q
theorem rd_law_groups {P : Addr} (h : spTab K P qLam 2 R_lgroups vs H Q E) : t_law_groups K P (spR K 2 R_key_of) { nx := fun _ H' => Q .non H', rt := Q } (start N_law_groups vs) H := by
  obtain ⟨F, ds, gs, S, T0, dl, ⟨fo, ma, ws, ok, on, rfl, rfl⟩, _, k⟩ := h
  obtain ⟨v, w, rfl, hv, hw⟩ : ∃ v w, vs = [v, w] ∧ Den K F v (ruleD fo ma) ∧ Den K F w (.lst (ws.map txt)) := by
    cases dl with
    | cons a t => cases t with
      | cons b t => cases t; exact ⟨_, _, rfl, a, b⟩
  have E1 : EnvD K F [.d (ruleD fo ma), .d (.lst (ws.map txt)), .u, .u] (start N_law_groups [v, w]) := .cons ⟨v, rfl, hv⟩ (.cons ⟨w, rfl, hw⟩ (.cons trivial (.cons trivial .nil)))
  have os := okNames_sort on
  refine q_asgNewK S E1 fun p σ1 hp gp x1 E2 => ?_
  have pP : p ≠ P := T0.ne hp
  have T1 := T0.ext (M := []) x1
  refine s_forY (DE := { nx := (tRet (tListVals (tVar 2))) { nx := fun _ H' => Q .non H', rt := Q }, rt := Q }) (M := [P]) (Px := TabIn P qLam) (fun i F' H' r' => ∃ rows a, r' = [.d (ruleD fo ma), .d (.lst (ws.map txt)), .v (.ref p), a] ∧ Ext [P] F H F' H' ∧ TabIn P qLam F' H' ∧ GrpAt K H F' H' p rows (grpK (key fo ma) ((sortW ws).take i))) (items := (sortW ws).map txt) _ x1.s E2
    (fun R q => ei_sortL x1.s (ev_var E2 rfl) T1 (fun w hw => lam_key (by have := (on.2 w hw).2; omega)) R q) (fun _ _ => tg_name) (fun F' H' x t => ⟨[], _, rfl, x1.tr x, t, gp.o.ext x (by simpa using pP), gp.n, .nil, by simp⟩) (fun _ _ _ _ ⟨_, _, _, x, _⟩ => x.s) ?_ ?_
  · rintro i d F2 H2 F3 H3 r' σ' N hd _ ⟨rows, a, rfl, x, t, g⟩ x3 E3 n
    rw [List.getElem?_map] at hd
    obtain ⟨u, hu, rfl⟩ := Option.map_eq_some_iff.mp hd
    obtain ⟨hs, hl⟩ := os.2 u (List.mem_of_getElem? hu)
    have E3' : EnvD K F3 [.d (ruleD fo ma), .d (.lst (ws.map txt)), .v (.ref p), .d (txt u)] σ' := E3
    have b := grpK_len (key fo ma) ((sortW ws).take i)
    have bl : ((sortW ws).take i).length ≤ 1000 := by rw [List.length_take]; have := os.1; omega
    have g3 := g.ext x3
    refine s_setd x3.s E3' rfl (x.tl x3) g3 (ev_callR (R := R_key_of) (ds := [ruleD fo ma, txt u]) (ea_cons (ev_var (i := 0) E3' rfl) (ea_cons (ev_var (i := 3) E3' rfl) ea_nil)) ⟨fo, ma, u, ok, hs, hl, rfl, rfl⟩ rfl) (ev_var (i := 3) E3' rfl) (by omega) (fun y hy => by have := b.2 y hy; omega) fun rows' F4 H4 x4 e4 g4 kp => ?_
    have t4 : TabIn P qLam F4 H4 := (t.ext (M := []) x3).keep (x4.n P T0.f T0.has) fun c o z n1 n2 => kp c o z (fun y => by rw [y, g3.o.h] at z; exact n2 _ (Option.some.inj z).symm) fun y hy e => by
      obtain ⟨q, _, h5⟩ := pair_row g3.r hy
      have := h5.o.h
      rw [e, z] at this
      exact n1 _ (Option.some.inj this)
    refine n F4 H4 _ _ e4 (E3'.up e4) ⟨rows', _, rfl, x4, t4, ?_⟩
    rw [grpK_snoc hu]
    exact g4
  · rintro F2 H2 r' σ' _ E3 ⟨rows, a, rfl, x, t, g⟩
    rw [List.length_map, List.take_length] at g
    refine s_retVals E3 rfl x g fun q rows F' H' x' w' kp => ?_
    obtain ⟨y1, y2, y3⟩ := w'.data x'
    exact k _ _ H' y1 (t.keep (y1.n P T0.f T0.has) fun c o z _ _ => kp c o z) y3
end
end Nm

set_option Elab.async false
set_option linter.all false
set_option maxRecDepth 100000
set_option maxHeartbeats 400000
namespace Nm
open PySem PySem.Spec L2
local macro_rules | `(tactic| walk_at "ev") => `(tactic| first
  | (with_reducible apply ev_var; assumption; with_unfolding_all rfl)
  | (with_reducible apply ev_c; first | with_reducible exact Den.int _ | with_reducible exact Den.str _ | with_reducible exact Den.bl _ | with_reducible exact Den.non | with_reducible exact Den.ty _)
  | with_reducible exact ea_nil
  | (with_reducible apply ea_cons; walk_at "ev"; walk_at "ev")
  | (with_reducible apply ev_op; walk_at "ev"; walk_at "ev"; walk_at "rv")
  | (with_reducible apply ev_cb; walk_at "ev"; walk_at "rv")
  | (with_reducible apply ev_lst; walk_at "ev"; walk_at "sz")
  | (with_reducible apply ev_tup; walk_at "ev"; walk_at "sz")
  | (with_reducible apply ev_un; walk_at "ev"; walk_at "rv")
  | (with_reducible apply ev_chainU; walk_at "ev"; walk_at "ev"; walk_at "rv"; walk_at "ev"; walk_at "rv")
  | with_reducible exact ev_dnew
  | with_reducible exact ev_disp1 (fun _ => Den.str _)
  | (with_reducible apply et_test; walk_at "ev")
  | (with_reducible apply et_B; walk_at "ev")
  | (with_reducible apply et_not; walk_at "ev")
  | (with_reducible apply ev_not; walk_at "ev")
  | (with_reducible apply ev_sl_str; walk_at "ev"; walk_at "ev"; walk_at "ev"; walk_at "sz")
  | (with_reducible apply eo_some; walk_at "ev")
  | with_reducible exact eo_none)
local macro_rules | `(tactic| walk_at "rv") => `(tactic| first
  | with_reducible exact rv_add_int | (with_reducible apply rv_add_str; walk_at "sz") | (with_reducible apply rv_add_lst; walk_at "sz")
  | with_reducible exact rv_lt_int | with_reducible exact rv_le_int | with_reducible exact rv_gt_int | with_reducible exact rv_ge_int
  | with_reducible exact rvA_eq_int | with_reducible exact rvA_eq_str | with_reducible exact rvA_ne_int | with_reducible exact rvA_ne_str
  | (with_reducible apply rv_mul_int; walk_at "mul")
  | with_reducible exact rv_in_sign | (with_reducible apply rc_len_str; walk_at "sz") | with_reducible exact rc_len_lst | with_reducible exact rc_len_tup
  | with_reducible exact rc_abs | with_reducible exact rc_max2 | with_reducible exact rc_min2
  | with_reducible exact rc_all | with_reducible exact rc_any | with_reducible exact ru_neg
  | (with_reducible apply rc_isiA; with_unfolding_all rfl; decide +kernel)
  | (with_reducible apply rv_ix_lst; with_unfolding_all rfl) | (with_reducible apply rv_ix_tup; with_unfolding_all rfl)
  | (with_reducible apply rv_I; first | walk_at "sd" | (unfold CPow; decide) | (unfold CDiv; first | decide | omega)))
local macro_rules | `(tactic| walk_at "sz") => `(tactic| first | assumption | (rw [sizeLine_eq]; omega) | (rw [sizeLine_eq]; decide) | (simp [sizeLine_eq]; done))
local macro_rules | `(tactic| walk_at "sd") => `(tactic| first | assumption | omega | decide)
local macro_rules | `(tactic| walk_at "mul") => `(tactic| first | exact Or.inl ⟨by omega, by omega⟩ | exact Or.inr ⟨by omega, by omega⟩)
/-! ### drawn tables can stand -/
theorem key7_sign : ∀ c ∈ key7, isSignC c = true := by decide +kernel
theorem sig7_sign : ∀ c ∈ sig7, isSignC c = true := by decide +kernel
theorem mrk4_sign : ∀ c ∈ mrk4, isSignC c = true := by decide +kernel
theorem sig7_key : ∀ c ∈ sig7, c ∉ key7 := by decide +kernel
theorem mrk4_key : ∀ c ∈ mrk4, c ∉ key7 := by decide +kernel
theorem drawn_ok {fo fo' : Fo} {ma ma' : Ma} (h : Drawn fo ma) (h' : Drawn fo' ma') : okTab isSignC fo ma' := by
  have lkn : ∀ c, c ∉ key7 → lk fo c = none := fun c hc => lk_none.mpr fun z => hc (h.fk.subset z)
  have fl := h.fk.length_le
  have ml := h'.mq.length_le
  rw [List.length_map] at fl ml
  have e1 : key7.length = 7 := rfl
  have e2 : mrk4.length = 4 := rfl
  refine ⟨h.fk.nodup (by decide), h'.mq.nodup (by decide), fun p hp => key7_sign _ (h.fk.subset (List.mem_map.mpr ⟨p, hp, rfl⟩)), fun p hp => ?_, fun p hp => ?_, by omega, by omega⟩
  · obtain ⟨h1, h2, h3⟩ := h.fw p hp
    exact ⟨h1, h2, fun c hc => ⟨sig7_sign c (h3 c hc), lkn c (sig7_key c (h3 c hc))⟩⟩
  · have hm : p.1 ∈ mrk4 := h'.mq.subset (List.mem_map.mpr ⟨p, hp, rfl⟩)
    exact ⟨mrk4_sign _ hm, h'.mc p hp, lkn _ (mrk4_key _ hm)⟩
theorem drawn_nil : Drawn [] [] := ⟨by simp, by simp, by simp, by simp⟩
abbrev Ru := Fo × Ma
def ruD (r : Ru) : D := ruleD r.1 r.2
def taD (C : Addr) (r : Ru) : D := tabD C r.1 r.2
def mkT (C : Addr) : D → D
  | .tup [a, b] => .obj C [("rule", .tup [a, b])]
  | _ => .non
theorem sign_small {c : Nat} (h : isSignC c = true) : c < 1114112 := by
  have : ∀ c ∈ allS.cps.toList, c < 1114112 := by decide +kernel
  exact this c (of_decide_eq_true h)
theorem drawn_len {fo : Fo} {ma : Ma} (h : Drawn fo ma) : fo.length ≤ 7 ∧ ma.length ≤ 4 := by
  have fl := h.fk.length_le
  have ml := h.mq.length_le
  rw [List.length_map] at fl ml
  have e1 : key7.length = 7 := rfl
  have e2 : mrk4.length = 4 := rfl
  omega
theorem ex_small {fo : Fo} {ma : Ma} {l : List Nat} (hf : fo.length ≤ 7) (hl : l.length ≤ 400) : (byF fo l).length + (byM ma l).length < 4000 := by
  have h1 := byF_len fo l
  have h2 := byM_len ma l
  have h3 : l.length * (fo.length + 1) ≤ 400 * 8 := Nat.mul_le_mul hl (by omega)
  omega
end Nm

set_option Elab.async false
set_option linter.all false
set_option maxRecDepth 100000
set_option maxHeartbeats 400000
namespace Nm
open PySem PySem.Spec L2
local macro_rules | `(tactic| walk_at "ev") => `(tactic| first
  | (with_reducible apply ev_var; assumption; with_unfolding_all rfl)
  | (with_reducible apply ev_c; first | with_reducible exact Den.int _ | with_reducible exact Den.str _ | with_reducible exact Den.bl _ | with_reducible exact Den.non | with_reducible exact Den.ty _)
  | with_reducible exact ea_nil
  | (with_reducible apply ea_cons; walk_at "ev"; walk_at "ev")
  | (with_reducible apply ev_op; walk_at "ev"; walk_at "ev"; walk_at "rv")
  | (with_reducible apply ev_cb; walk_at "ev"; walk_at "rv")
  | (with_reducible apply ev_lst; walk_at "ev"; walk_at "sz")
  | (with_reducible apply ev_tup; walk_at "ev"; walk_at "sz")
  | (with_reducible apply ev_un; walk_at "ev"; walk_at "rv")
  | (with_reducible apply ev_chainU; walk_at "ev"; walk_at "ev"; walk_at "rv"; walk_at "ev"; walk_at "rv")
  | with_reducible exact ev_dnew
  | with_reducible exact ev_disp1 (fun _ => Den.str _)
  | (with_reducible apply et_test; walk_at "ev")
  | (with_reducible apply et_B; walk_at "ev")
  | (with_reducible apply et_not; walk_at "ev")
  | (with_reducible apply ev_not; walk_at "ev")
  | (with_reducible apply ev_sl_str; walk_at "ev"; walk_at "ev"; walk_at "ev"; walk_at "sz")
  | (with_reducible apply eo_some; walk_at "ev")
  | with_reducible exact eo_none)
local macro_rules | `(tactic| walk_at "rv") => `(tactic| first
  | with_reducible exact rv_add_int | (with_reducible apply rv_add_str; walk_at "sz") | (with_reducible apply rv_add_lst; walk_at "sz")
  | with_reducible exact rv_lt_int | with_reducible exact rv_le_int | with_reducible exact rv_gt_int | with_reducible exact rv_ge_int
  | with_reducible exact rvA_eq_int | with_reducible exact rvA_eq_str | with_reducible exact rvA_ne_int | with_reducible exact rvA_ne_str
  | (with_reducible apply rv_mul_int; walk_at "mul")
  | with_reducible exact rv_in_sign | (with_reducible apply rc_len_str; walk_at "sz") | with_reducible exact rc_len_lst | with_reducible exact rc_len_tup
  | with_reducible exact rc_abs | with_reducible exact rc_max2 | with_reducible exact rc_min2
  | with_reducible exact rc_all | with_reducible exact rc_any | with_reducible exact ru_neg
  | (with_reducible apply rc_isiA; with_unfolding_all rfl; decide +kernel)
  | (with_reducible apply rv_ix_lst; with_unfolding_all rfl) | (with_reducible apply rv_ix_tup; with_unfolding_all rfl)
  | (with_reducible apply rv_I; first | walk_at "sd" | (unfold CPow; decide) | (unfold CDiv; first | decide | omega)))
local macro_rules | `(tactic| walk_at "sz") => `(tactic| first | assumption | (rw [sizeLine_eq]; omega) | (rw [sizeLine_eq]; decide) | (simp [sizeLine_eq]; done))
local macro_rules | `(tactic| walk_at "sd") => `(tactic| first | assumption | omega | decide)
local macro_rules | `(tactic| walk_at "mul") => `(tactic| first | exact Or.inl ⟨by omega, by omega⟩ | exact Or.inr ⟨by omega, by omega⟩)
/-! ### the law's words -/
def sig18 : List Nat := [97, 97, 98, 99, 39, 39, 58, 94, 126, 65, 49, 66, 50, 95, 90, 57, 122, 45]
def preWord : List D → Prop
  | [.int m] => 0 < m ∧ m ≤ 1000
  | _ => False
def postWord : List D → D → Prop
  | [.int m], d => ∃ w, d = txt w ∧ 1 ≤ w.length ∧ (w.length : Int) ≤ m ∧ ∀ c ∈ w, c ∈ sig18
  | _, _ => False
abbrev spWord (K : PySem.W.Frag) : Sp := spB K 1 1002 preWord postWord
section
variable {K : PySem.W.Frag} {vs : List V} {H : Hp} {Q : VK} {E : XK}
theorem rd_law_word (h : spWord K vs H Q E) : t_law_word K (spTake K) { nx := fun _ H' => Q .non H', rt := Q } (start N_law_word vs) H := by
  obtain ⟨F, b, n, ws, ds, rfl, S, w, l, hn, pr, k⟩ := h
  match ds, hn, pr with
  | [.int m], _, pr =>
    obtain ⟨v, rfl, hv⟩ : ∃ v, ws = [v] ∧ Den K F v (.int m) := by
      cases l with
      | cons a t => cases t; exact ⟨_, rfl, a⟩
    obtain ⟨m, rfl⟩ : ∃ m' : Nat, m = (m' : Int) := ⟨m.toNat, by rw [Int.toNat_of_nonneg (by have := pr.1; omega)]⟩
    have p1 : 0 < (m : Int) := pr.1
    have p2 : (m : Int) ≤ 1000 := pr.2
    have E0 : EnvD K F [.v (.ref b), .d (.int (m : Nat)), .u, .u] (start N_law_word [.ref b, v]) := .cons rfl (.cons ⟨v, rfl, hv⟩ (.cons trivial (.cons trivial .nil)))
    refine q_asg (d := .str "aabc'':^~A1B2_Z9z-") S E0 (ev_c (.str _)) fun F1 H1 σ1 x1 E1 => ?_
    refine s_retB (n := n) (c := 1 + m * 1) x1.s ((w.ext0 x1).less (by omega)) (eb_word (z := "aabc'':^~A1B2_Z9z-") (m := 18) (lo := 1) (N := m) (ci := 1) E1 rfl (by decide) (ebi_rng1 (S := fun ds => ∃ k : Nat, ds = [.int (k : Nat)] ∧ 1 ≤ k ∧ k ≤ m) (c := 0 + 1 + 0) (eb_cons (RA := fun d => ∃ k : Nat, d = .int (k : Nat) ∧ 1 ≤ k ∧ k ≤ m) (eb_op (eb_of (ev_c (.int 1))) (eb_take (m := m) E1 rfl (ev_var E1 rfl) (by omega) (by omega)) ?_) eb_nil ?_) ?_) (by omega) (ev_c (.str _)) (fun F' σ' d _ E' => ev_var E' rfl) (fun F' σ' d _ _ => ev_c (.int 18)) (by decide) rfl (by decide)) ?_
    · rintro x y rfl ⟨q, rfl, hq⟩
      exact ⟨_, rv_add_int, q + 1, congrArg D.int (by omega), by omega, by omega⟩
    · rintro x xs ⟨q, rfl, h1, h2⟩ rfl
      exact ⟨q, rfl, h1, h2⟩
    · rintro ds ⟨q, rfl, h1, h2⟩
      exact ⟨q, rfl, by omega, by rw [List.length_map, List.length_range]; exact h1, by rw [List.length_map, List.length_range]; exact h2⟩
    · rintro v d F2 H2 ⟨wd, rfl, h1, h2, h3⟩ x2 w2 dv
      exact k v _ F2 H2 (x1.tr x2) w2 ⟨wd, rfl, h1, by omega, h3⟩ dv
end
end Nm

set_option Elab.async false
set_option linter.all false
set_option maxRecDepth 100000
set_option maxHeartbeats 400000
namespace Nm
open PySem PySem.Spec L2
local macro_rules | `(tactic| walk_at "ev") => `(tactic| first
  | (with_reducible apply ev_var; assumption; with_unfolding_all rfl)
  | (with_reducible apply ev_c; first | with_reducible exact Den.int _ | with_reducible exact Den.str _ | with_reducible exact Den.bl _ | with_reducible exact Den.non | with_reducible exact Den.ty _)
  | with_reducible exact ea_nil
  | (with_reducible apply ea_cons; walk_at "ev"; walk_at "ev")
  | (with_reducible apply ev_op; walk_at "ev"; walk_at "ev"; walk_at "rv")
  | (with_reducible apply ev_cb; walk_at "ev"; walk_at "rv")
  | (with_reducible apply ev_lst; walk_at "ev"; walk_at "sz")
  | (with_reducible apply ev_tup; walk_at "ev"; walk_at "sz")
  | (with_reducible apply ev_un; walk_at "ev"; walk_at "rv")
  | (with_reducible apply ev_chainU; walk_at "ev"; walk_at "ev"; walk_at "rv"; walk_at "ev"; walk_at "rv")
  | with_reducible exact ev_dnew
  | with_reducible exact ev_disp1 (fun _ => Den.str _)
  | (with_reducible apply et_test; walk_at "ev")
  | (with_reducible apply et_B; walk_at "ev")
  | (with_reducible apply et_not; walk_at "ev")
  | (with_reducible apply ev_not; walk_at "ev")
  | (with_reducible apply ev_sl_str; walk_at "ev"; walk_at "ev"; walk_at "ev"; walk_at "sz")
  | (with_reducible apply eo_some; walk_at "ev")
  | with_reducible exact eo_none)
local macro_rules | `(tactic| walk_at "rv") => `(tactic| first
  | with_reducible exact rv_add_int | (with_reducible apply rv_add_str; walk_at "sz") | (with_reducible apply rv_add_lst; walk_at "sz")
  | with_reducible exact rv_lt_int | with_reducible exact rv_le_int | with_reducible exact rv_gt_int | with_reducible exact rv_ge_int
  | with_reducible exact rvA_eq_int | with_reducible exact rvA_eq_str | with_reducible exact rvA_ne_int | with_reducible exact rvA_ne_str
  | (with_reducible apply rv_mul_int; walk_at "mul")
  | with_reducible exact rv_in_sign | (with_reducible apply rc_len_str; walk_at "sz") | with_reducible exact rc_len_lst | with_reducible exact rc_len_tup
  | with_reducible exact rc_abs | with_reducible exact rc_max2 | with_reducible exact rc_min2
  | with_reducible exact rc_all | with_reducible exact rc_any | with_reducible exact ru_neg
  | (with_reducible apply rc_isiA; with_unfolding_all rfl; decide +kernel)
  | (with_reducible apply rv_ix_lst; with_unfolding_all rfl) | (with_reducible apply rv_ix_tup; with_unfolding_all rfl)
  | (with_reducible apply rv_I; first | walk_at "sd" | (unfold CPow; decide) | (unfold CDiv; first | decide | omega)))
local macro_rules | `(tactic| walk_at "sz") => `(tactic| first | assumption | (rw [sizeLine_eq]; omega) | (rw [sizeLine_eq]; decide) | (simp [sizeLine_eq]; done))
local macro_rules | `(tactic| walk_at "sd") => `(tactic| first | assumption | omega | decide)
local macro_rules | `(tactic| walk_at "mul") => `(tactic| first | exact Or.inl ⟨by omega, by omega⟩ | exact Or.inr ⟨by omega, by omega⟩)
/-! ### the law's names -/
def okWs (ws : List (List Nat)) : Prop := ∀ w ∈ ws, (∀ c ∈ w, isSignC c = true) ∧ w.length ≤ 12
def preNames (C : Addr) : List D → Prop
  | [t, .int m] => 1 ≤ m ∧ m ≤ 60 ∧ ∃ fo ma, Drawn fo ma ∧ t = tabD C fo ma
  | _ => False
def postNames (_ : List D) (d : D) : Prop := ∃ ws : List (List Nat), d = .lst (ws.map txt) ∧ ws.length ≤ 60 ∧ ws ≠ [] ∧ okWs ws
abbrev spNames (K : PySem.W.Frag) (C : Addr) : Sp := spB K 2 60300 (preNames C) postNames
def someW (fo : Fo) (ma : Ma) (ws : List (List Nat)) : List (List Nat) := match ws.getLast? with
  | some w => exs fo ma w
  | none => []
theorem sig18_sign : ∀ c ∈ sig18, isSignC c = true := by decide +kernel
theorem last_mem {α : Type} {l : List α} {a : α} (h : l.getLast? = some a) : a ∈ l := List.mem_of_getLast? h
section
variable {K : PySem.W.Frag} {F H F1 H1 : Hp} {σ : L2.St} {r : List Sl} {d : D}
theorem ev_varV {i : Nat} {v : V} (E : EnvD K F r σ) (h : r[i]? = some (.v v)) (dv : Den K F v d) : EvD K (tVar i) σ F d := fun H s Q q => by
  obtain ⟨o, h1, h2⟩ := E.get h
  have h2 : o = some v := h2
  subst h2
  exact ⟨v, h1, q v F H (Ext.refl s) dv⟩
theorem Ext.thawM {M : List Addr} {p : Addr} {o : HO} (w : Own F H p o) (S : Same F H) (hp : p ∉ M) (x : Ext M (upd F p o) H F1 H1) : Ext M F H (del F1 p) H1 ∧ Own (del F1 p) H1 p o := by
  refine ⟨⟨fun a u h => ?_, x.h, fun a u h => ?_, fun a h k => ?_, x.k⟩, if_pos rfl, ?_⟩
  · have z : a ≠ p := fun z => by rw [z, w.f] at h; cases h
    rw [del_ne z]
    exact x.f a u (by rw [upd_ne z]; exact h)
  · by_cases z : a = p
    · subst z; unfold del at h; rw [if_pos rfl] at h; cases h
    · rw [del_ne z] at h; exact x.s a u h
  · by_cases z : a = p
    · subst z; exact if_pos rfl
    · rw [del_ne z]; exact x.n a (by rw [upd_ne z]; exact h) k
  · exact x.s _ _ (x.f _ _ upd_same)
end
theorem ex1_len3 {fo : Fo} {ma : Ma} (hw : ∀ p ∈ fo, p.2.length ≤ 3) {l w : List Nat} (h : Ex1 fo ma l w) : w.length ≤ l.length + 3 := by
  cases h with
  | fold a b e =>
    have := hw _ (lk_mem e)
    simp only [List.length_append, List.length_cons] at *
    omega
  | back a b e => simp only [List.length_append, List.length_cons]; omega
  | swap a b t => simp only [List.length_append, List.length_cons]; omega
section
variable {K : PySem.W.Frag} {vs : List V} {H : Hp} {Q : VK} {E : XK}
theorem rd_law_names {C : Addr} (h : spNames K C vs H Q E) : t_law_names K (spTake K) (spWord K) (spFL K 2 (R_exchanges C)) { nx := fun _ H' => Q .non H', rt := Q } (start N_law_names vs) H := by
  obtain ⟨F, b, n, us, ds, rfl, S, w, l, hn, pr, k⟩ := h
  match ds, hn, pr with
  | [t, .int m], _, ⟨m0, m1, fo, ma, dr, et⟩ =>
    subst et
    obtain ⟨m, rfl⟩ : ∃ m' : Nat, m = (m' : Int) := ⟨m.toNat, by rw [Int.toNat_of_nonneg (by omega)]⟩
    obtain ⟨vt, vm, rfl, hvt, hvm⟩ : ∃ vt vm, us = [vt, vm] ∧ Den K F vt (tabD C fo ma) ∧ Den K F vm (.int (m : Nat)) := by
      cases l with
      | cons a t => cases t with
        | cons b t => cases t; exact ⟨_, _, rfl, a, b⟩
    have ok : okTab isSignC fo ma := drawn_ok dr dr
    have fl := (drawn_len dr).1
    have hw1 : ∀ p ∈ fo, 1 ≤ p.2.length := fun p hp => (ok.fw p hp).1
    have E1 : EnvD K F [.v (.ref b), .v vt, .v vm, .u, .u, .u, .u] (start N_law_names [.ref b, vt, vm]) := .cons rfl (.cons rfl (.cons rfl (.cons trivial (.cons trivial (.cons trivial (.cons trivial .nil))))))
    refine q_asgL S E1 (el_lst ea_nil (Nat.zero_le _)) fun p xs0 F1 H1 σ1 hp x1 o1 l1 E2 => ?_
    have bp : b ≠ p := fun z => w.ne (by rw [z]; exact hp)
    have hp1 : p ∉ [b] := by simpa using bp.symm
    cases l1
    refine q_for [b, p] (fun i F' H' r => ∃ ws xs a c e, r = [.v (.ref b), .v vt, .v vm, .v (.ref p), a, c, e] ∧ BagAt F' H' b (n + (60 - i) * 1005) ∧ Own F' H' p (.lst xs) ∧ DenL K F' xs (ws.map txt) ∧ (ws.length ≤ i ∧ (0 < i → ws ≠ [])) ∧ okWs ws) (items := (List.range (m : Int).toNat).map fun i => .int (i : Nat))
      x1.s E2 (ei_rng1 (ea_cons (ev_varV E2 rfl (hvm.up x1.f)) ea_nil) (by omega) (by omega)) (fun F' H' x => ⟨[], [], _, _, _, rfl, ((w.ext0 x1).ext0 x).less (by omega), o1.ext0 x, .nil, ⟨by simp, fun z => absurd z (by simp)⟩, by intro w hw; simp at hw⟩) ?_ ?_
    · rintro i d F2 H2 F3 H3 r' σ' N hd y1 ⟨ws, xs, a, c, e, rfl, w2, o2, l2, ⟨hl, _⟩, gw⟩ y2 E3 nx
      have hi : i < m := by
        rw [List.getElem?_map] at hd
        obtain ⟨j, hj, _⟩ := Option.map_eq_some_iff.mp hd
        have := (List.getElem?_eq_some_iff.mp hj).1
        rw [List.length_range] at this
        simpa using this
      have hi6 : i < 60 := by omega
      have E3 : EnvD K F3 [.v (.ref b), .v vt, .v vm, .v (.ref p), .d d, c, e] σ' := E3
      have w3 : BagAt F3 H3 b (n + (60 - (i + 1)) * 1005 + 1005) := (w2.ext0 y2).less (by omega)
      have o3 := o2.ext0 y2
      have l3 := l2.up y2.f
      -- the list of names is looked at
      have gS : Same F3 (upd F3 p (.lst xs)) := same_new o3.f
      have SG : Same (upd F3 p (.lst xs)) H3 := lend o3 y2.s
      have EG := E3.up gS
      have dP : Den K (upd F3 p (.lst xs)) (.ref p) (.lst (ws.map txt)) := .lst upd_same (l3.up gS)
      have dT : Den K (upd F3 p (.lst xs)) vt (tabD C fo ma) := hvt.up ((x1.f.trans y1.f).trans (y2.f.trans gS))
      have wG : BagAt (upd F3 p (.lst xs)) H3 b (n + (60 - (i + 1)) * 1005 + 1005) := w3.fz (by rw [upd_ne bp]; exact w3.nf)
      generalize eG : upd F3 p (.lst xs) = G at gS SG EG dP dT wG
      have tt := txts_ok (ws := ws) fun w hw c hc => sign_small ((gw w hw).1 c hc)
      have tq : txtD (.lst (ws.map txt)) = true := by unfold txtD; exact tt.1
      have dq : dp (.lst (ws.map txt)) ≤ 64 := by unfold dp; rw [tt.2]; omega
      have sm : ∀ {z}, ws.getLast? = some z → (∀ c ∈ z, isSignC c = true) ∧ z.length ≤ 12 := fun h => gw _ (last_mem h)
      have szE : ∀ {z}, ws.getLast? = some z → (byF fo z).length + (byM ma z).length < 4000 := fun h => ex_small fl (by have := (sm h).2; omega)
      have sgn : ∀ u ∈ someW fo ma ws, ∀ c ∈ u, isSignC c = true := by
        intro u hu
        unfold someW at hu
        cases hz : ws.getLast? with
        | none => rw [hz] at hu; simp at hu
        | some z =>
          rw [hz] at hu
          exact ex1_sign ok ((mem_exs hw1).mp hu) (sm hz).1
      have szS : (someW fo ma ws).length < 4000 := by
        unfold someW
        cases hz : ws.getLast? with
        | none => simp
        | some z =>
          have := szE hz
          have h2 := setT_len (byF fo z ++ byM ma z)
          rw [List.length_append] at h2
          show (exs fo ma z).length < 4000
          unfold exs
          omega
      refine q_asg (d := .lst ((someW fo ma ws).map txt)) SG EG ?_ fun F4 H4 σ4 x4 E4 => ?_
      · refine ev_if (et_test (ev_op (ev_varV EG rfl dP) (ev_lst ea_nil (Nat.zero_le _)) (rv_ne_nil tq dq))) (fun h => ?_) fun h => ?_
        · cases hz : ws.getLast? with
          | none => rw [List.getLast?_eq_none_iff] at hz; subst hz; simp at h
          | some z =>
            have e : someW fo ma ws = exs fo ma z := by unfold someW; rw [hz]
            rw [e]
            refine (el_call (R := R_exchanges C) (ds := [tabD C fo ma, txt z]) (ea_cons (ev_varV EG rfl dT) (ea_cons (ev_op (ev_varV EG rfl dP) (ev_un (ev_c (.int 1)) ru_neg) (rv_ix_lst (atI_neg1 ?_))) ea_nil)) ⟨fo, ma, z, ok, ?_, szE hz, rfl, rfl⟩ rfl).toD
            · rw [List.getLast?_map, hz]; rfl
            · have := (sm hz).2; omega
        · have : ws = [] := by
            cases ws with
            | nil => rfl
            | cons _ _ => simp at h
          subst this
          exact ev_lst ea_nil (Nat.zero_le _)
      let sh : D → Bool := fun d => match d with | .str s => decide ((s.length : Int) < 13) | _ => false
      refine q_asg (d := .lst (((someW fo ma ws).filter fun u => decide (u.length < 13)).map txt)) x4.s E4 (ev_is (ev_lcIf (f := fun x => x) (p := sh) E4 (ei_lst (ev_var E4 rfl)) (by rw [List.length_map, sizeLine_eq]; omega) (wipe1 6) ?_ fun d F' σ' _ _ E' _ => ev_var E' rfl) ?_) fun F5 H5 σ5 x5 E5 => ?_
      · intro d F' σ' hd _ E'
        obtain ⟨u, hu, rfl⟩ := List.mem_map.mp hd
        have ul : u.length ≤ 100000 := by
          unfold someW at hu
          cases hz : ws.getLast? with
          | none => rw [hz] at hu; simp at hu
          | some z =>
            rw [hz] at hu
            have := ex1_len3 (fun p hp => (ok.fw p hp).2.1) ((mem_exs hw1).mp hu)
            have := (sm hz).2
            omega
        exact et_test (ev_op (ev_cb (ea_cons (ev_var E' rfl) ea_nil) (rc_len_str (by rw [txt_len, sizeLine_eq]; omega))) (ev_c (.int 13)) rv_lt_int)
      · rw [List.map_id', List.filter_map]
        congr 2
        refine List.filter_congr fun u _ => ?_
        show decide (((⟨u.toArray⟩ : Str).length : Int) < 13) = decide (u.length < 13)
        rw [txt_len]
        exact decide_eq_decide.mpr (by omega)
      generalize hss : (someW fo ma ws).filter (fun u => decide (u.length < 13)) = ss at E5
      have gss : okWs ss := fun u hu => by
        rw [← hss, List.mem_filter] at hu
        exact ⟨sgn u hu.1, by have := of_decide_eq_true hu.2; omega⟩
      have lss : ss.length < 4000 := by
        rw [← hss]
        exact Nat.lt_of_le_of_lt (List.length_filter_le _ _) szS
      have rest : ∀ (D1 : Ends), D1.nx = N → ∀ F7 H7 σ7 wd a c, Ext [b] G H3 F7 H7 → BagAt F7 H7 b (n + (60 - (i + 1)) * 1005) → EnvD K F7 [.v (.ref b), .v vt, .v vm, .v (.ref p), a, c, .d (txt wd)] σ7 → ((∀ c ∈ wd, isSignC c = true) ∧ wd.length ≤ 12) →
          (tIfS (tTest (tOp (rNotInA K) (tVar 6) (tVar 3))) (tDrop (tBM K "list" rAppend (tVar 3) (tCons (tVar 6) tNil))) tNext) D1 σ7 H7 := by
        intro D1 eN F7 H7 σ7 wd a c x7 w7 E7 gd
        have go : ∀ F8 H8, Ext [] F7 H7 F8 H8 → Ext [b] F3 H3 (del F8 p) H8 ∧ Own (del F8 p) H8 p (.lst xs) ∧ EnvD K (del F8 p) [.v (.ref b), .v vt, .v vm, .v (.ref p), .u, .u, .d (txt wd)] σ7 ∧ DenL K (del F8 p) xs (ws.map txt) ∧ BagAt (del F8 p) H8 b (n + (60 - (i + 1)) * 1005) := by
          intro F8 H8 x8
          have X8 := x7.tl x8
          rw [← eG] at X8
          obtain ⟨X9, o9⟩ := Ext.thawM o3 y2.s hp1 X8
          refine ⟨X9, o9, ?_, l3.up X9.f, (w7.ext0 x8).fz (by rw [del_ne bp]; exact (w7.ext0 x8).nf)⟩
          match E7 with
          | .cons a0 (.cons a1 (.cons a2 (.cons a3 (.cons _ (.cons _ (.cons a6 .nil)))))) =>
            refine .cons a0 (.cons a1 (.cons a2 (.cons a3 (.cons trivial (.cons trivial (.cons ?_ .nil))))))
            obtain ⟨v6, e6, d6⟩ := a6
            cases d6
            exact ⟨_, e6, .str _⟩
        refine s_if (b := !decide (wd ∈ ws)) x7.s (et_test (ev_op (ev_var (i := 6) E7 rfl) (ev_varV (i := 3) E7 rfl (dP.up x7.f)) rv_notin_txts)) (fun hb F8 H8 x8 => ?_) fun hb F8 H8 x8 => ?_
        · obtain ⟨X9, o9, E9, l9, w9⟩ := go F8 H8 x8
          refine s_app X9.s E9 rfl o9 (ev_var (i := 6) E9 rfl) (by rw [l9.length, List.length_map]; omega) fun v F10 H10 x10 o10 dv => ?_
          rw [eN]
          refine nx F10 _ _ _ (((X9.tl x10).wide (by simp)).trans ((o10.set x10.s).wide (by simp))) (E9.up x10.f) ⟨ws ++ [wd], xs ++ [v], _, _, _, rfl, (w9.ext0 x10).set (o := .tup []) bp, ⟨o10.f, upd_same⟩, ?_, ?_, ?_⟩
          · rw [List.map_append]
            exact (l9.up x10.f).append (.cons dv .nil)
          · exact ⟨by rw [List.length_append]; simp only [List.length_cons, List.length_nil]; omega, fun _ => by simp⟩
          · intro u hu
            rcases List.mem_append.mp hu with hu | hu
            · exact gw u hu
            · rcases List.mem_singleton.mp hu with rfl
              exact gd
        · obtain ⟨X9, o9, E9, l9, w9⟩ := go F8 H8 x8
          show D1.nx σ7 H8
          rw [eN]
          exact nx (del F8 p) H8 _ _ (X9.wide (by simp)) E9 ⟨ws, xs, _, _, _, rfl, w9, o9, l9, ⟨by omega, fun _ z => by rw [z] at hb; simp at hb⟩, gw⟩
      have w5 : BagAt F5 H5 b (n + (60 - (i + 1)) * 1005 + 2 + 1003) := ((wG.ext0 x4).ext0 x5).less (by omega)
      refine q_asgB (n := n + (60 - (i + 1)) * 1005 + 2) (c := 1003) x5.s E5 w5 (eb_call (c1 := 1) (c2 := 1002) (m := 1) (pre := preWord) (post := postWord) (R := fun d => ∃ wd, d = txt wd ∧ (∀ c ∈ wd, isSignC c = true) ∧ wd.length ≤ 12) (S := fun ds => ∃ q : Int, ds = [.int q] ∧ 0 < q ∧ q ≤ 12) E5 rfl
        (eb_cons (RA := fun d => ∃ q : Int, d = .int q ∧ 0 < q ∧ q ≤ 12) (c1 := 1) (c2 := 0) (eb_weak (eb_pick_lst (ds := [.int 1, .int 2, .int 12]) E5 rfl (ev_lst (ea_cons (ev_c (.int 1)) (ea_cons (ev_c (.int 2)) (ea_cons (ev_c (.int 12)) ea_nil))) (by rw [sizeLine_eq]; simp)) (ev_c (.int 3)) (by decide) rfl (by decide)) (by decide) ?_) eb_nil ?_) ?_ ?_) fun d6 F6 H6 σ6 hd6 x6 w6 E6 => ?_
      · intro d hd
        simp only [List.mem_cons, List.not_mem_nil, or_false] at hd
        rcases hd with rfl | rfl | rfl
        · exact ⟨1, rfl, by decide, by decide⟩
        · exact ⟨2, rfl, by decide, by decide⟩
        · exact ⟨12, rfl, by decide, by decide⟩
      · rintro x xs ⟨q, rfl, h1, h2⟩ rfl
        exact ⟨q, rfl, h1, h2⟩
      · rintro ds ⟨q, rfl, h1, h2⟩
        exact ⟨rfl, h1, by omega⟩
      · rintro ds d ⟨q, rfl, h1, h2⟩ ⟨wd, rfl, g1, g2, g3⟩
        exact ⟨wd, rfl, fun c hc => sig18_sign c (g3 c hc), by omega⟩
      obtain ⟨wd, rfl, gd⟩ := hd6
      have X6 : Ext [b] G H3 F6 H6 := (x4.tr x5).tr x6
      have st := txts_ok (ws := ss) fun w hw c hc => sign_small ((gss w hw).1 c hc)
      have sq : txtD (.lst (ss.map txt)) = true := by unfold txtD; exact st.1
      have sd : dp (.lst (ss.map txt)) ≤ 64 := by unfold dp; rw [st.2]; omega
      have et1 : EvT K (tTest (tOp (rNeA K) (tVar 5) (tLst tNil))) σ6 F6 (!(ss.map txt).isEmpty) := et_test (ev_op (ev_var (i := 5) E6 rfl) (ev_lst ea_nil (Nat.zero_le _)) (rv_ne_nil sq sd))
      refine et1 H6 x6.s _ fun F7 H7 x7 => ?_
      have X7 := X6.tl x7
      have E7 := E6.up x7.f
      have w7 := w6.ext0 x7
      cases ss with
      | nil =>
        rw [if_neg (by simp)]
        dsimp only
        rw [if_neg (by simp)]
        exact rest _ rfl F7 H7 σ6 wd _ _ X7 (w7.less (by omega)) E7 gd
      | cons s0 ss =>
        rw [if_pos (by simp)]
        have hB : EvB K b 1 (tOp (rGtA K) (tCall (spTake K) [] L2.E0 (tCons (tVar 0) (tCons (tC (.int 3)) tNil))) (tC (.int 0))) σ6 F7 (fun d => ∃ bb, d = .bl bb) := eb_op (c1 := 1) (c2 := 0) (eb_take E7 rfl (ev_c (.int 3)) (by decide) (by decide)) (eb_of (ev_c (.int 0))) (by
          rintro x y ⟨q, rfl, _⟩ rfl
          exact ⟨_, rv_gt_int, _, rfl⟩)
        refine hB H7 (n + (60 - (i + 1)) * 1005 + 1) x7.s (w7.less (by omega)) _ fun v d F8 H8 x8 w8 rd dv => ?_
        obtain ⟨bb, rfl⟩ := rd
        cases dv
        refine ⟨bb, rfl, ?_⟩
        have X8 := X7.trans x8
        have E8 := E7.up x8.f
        cases bb with
        | false =>
          dsimp only
          rw [if_neg (by simp)]
          exact rest _ rfl F8 H8 σ6 wd _ _ X8 (w8.less (by omega)) E8 gd
        | true =>
          dsimp only
          rw [if_pos rfl]
          refine q_asgB (n := n + (60 - (i + 1)) * 1005) (c := 1) x8.s E8 w8 (eb_pick_lst (ds := (s0 :: ss).map txt) (m := (s0 :: ss).length) E8 rfl (ev_var (i := 5) E8 rfl) (ev_is (ev_cb (ea_cons (ev_var (i := 5) E8 rfl) ea_nil) rc_len_lst) (by rw [List.length_map])) (by simp) (by rw [List.length_map]) (by omega)) fun d9 F9 H9 σ9 hd9 x9 w9 E9 => ?_
          obtain ⟨u, hu, rfl⟩ := List.mem_map.mp hd9
          exact rest _ rfl F9 H9 σ9 u _ _ (X8.trans x9) w9 E9 (gss u hu)
    · rintro F2 H2 r' σ' y E3 ⟨ws, xs, a, c, e, rfl, w2, o2, l2, ⟨hl, hne⟩, gw⟩
      have X : Ext [b] F H F2 H2 := ⟨x1.f.trans y.f, fun a o mm h => y.h a o (fun z => by
        rcases List.mem_cons.mp z with z | z
        · exact mm (by rw [z]; simp)
        · rcases List.mem_singleton.mp z with rfl
          rw [hp] at h; cases h) (x1.same a o h), y.s, fun a h k => y.n a (x1.n a h k) (x1.k a k), fun a h => y.k a (x1.k a h)⟩
      have X2 := Ext.freeze X hp o2.h o2.f
      obtain ⟨o, g1, g2⟩ := E3.get (i := 3) rfl
      have g2 : o = some (.ref p) := g2
      subst g2
      rw [List.length_map, List.length_range] at hl hne
      have gS : Same F2 (upd F2 p (.lst xs)) := same_new o2.f
      exact ⟨.ref p, g1, k _ _ _ H2 X2 ((w2.less (by omega)).fz (by rw [upd_ne bp]; exact w2.nf)) ⟨ws, rfl, by simpa using Nat.le_trans hl (by omega), hne (by omega), gw⟩ (.lst upd_same (l2.up gS))⟩
end
end Nm

set_option Elab.async false
set_option linter.all false
set_option maxRecDepth 100000
set_option maxHeartbeats 400000
namespace Nm
open PySem PySem.Spec L2
local macro_rules | `(tactic| walk_at "ev") => `(tactic| first
  | (with_reducible apply ev_var; assumption; with_unfolding_all rfl)
  | (with_reducible apply ev_c; first | with_reducible exact Den.int _ | with_reducible exact Den.str _ | with_reducible exact Den.bl _ | with_reducible exact Den.non | with_reducible exact Den.ty _)
  | with_reducible exact ea_nil
  | (with_reducible apply ea_cons; walk_at "ev"; walk_at "ev")
  | (with_reducible apply ev_op; walk_at "ev"; walk_at "ev"; walk_at "rv")
  | (with_reducible apply ev_cb; walk_at "ev"; walk_at "rv")
  | (with_reducible apply ev_lst; walk_at "ev"; walk_at "sz")
  | (with_reducible apply ev_tup; walk_at "ev"; walk_at "sz")
  | (with_reducible apply ev_un; walk_at "ev"; walk_at "rv")
  | (with_reducible apply ev_chainU; walk_at "ev"; walk_at "ev"; walk_at "rv"; walk_at "ev"; walk_at "rv")
  | with_reducible exact ev_dnew
  | with_reducible exact ev_disp1 (fun _ => Den.str _)
  | (with_reducible apply et_test; walk_at "ev")
  | (with_reducible apply et_B; walk_at "ev")
  | (with_reducible apply et_not; walk_at "ev")
  | (with_reducible apply ev_not; walk_at "ev")
  | (with_reducible apply ev_sl_str; walk_at "ev"; walk_at "ev"; walk_at "ev"; walk_at "sz")
  | (with_reducible apply eo_some; walk_at "ev")
  | with_reducible exact eo_none)
local macro_rules | `(tactic| walk_at "rv") => `(tactic| first
  | with_reducible exact rv_add_int | (with_reducible apply rv_add_str; walk_at "sz") | (with_reducible apply rv_add_lst; walk_at "sz")
  | with_reducible exact rv_lt_int | with_reducible exact rv_le_int | with_reducible exact rv_gt_int | with_reducible exact rv_ge_int
  | with_reducible exact rvA_eq_int | with_reducible exact rvA_eq_str | with_reducible exact rvA_ne_int | with_reducible exact rvA_ne_str
  | (with_reducible apply rv_mul_int; walk_at "mul")
  | with_reducible exact rv_in_sign | (with_reducible apply rc_len_str; walk_at "sz") | with_reducible exact rc_len_lst | with_reducible exact rc_len_tup
  | with_reducible exact rc_abs | with_reducible exact rc_max2 | with_reducible exact rc_min2
  | with_reducible exact rc_all | with_reducible exact rc_any | with_reducible exact ru_neg
  | (with_reducible apply rc_isiA; with_unfolding_all rfl; decide +kernel)
  | (with_reducible apply rv_ix_lst; with_unfolding_all rfl) | (with_reducible apply rv_ix_tup; with_unfolding_all rfl)
  | (with_reducible apply rv_I; first | walk_at "sd" | (unfold CPow; decide) | (unfold CDiv; first | decide | omega)))
local macro_rules | `(tactic| walk_at "sz") => `(tactic| first | assumption | (rw [sizeLine_eq]; omega) | (rw [sizeLine_eq]; decide) | (simp [sizeLine_eq]; done))
local macro_rules | `(tactic| walk_at "sd") => `(tactic| first | assumption | omega | decide)
local macro_rules | `(tactic| walk_at "mul") => `(tactic| first | exact Or.inl ⟨by omega, by omega⟩ | exact Or.inr ⟨by omega, by omega⟩)
/-! ### the law -/
def spLawT (K : PySem.W.Frag) (P : Addr) : Sp := fun vs H Q _ => ∃ (F : Hp) (a : Addr) (ns : List Int), vs = [.ref a] ∧ Same F H ∧ TabIn P qLam F H ∧ SqL K F a (ns.map V.int) ∧ ns.length ≤ 63 ∧ ∀ H', Q (.bl true) H'
theorem spLawT_len {K : PySem.W.Frag} {P : Addr} {H : Hp} {vs : List V} {Q : VK} {E : XK} (h : spLawT K P vs H Q E) : vs.length = 1 := by
  obtain ⟨_, a, ns, rfl, _⟩ := h
  rfl
theorem TabIn.bag {F H F' H' : Hp} {P b : Addr} {qn : Str} {n : Nat} (w : TabIn P qn F H) (wb : BagAt F H b n) (x : Ext [b] F H F' H') : TabIn P qn F' H' := by
  obtain ⟨_, _, _, ob, _⟩ := wb
  refine w.keep (x.n P w.f w.has) fun c o h n1 _ => x.h c o (fun z => ?_) h
  rcases List.mem_singleton.mp z with rfl
  rw [ob.h] at h
  exact n1 _ (Option.some.inj h).symm
theorem okWs_names {ws : List (List Nat)} (h : okWs ws) (hl : ws.length ≤ 60) : okNames ws := ⟨by omega, fun w hw => ⟨(h w hw).1, by have := (h w hw).2; omega⟩⟩
theorem wtL_txts : ∀ {us : List (List Nat)}, (∀ u ∈ us, u.length ≤ 12) → wtL (us.map txt) ≤ us.length * 124
  | [], _ => by simp [wtL]
  | u :: us, h => by
    have ih := wtL_txts fun y hy => h y (List.mem_cons_of_mem _ hy)
    have h1 := h u (by simp)
    rw [List.map_cons, wtL_cons]
    have : wt (txt u) = 10 * u.length + 2 := by unfold txt wt; rw [txt_len]
    rw [this, List.length_cons]
    omega
theorem names_ok {ws : List (List Nat)} (h : okWs ws) (hl : ws.length ≤ 60) : okR (.lst (ws.map txt)) = true := by
  have t := txts_ok (ws := ws) fun w hw c hc => sign_small ((h w hw).1 c hc)
  refine okR_txt (by unfold txtD; exact t.1) (by unfold dp; rw [t.2]; omega) ?_
  unfold wt
  have := wtL_txts fun u hu => (h u hu).2
  omega
def okG (g : List D) : Prop := ∃ us : List (List Nat), g = us.map txt ∧ us.length ≤ 60 ∧ okWs us
theorem grpD_ok {fo : Fo} {ma : Ma} {ws : List (List Nat)} (h : okWs ws) (hl : ws.length ≤ 60) : (∀ g ∈ grpD fo ma ws, okG g) ∧ (grpD fo ma ws).length ≤ 60 := by
  have ls : (sortW ws).length ≤ 60 := by rw [(sortW_perm ws).length_eq]; exact hl
  refine ⟨fun g hg => ?_, ?_⟩
  · obtain ⟨x, hx, rfl⟩ := List.mem_map.mp hg
    obtain ⟨us, e, _, h2⟩ := grpK_all (f := key fo ma) (P := fun u => (∀ c ∈ u, isSignC c = true) ∧ u.length ≤ 12) (fun w hw => h w ((sortW_perm ws).subset hw)) x hx
    have := (grpK_len (key fo ma) (sortW ws)).2 x hx
    rw [e, List.length_map] at this
    exact ⟨us, e, by omega, h2⟩
  · unfold grpD
    rw [List.length_map]
    exact Nat.le_trans (grpK_len _ _).1 ls
theorem lol_wt : ∀ {gs : List (List D)}, (∀ g ∈ gs, okG g) → wtL (gs.map D.lst) ≤ gs.length * 7500
  | [], _ => by simp [wtL]
  | g :: gs, h => by
    obtain ⟨us, rfl, hl, hu⟩ := h g (by simp)
    have ih := lol_wt fun y hy => h y (List.mem_cons_of_mem _ hy)
    have := wtL_txts fun u hu' => (hu u hu').2
    rw [List.map_cons, wtL_cons, List.length_cons]
    have e : wt (.lst (us.map txt)) = wtL (us.map txt) + 4 := by unfold wt; rfl
    rw [e]
    omega
theorem lol_ok {gs : List (List D)} (h : ∀ g ∈ gs, okG g) (hl : gs.length ≤ 60) : txtD (.lst (gs.map D.lst)) = true ∧ dp (.lst (gs.map D.lst)) ≤ 40 ∧ okR (.lst (gs.map D.lst)) = true := by
  have t := lol_txt (gs := gs) fun g hg => by
    obtain ⟨us, e, _, hu⟩ := h g hg
    exact ⟨us, e, fun u hu' => (hu u hu').1⟩
  have h1 : txtD (.lst (gs.map D.lst)) = true := by unfold txtD; exact t.1
  have h2 : dp (.lst (gs.map D.lst)) ≤ 40 := by unfold dp; have := t.2; omega
  refine ⟨h1, h2, okR_txt h1 h2 ?_⟩
  have := lol_wt h
  unfold wt
  omega
theorem barD_ok {gs : List (List D)} (h : ∀ g ∈ gs, okG g) : okR (.lst [barD gs, barD gs]) = true := by
  have go : txtD (barD gs) = true ∧ dp (barD gs) ≤ 1 ∧ wt (barD gs) ≤ 300 := by
    unfold barD
    have mem : ∀ g ∈ gs.filter (fun g => decide (1 < g.length)), okG g := fun g hg => h g (List.mem_filter.mp hg).1
    generalize gs.filter (fun g => decide (1 < g.length)) = fs at mem
    match fs, mem with
    | [], _ => exact ⟨rfl, by simp [dp], (show wt D.non ≤ 300 by decide +kernel)⟩
    | [] :: _, _ => exact ⟨rfl, by simp [dp], (show wt D.non ≤ 300 by decide +kernel)⟩
    | [_] :: _, _ => exact ⟨rfl, by simp [dp], (show wt D.non ≤ 300 by decide +kernel)⟩
    | (a :: b :: g) :: _, mem =>
      obtain ⟨us, e, _, hu⟩ := mem (a :: b :: g) (by simp)
      match us, e, hu with
      | u :: v :: us, e, hu =>
        simp only [List.map_cons, List.cons.injEq] at e
        obtain ⟨rfl, rfl, _⟩ := e
        have t := txts_ok (ws := [u, v]) fun w hw c hc => sign_small ((hu w (by
          rcases List.mem_cons.mp hw with rfl | hw
          · simp
          · rcases List.mem_singleton.mp hw with rfl; simp)).1 c hc)
        refine ⟨by unfold txtD; exact t.1, ?_, ?_⟩
        · show dp (.tup ([u, v].map txt)) ≤ 1
          unfold dp
          rw [t.2]
          omega
        · have := wtL_txts (us := [u, v]) fun w hw => (hu w (by
            rcases List.mem_cons.mp hw with rfl | hw
            · simp
            · rcases List.mem_singleton.mp hw with rfl; simp)).2
          show wt (.tup ([u, v].map txt)) ≤ 300
          unfold wt
          simp only [List.length_cons, List.length_nil] at this
          omega
  refine okR_txt ?_ ?_ ?_
  · unfold txtD txtDL txtDL txtDL
    rw [go.1]; rfl
  · unfold dp dpL dpL dpL
    have := go.2.1
    omega
  · unfold wt wtL wtL wtL
    have := go.2.2
    omega
theorem grpD_ne {fo : Fo} {ma : Ma} {ws : List (List Nat)} (h : ws ≠ []) : grpD fo ma ws ≠ [] := by
  have ne : ∀ (k : Str) (d : D) (gs : List (Str × List D)), addK gs k d ≠ [] := fun k d gs => by
    cases gs with
    | nil => simp [addK]
    | cons g gs => unfold addK; split <;> simp
  have go : ∀ (ws : List (List Nat)) (gs : List (Str × List D)), gs ≠ [] ∨ ws ≠ [] → ws.foldl (fun gs w => addK gs (mkS (key fo ma w)) (txt w)) gs ≠ [] := by
    intro ws
    induction ws with
    | nil => intro gs h; rcases h with h | h; exact h; exact absurd rfl h
    | cons w ws ih => intro gs _; exact ih _ (.inl (ne _ _ _))
  unfold grpD
  intro z
  rw [List.map_eq_nil_iff] at z
  refine go (sortW ws) [] (.inr fun y => h ?_) z
  have := (sortW_perm ws).length_eq
  rw [y] at this
  exact List.length_eq_zero_iff.mp this.symm
section
variable {K : PySem.W.Frag} {vs : List V} {H : Hp} {Q : VK} {E : XK}
theorem EnvD.toU {F : Hp} : ∀ {r : List Sl} {σ : L2.St} (i : Nat), EnvD K F r σ → EnvD K F (r.set i .u) σ
  | _, _, _, .nil => .nil
  | _, _, 0, .cons _ t => .cons trivial t
  | _, _, i + 1, .cons a t => .cons a (EnvD.toU i t)
theorem EnvD.toV {F : Hp} : ∀ {r : List Sl} {σ : L2.St} {i : Nat} {d : D}, EnvD K F r σ → r[i]? = some (.d d) → ∃ v, Den K F v d ∧ EnvD K F (r.set i (.v v)) σ
  | _, _, _, _, .nil, h => by simp at h
  | _, _, 0, _, .cons a t, h => by
    simp at h
    subst h
    obtain ⟨v, e, dv⟩ := a
    exact ⟨v, dv, .cons e t⟩
  | _, _, i + 1, _, .cons a t, h => by
    obtain ⟨v, dv, e⟩ := EnvD.toV (i := i) t (by simpa using h)
    exact ⟨v, dv, .cons a e⟩
theorem EnvD.see2 {F : Hp} : ∀ {r : List Sl} {σ : L2.St} {i : Nat} {v : V} {d : D}, EnvD K F r σ → r[i]? = some (.v v) → Den K F v d → EnvD K F (r.set i (.d d)) σ
  | _, _, _, _, _, .nil, h, _ => by simp at h
  | _, _, 0, _, _, .cons a t, h, dv => by
    simp at h
    subst h
    exact .cons ⟨_, a, dv⟩ t
  | _, _, i + 1, _, _, .cons a t, h, dv => .cons a (EnvD.see2 (i := i) t (by simpa using h) dv)
theorem EnvD.flat {F F' : Hp} : ∀ {r : List Sl} {σ : L2.St}, EnvD K F r σ → (∀ s ∈ r, ∀ d, s ≠ Sl.d d) → EnvD K F' r σ
  | _, _, .nil, _ => .nil
  | s :: _, _, .cons a t, h => .cons (match s, a, h s (by simp) with
    | .u, _, _ => trivial
    | .v _, a, _ => a
    | .d d, _, h => absurd rfl (h d)) (EnvD.flat t fun s hs => h s (List.mem_cons_of_mem _ hs))
theorem str_ne_self {z : Str} : RvD K (rNeA K) (.str z) (.str z) (.bl false) := fun F H x y s hx hy Q q => rvA_ne_str F H x y s hx hy Q fun v F' H' x' d => q v F' H' x' (by rw [decide_eq_true rfl] at d; exact d)
theorem rd_law {C P : Addr} (h : spLawT K P vs H Q E) : t_law K C (spLol K 2 (R_groups C)) (spR K 2 (R_bar C)) (spTab K P qLam 2 R_lgroups) (spNames K C) (spTake K) (spIR K C 2 R_init) (spRule K) (spBag K) { nx := fun _ H' => Q .non H', rt := Q } (start N_law vs) H := by
  obtain ⟨F, a, ns, rfl, S0, T0, hs, hlen, k⟩ := h
  have EV0 : EnvD K F [.v (.ref a), .u, .u, .u, .u, .u, .u, .u, .u, .u, .u, .u, .u] (start N_law [.ref a]) :=
    .cons rfl (.cons trivial (.cons trivial (.cons trivial (.cons trivial (.cons trivial (.cons trivial (.cons trivial (.cons trivial (.cons trivial (.cons trivial (.cons trivial (.cons trivial .nil))))))))))))
  refine q_cellsT (P := P) (qn := qLam) (j := 1) (t := 2) (R := fun i r => ∃ s1 s2 s3 s4 s5 s6 s7 s8 s9 s10 s11 s12, r = [.v (.ref a), s1, s2, s3, s4, s5, s6, s7, s8, s9, s10, s11, s12] ∧ (0 < i → ∃ fo ma, Drawn fo ma ∧ s5 = .d (tabD C fo ma))) S0 EV0 T0 hs hlen ⟨by decide, by decide⟩ ⟨by decide, by decide⟩ ?_ ?_ (by decide) ⟨_, _, _, _, _, _, _, _, _, _, _, _, rfl, fun z => absurd z (by simp)⟩ ?_ ?_
  · rintro i r ⟨s1, s2, s3, s4, s5, s6, s7, s8, s9, s10, s11, s12, rfl, _⟩; rfl
  · rintro i r ⟨s1, s2, s3, s4, s5, s6, s7, s8, s9, s10, s11, s12, rfl, _⟩; show 1 < 13; decide
  · rintro i m F1 H1 b r' σ1 N g1 S1 ⟨s1, s2, s3, s4, s5, s6, s7, s8, s9, s10, s11, s12, rfl, _⟩ w1 T1 bP E1 kN
    have E1 : EnvD K F1 [.v (.ref a), .d (.int (m : Nat)), .v (.ref b), s3, s4, s5, s6, s7, s8, s9, s10, s11, s12] σ1 := E1
    refine s_turnsT (n := 0) (R := fun i r => ∃ s3 s4 s5 s6 s7 s8 s9 s10 s11 s12, r = [.v (.ref a), .d (.int (m : Nat)), .v (.ref b), s3, s4, s5, s6, s7, s8, s9, s10, s11, s12] ∧ (0 < i → ∃ fo ma, Drawn fo ma ∧ s5 = .d (tabD C fo ma))) 61000 S1 E1 (w1.less ?_) T1 bP (ei_rng1 (n := 4) (ea_cons (ev_c (.int 4)) ea_nil) (by decide) (by decide)) ⟨_, _, _, _, _, _, _, _, _, _, rfl, fun z => absurd z (by simp)⟩ ?_ ?_
    · rw [List.length_map, List.length_range]; decide
    · rintro i2 d F2 H2 r' σ2 n N2 hd g2 S2 ⟨s3, s4, s5, s6, s7, s8, s9, s10, s11, s12, rfl, _⟩ w2 T2 E2 kN2
      have E2 : EnvD K F2 [.v (.ref a), .d (.int (m : Nat)), .v (.ref b), .d d, s4, s5, s6, s7, s8, s9, s10, s11, s12] σ2 := E2
      refine q_asgB (b := b) (n := n + 60400) (c := 0 + 43) (R := fun d => ∃ fo ma, Drawn fo ma ∧ d = ruleD fo ma) S2 E2 (w2.less (by omega)) (eb_call (S := fun ds => ds = []) E2 rfl eb_nil (by rintro ds rfl; exact ⟨rfl, trivial⟩) (by rintro ds d rfl h; exact h)) ?_
      rintro _ F3 H3 σ3 ⟨fo, ma, dr, rfl⟩ x3 w3 E3
      have E3 : EnvD K F3 [.v (.ref a), .d (.int (m : Nat)), .v (.ref b), .d d, .d (ruleD fo ma), s5, s6, s7, s8, s9, s10, s11, s12] σ3 := E3
      have ok := drawn_ok dr dr
      have T3 := T2.bag w2 x3
      refine q_asg (d := tabD C fo ma) x3.s E3 (ev_makeR (C := C) (R := R_init) (gs := [("rule", ruleD fo ma)]) (ds := [foD fo, maD ma]) (ea_cons (ev_op (ev_var (i := 4) E3 rfl) (ev_c (.int 0)) (rv_ix_tup (ds := [foD fo, maD ma]) rfl)) (ea_cons (ev_op (ev_var (i := 4) E3 rfl) (ev_c (.int 1)) (rv_ix_tup (ds := [foD fo, maD ma]) rfl)) ea_nil)) ⟨fo, ma, ok, rfl, rfl⟩ rfl) fun F4 H4 σ4 x4 E4 => ?_
      have E4 : EnvD K F4 [.v (.ref a), .d (.int (m : Nat)), .v (.ref b), .d d, .d (ruleD fo ma), .d (tabD C fo ma), s6, s7, s8, s9, s10, s11, s12] σ4 := E4
      have T4 := T3.ext (M := []) x4
      refine q_asgB (b := b) (n := n) (c := (0 + (1 + 0)) + 60300) (R := fun d => ∃ ws : List (List Nat), d = .lst (ws.map txt) ∧ ws.length ≤ 60 ∧ ws ≠ [] ∧ okWs ws) x4.s E4 ((w3.ext0 x4).less (by omega)) (eb_call (c1 := 0 + (1 + 0)) (c2 := 60300) (m := 2) (pre := preNames C) (post := postNames) (S := fun ds => ∃ q : Int, ds = [tabD C fo ma, .int q] ∧ 1 ≤ q ∧ q ≤ 60) E4 rfl
        (eb_cons (RA := fun d => d = tabD C fo ma) (S := fun ds => ∃ q : Int, ds = [.int q] ∧ 1 ≤ q ∧ q ≤ 60) (eb_of (ev_var (i := 5) E4 rfl)) (eb_cons (RA := fun d => ∃ q : Int, d = .int q ∧ 1 ≤ q ∧ q ≤ 60) (eb_weak (eb_pick_lst (ds := [.int 3, .int 12, .int 60]) E4 rfl (ev_lst (ea_cons (ev_c (.int 3)) (ea_cons (ev_c (.int 12)) (ea_cons (ev_c (.int 60)) ea_nil))) (by rw [sizeLine_eq]; simp)) (ev_c (.int 3)) (by decide) rfl (by decide)) (Nat.le_refl _) ?_) eb_nil ?_) ?_) ?_ ?_) ?_
      · intro d hd
        simp only [List.mem_cons, List.not_mem_nil, or_false] at hd
        rcases hd with rfl | rfl | rfl
        · exact ⟨3, rfl, by decide, by decide⟩
        · exact ⟨12, rfl, by decide, by decide⟩
        · exact ⟨60, rfl, by decide, by decide⟩
      · rintro x xs ⟨q, rfl, h1, h2⟩ rfl
        exact ⟨q, rfl, h1, h2⟩
      · rintro x xs rfl ⟨q, rfl, h1, h2⟩
        exact ⟨q, rfl, h1, h2⟩
      · rintro ds ⟨q, rfl, h1, h2⟩
        exact ⟨rfl, h1, h2, fo, ma, dr, rfl⟩
      · rintro ds d _ h
        exact h
      rintro _ F5 H5 σ5 ⟨ws, rfl, wl, wne, gw⟩ x5 w5 E5
      have E5 : EnvD K F5 [.v (.ref a), .d (.int (m : Nat)), .v (.ref b), .d d, .d (ruleD fo ma), .d (tabD C fo ma), .d (.lst (ws.map txt)), s7, s8, s9, s10, s11, s12] σ5 := E5
      have T5 := T4.bag (w3.ext0 x4) x5
      have on := okWs_names gw wl
      have okn := names_ok gw wl
      obtain ⟨gok, gl⟩ := grpD_ok (fo := fo) (ma := ma) gw wl
      have gne := grpD_ne (fo := fo) (ma := ma) wne
      obtain ⟨gtx, gdp, gok2⟩ := lol_ok gok gl
      refine q_parTab (i := 10) (j := 11) (RR := R_lgroups) (ds := [ruleD fo ma, .lst (ws.map txt)]) (gs := grpD fo ma ws) x5.s E5 T5 (ea_cons (ev_var (i := 4) E5 rfl) (ea_cons (ev_var (i := 6) E5 rfl) ea_nil)) ⟨fo, ma, ws, ok, on, rfl, rfl⟩ rfl (ev_cb (ea_cons (ev_var (i := 6) E5 rfl) ea_nil) (rc_repr okn)) fun F6 H6 σ6 x6 T6 E6 => ?_
      have E6 : EnvD K F6 [.v (.ref a), .d (.int (m : Nat)), .v (.ref b), .d d, .d (ruleD fo ma), .d (tabD C fo ma), .d (.lst (ws.map txt)), s7, s8, s9, .d (.lst ((grpD fo ma ws).map D.lst)), .d (.str (shownD (.lst (ws.map txt)))), s12] σ6 := E6
      refine q_asgLol (j := 7) (R := R_groups C) (ds := [tabD C fo ma, .lst (ws.map txt)]) (gs := grpD fo ma ws) x6.s E6 (ea_cons (ev_var (i := 5) E6 rfl) (ea_cons (ev_var (i := 6) E6 rfl) ea_nil)) ⟨fo, ma, ws, ok, on, rfl, rfl⟩ rfl fun q rows F7 H7 σ7 x7 lol E7 => ?_
      have E7 : EnvD K F7 [.v (.ref a), .d (.int (m : Nat)), .v (.ref b), .d d, .d (ruleD fo ma), .d (tabD C fo ma), .d (.lst (ws.map txt)), .v (.ref q), s8, s9, .d (.lst ((grpD fo ma ws).map D.lst)), .d (.str (shownD (.lst (ws.map txt)))), s12] σ7 := E7
      obtain ⟨vT, dT, E7⟩ := EnvD.toV (i := 5) E7 rfl
      obtain ⟨vN, dN, E7⟩ := EnvD.toV (i := 6) E7 rfl
      obtain ⟨vD, dD, E7⟩ := EnvD.toV (i := 10) E7 rfl
      have E7v : EnvD K F7 [.v (.ref a), .d (.int (m : Nat)), .v (.ref b), .u, .u, .v vT, .v vN, .v (.ref q), .u, .u, .v vD, .d (.str (shownD (.lst (ws.map txt)))), .u] σ7 := ((((E7.toU 3).toU 4).toU 8).toU 9).toU 12
      obtain ⟨yG, gS, dQ⟩ := lol.data x7
      have EG := E7v.up gS
      have SG := yG.s
      have X7 : ∀ F8 H8, Ext [] (frzS (lolS q rows) F7 H7) H7 F8 H8 → Ext [] F7 H7 (delS (lolS q rows) F8) H8 ∧ LolAt K H6 (delS (lolS q rows) F8) H8 q rows (grpD fo ma ws) := fun F8 H8 x => lol.thaw x
      generalize frzS (lolS q rows) F7 H7 = G at gS dQ EG SG X7
      have dT' := dT.up gS
      have dN' := dN.up gS
      have dD' := dD.up gS
      have tst : ∀ {F' : Hp} {r' : List Sl} {σ' : L2.St}, EnvD K F' r' σ' → Same G F' → r'[5]? = some (.v vT) → r'[6]? = some (.v vN) → EvD K (tCall (spLol K 2 (R_groups C)) [] L2.E0 (tCons (tVar 5) (tCons (tRevA K (tVar 6)) tNil))) σ' F' (.lst ((grpD fo ma ws).map D.lst)) := by
        intro F' r' σ' E' g h5 h6
        refine ev_callL (R := R_groups C) (ds := [tabD C fo ma, .lst (ws.map txt).reverse]) (ea_cons (ev_varV E' h5 (dT'.up g)) (ea_cons (el_rev (ev_varV E' h6 (dN'.up g))).toD ea_nil)) ⟨fo, ma, ws.reverse, ok, ⟨by rw [List.length_reverse]; exact on.1, fun w hw => on.2 w (List.mem_reverse.mp hw)⟩, ?_, ?_⟩ rfl
        · rw [List.map_reverse]
        · rw [grpD_rev]
      refine q_if (K := K) (b := false) SG (et_or (a := false) (b := false) (et_test (ev_op (ev_cb (ea_cons (ev_varV (i := 7) EG rfl dQ) ea_nil) (rc_repr gok2)) (ev_cb (ea_cons (ev_varV (i := 10) EG rfl dD') ea_nil) (rc_repr gok2)) str_ne_self))
        fun _ => et_or (a := false) (b := false) (et_test (ev_op (ev_cb (ea_cons (ev_varV (i := 6) EG rfl dN') ea_nil) (rc_repr okn)) (ev_var (i := 11) EG rfl) str_ne_self)) fun _ => et_test (ev_op (tst EG (Same.refl _) rfl rfl) (ev_varV (i := 10) EG rfl dD') (rv_ne_self gtx (by omega)))) (fun z => nomatch z) fun _ F8 H8 x8 => ?_
      unfold tNext
      dsimp only
      have E8 := EG.up x8.f
      let big : D → Bool := fun d => match d with | .lst g => decide (1 < g.length) | _ => false
      have fe : (((grpD fo ma ws).map D.lst).filter big).map (fun x => x) = ((grpD fo ma ws).filter fun g => decide (1 < g.length)).map D.lst := by
        rw [List.map_id', List.filter_map]
        rfl
      refine q_asg (d := .lst (((grpD fo ma ws).filter fun g => decide (1 < g.length)).map D.lst)) x8.s E8 (ev_is (ev_lcIf (f := fun x => x) (p := big) E8 (ei_lst (ev_varV (i := 10) E8 rfl (dD'.up x8.f))) (by rw [List.length_map, sizeLine_eq]; omega) (wipe1 12) ?_ ?_) (congrArg D.lst fe)) fun F9 H9 σ9 x9 E9 => ?_
      · intro d F' σ' hd _ E'
        obtain ⟨g, hg, rfl⟩ := List.mem_map.mp hd
        exact et_test (ev_is (ev_op (ev_cb (ea_cons (ev_var (i := 12) E' rfl) ea_nil) rc_len_lst) (ev_c (.int 1)) rv_gt_int) (by show D.bl (decide ((1 : Int) < (g.length : Int))) = D.bl (decide (1 < g.length)); congr 1; exact decide_eq_decide.mpr (by omega)))
      · intro d F' σ' _ _ E' _
        exact ev_var E' rfl
      have fok : ∀ g ∈ (grpD fo ma ws).filter (fun g => decide (1 < g.length)), okG g ∧ 1 < g.length := fun g hg => ⟨gok g (List.mem_filter.mp hg).1, of_decide_eq_true (List.mem_filter.mp hg).2⟩
      have fokl : ((grpD fo ma ws).filter (fun g => decide (1 < g.length))).length ≤ 60 := Nat.le_trans (List.length_filter_le _ _) gl
      obtain ⟨ftx, fdp, _⟩ := lol_ok (fun g hg => (fok g hg).1) fokl
      have E9 : EnvD K F9 [.v (.ref a), .d (.int (m : Nat)), .v (.ref b), .u, .u, .v vT, .v vN, .v (.ref q), .d (.lst (((grpD fo ma ws).filter fun g => decide (1 < g.length)).map D.lst)), .u, .v vD, .d (.str (shownD (.lst (ws.map txt)))), .u] σ9 := E9
      have bok := barD_ok gok
      have evP : EvD K (tIf (tTest (tOp (rEqA K) (tVar 8) (tLst tNil))) (tC .non) (tTup (tCons (tOp (rIxA K) (tOp (rIxA K) (tVar 8) (tC (.int 0))) (tC (.int 0))) (tCons (tOp (rIxA K) (tOp (rIxA K) (tVar 8) (tC (.int 0))) (tC (.int 1))) tNil)))) σ9 F9 (barD (grpD fo ma ws)) := by
        unfold barD
        generalize (grpD fo ma ws).filter (fun g => decide (1 < g.length)) = fs at E9 fok ftx fdp
        have test : EvT K (tTest (tOp (rEqA K) (tVar 8) (tLst tNil))) σ9 F9 (fs.map D.lst).isEmpty := et_test (ev_op (ev_var (i := 8) E9 rfl) (ev_lst ea_nil (Nat.zero_le _)) (rv_eq_nil ftx (by omega)))
        cases fs with
        | nil => exact ev_if test (fun _ => ev_c .non) fun z => absurd z (by simp)
        | cons g fs =>
          have h1 := (fok g (by simp)).2
          match g, h1 with
          | [], h1 => simp at h1
          | [_], h1 => simp at h1
          | x :: y :: g, _ =>
            refine ev_if test (fun z => absurd z (by simp)) fun _ => ?_
            have e0 : EvD K (tOp (rIxA K) (tVar 8) (tC (.int 0))) σ9 F9 (.lst (x :: y :: g)) := ev_op (ev_var (i := 8) E9 rfl) (ev_c (.int 0)) (rv_ix_lst (atI_nat (j := 0) rfl))
            exact ev_tup (as := [x, y]) (ea_cons (ev_op e0 (ev_c (.int 0)) (rv_ix_lst (atI_nat (j := 0) rfl))) (ea_cons (ev_op e0 (ev_c (.int 1)) (rv_ix_lst (atI_nat (j := 1) rfl))) ea_nil)) (by rw [sizeLine_eq]; simp)
      refine q_asg (d := barD (grpD fo ma ws)) x9.s E9 evP fun F10 H10 σ10 x10 E10 => ?_
      have E10 : EnvD K F10 [.v (.ref a), .d (.int (m : Nat)), .v (.ref b), .u, .u, .v vT, .v vN, .v (.ref q), .d (.lst (((grpD fo ma ws).filter fun g => decide (1 < g.length)).map D.lst)), .d (barD (grpD fo ma ws)), .v vD, .d (.str (shownD (.lst (ws.map txt)))), .u] σ10 := E10
      have g10 : Same G F10 := (x8.f.trans x9.f).trans x10.f
      have b1 : EvD K (tCall (spR K 2 (R_bar C)) [] L2.E0 (tCons (tVar 5) (tCons (tVar 6) tNil))) σ10 F10 (barD (grpD fo ma ws)) := ev_callR (R := R_bar C) (ds := [tabD C fo ma, .lst (ws.map txt)]) (ea_cons (ev_varV (i := 5) E10 rfl (dT'.up g10)) (ea_cons (ev_varV (i := 6) E10 rfl (dN'.up g10)) ea_nil)) ⟨fo, ma, ws, ok, on, rfl, rfl⟩ rfl
      have b2 : EvD K (tCall (spR K 2 (R_bar C)) [] L2.E0 (tCons (tVar 5) (tCons (tRevA K (tVar 6)) tNil))) σ10 F10 (barD (grpD fo ma ws)) := by
        refine ev_callR (R := R_bar C) (ds := [tabD C fo ma, .lst (ws.map txt).reverse]) (ea_cons (ev_varV (i := 5) E10 rfl (dT'.up g10)) (ea_cons (el_rev (ev_varV (i := 6) E10 rfl (dN'.up g10))).toD ea_nil)) ⟨fo, ma, ws.reverse, ok, ⟨by rw [List.length_reverse]; exact on.1, fun w hw => on.2 w (List.mem_reverse.mp hw)⟩, ?_, ?_⟩ rfl
        · rw [List.map_reverse]
        · rw [grpD_rev]
      refine q_if (K := K) (b := false) x10.s (et_test (ev_op (ev_cb (ea_cons (ev_lst (as := [barD (grpD fo ma ws), barD (grpD fo ma ws)]) (ea_cons b1 (ea_cons b2 ea_nil)) (by rw [sizeLine_eq]; simp)) ea_nil) (rc_repr bok)) (ev_cb (ea_cons (ev_lst (as := [barD (grpD fo ma ws), barD (grpD fo ma ws)]) (ea_cons (ev_var (i := 9) E10 rfl) (ea_cons (ev_var (i := 9) E10 rfl) ea_nil)) (by rw [sizeLine_eq]; simp)) ea_nil) (rc_repr bok)) str_ne_self)) (fun z => nomatch z) fun _ F11 H11 x11 => ?_
      dsimp only
      -- the list of lists is changed
      obtain ⟨X11, lol11⟩ := X7 F11 H11 (((x8.tr x9).tr x10).tr x11)
      obtain ⟨v1, d1, E10⟩ := EnvD.toV (i := 1) E10 rfl
      cases d1
      have E11 : EnvD K (delS (lolS q rows) F11) [.v (.ref a), .v (.int (m : Nat)), .v (.ref b), .u, .u, .v vT, .v vN, .v (.ref q), .u, .u, .v vD, .u, .u] σ10 := by
        have e : EnvD K F10 [.v (.ref a), .v (.int (m : Nat)), .v (.ref b), .u, .u, .v vT, .v vN, .v (.ref q), .u, .u, .v vD, .u, .u] σ10 := (((E10.toU 8).toU 9).toU 11).toU 12
        exact e.flat (by simp)
      cases rows with
      | nil =>
        have := Paired.length lol11.r
        exact absurd (List.length_eq_zero_iff.mp this.symm) gne
      | cons x0 rows =>
        obtain ⟨g0, hg0, w0⟩ := lrow_mem lol11.r (x := x0) (by simp)
        obtain ⟨us0, e0, l0, _⟩ := gok g0 hg0
        have lx0 : x0.2.length ≤ 60 := by rw [w0.l.length, e0, List.length_map]; exact l0
        have lrs : (x0 :: rows).length ≤ 60 := by rw [Paired.length lol11.r]; exact gl
        obtain ⟨o7, h7, h7'⟩ := E11.get (i := 7) rfl
        have h7' : o7 = some (.ref q) := h7'
        subst h7'
        refine ⟨.ref q, h7, .inl (.inl ⟨q, _, 0, V.ref x0.1, rfl, rfl, SqL.of lol11.o.h, atI_nat (j := 0) rfl, ?_⟩)⟩
        refine ⟨.inl ⟨rfl, x0.2, SqL.of w0.o.h⟩, x0.1, x0.2, _, rfl, rfl, w0.o.h, by rw [sizeLine_eq]; omega, ?_⟩
        generalize eH : upd H11 x0.1 _ = H12
        have XT : Ext [] F6 H6 (delS (lolS q (x0 :: rows)) F11) H12 := by
          rw [← eH]
          exact (x7.tr X11).mutNew w0.n w0.o.f
        have oq : Own (delS (lolS q (x0 :: rows)) F11) H12 q (.lst ((x0 :: rows).map fun r => V.ref r.1)) := ⟨lol11.o.f, by rw [← eH, upd_ne (Ne.symm w0.q)]; exact lol11.o.h⟩
        refine q_app XT.s E11 rfl oq (ev_lst (as := []) ea_nil (Nat.zero_le _)) (by rw [List.length_map]; omega) fun v F13 H13 x13 o13 dv => ?_
        have XT2 : Ext [] F6 H6 F13 (upd H13 q (.lst (((x0 :: rows).map fun r => V.ref r.1) ++ [v]))) := (XT.tr x13).mutNew lol.n o13.f
        have E13 := E11.up x13.f
        have g13 := X11.f.trans x13.f
        refine s_if (K := K) (b := false) XT2.s (et_test (ev_op (ev_callL (R := R_groups C) (ds := [tabD C fo ma, .lst (ws.map txt)]) (ea_cons (ev_varV (i := 5) E13 rfl (dT.up g13)) (ea_cons (ev_varV (i := 6) E13 rfl (dN.up g13)) ea_nil)) ⟨fo, ma, ws, ok, on, rfl, rfl⟩ rfl) (ev_varV (i := 10) E13 rfl (dD.up g13)) (rv_ne_self gtx (by omega)))) (fun z => nomatch z) fun _ F14 H14 x14 => ?_
        have XA := XT2.tr x14
        have E14 := ((E13.up x14.f).see2 (i := 5) rfl ((dT.up g13).up x14.f)).see2 (i := 1) rfl (.int (m : Nat))
        exact kN2 F14 H14 _ _ (((((x3.tl x4).trans x5).wide (by simp)).trans (x6.wide (by simp))).tl XA) ((w5.ext x6 (by simpa using bP)).ext0 XA) (T6.ext (M := []) XA) E14 ⟨_, _, _, _, _, _, _, _, _, _, rfl, fun _ => ⟨fo, ma, dr, rfl⟩⟩
    · rintro F' H' r' σ' x' w' t' E' ⟨s3, s4, s5, s6, s7, s8, s9, s10, s11, s12, rfl, h5⟩
      exact kN F' H' _ _ x' t' E' ⟨_, _, _, _, _, _, _, _, _, _, _, _, rfl, fun _ => h5 (by simp)⟩
  · rintro i F1 H1 r' σ1 hi _ S1 E1 ⟨s1, s2, s3, s4, s5, s6, s7, s8, s9, s10, s11, s12, rfl, h5⟩
    obtain ⟨fo, ma, dr, rfl⟩ := h5 (by omega)
    have ok := drawn_ok dr dr
    have on0 : okNames [] := ⟨by simp, fun w hw => by simp at hw⟩
    have on1 : okNames [[97]] := ⟨by simp, fun w hw => by
      rcases List.mem_singleton.mp hw with rfl
      exact ⟨by decide +kernel, by simp⟩⟩
    have g0 : grpD fo ma [] = [] := by unfold grpD sortW grpK; simp
    have g1 : barD (grpD fo ma [[97]]) = .non := by unfold grpD sortW grpK; simp [addK, barD]
    have e1 : EvD K (tCall (spLol K 2 (R_groups C)) [] L2.E0 (tCons (tVar 5) (tCons (tLst tNil) tNil))) σ1 F1 (.lst ((grpD fo ma []).map D.lst)) := ev_callL (R := R_groups C) (ds := [tabD C fo ma, .lst []]) (ea_cons (ev_var (i := 5) E1 rfl) (ea_cons (ev_lst ea_nil (Nat.zero_le _)) ea_nil)) ⟨fo, ma, [], ok, on0, rfl, rfl⟩ rfl
    have e2 : EvD K (tCall (spR K 2 (R_bar C)) [] L2.E0 (tCons (tVar 5) (tCons (tLst tNil) tNil))) σ1 F1 (barD (grpD fo ma [])) := ev_callR (R := R_bar C) (ds := [tabD C fo ma, .lst []]) (ea_cons (ev_var (i := 5) E1 rfl) (ea_cons (ev_lst ea_nil (Nat.zero_le _)) ea_nil)) ⟨fo, ma, [], ok, on0, rfl, rfl⟩ rfl
    have e3 : EvD K (tCall (spR K 2 (R_bar C)) [] L2.E0 (tCons (tVar 5) (tCons (tLst (tCons (tC (.str "a")) tNil)) tNil))) σ1 F1 (barD (grpD fo ma [[97]])) := ev_callR (R := R_bar C) (ds := [tabD C fo ma, .lst ([[97]].map txt)]) (ea_cons (ev_var (i := 5) E1 rfl) (ea_cons (ev_lst (as := [txt [97]]) (ea_cons (ev_c (.str _)) ea_nil) (by rw [sizeLine_eq]; simp)) ea_nil)) ⟨fo, ma, [[97]], ok, on1, rfl, rfl⟩ rfl
    rw [g0] at e1 e2
    rw [g1] at e3
    refine s_ret (K := K) (d := .bl (true && (true && true))) S1 (ev_and (ev_op e1 (ev_lst ea_nil (Nat.zero_le _)) (rv_eq_nil rfl (by simp [dp, dpL]))) fun _ => ev_and (ev_op e2 (ev_c .non) (rv_isN rfl)) fun _ => ev_op e3 (ev_c .non) (rv_isN rfl)) fun v F4 H4 x4 dv => by cases dv; exact k H4
end
end Nm

set_option Elab.async false
set_option linter.all false
set_option maxRecDepth 100000
set_option maxHeartbeats 400000
namespace Nm
open PySem PySem.Spec L2
local macro_rules | `(tactic| walk_at "ev") => `(tactic| first
  | (with_reducible apply ev_var; assumption; with_unfolding_all rfl)
  | (with_reducible apply ev_c; first | with_reducible exact Den.int _ | with_reducible exact Den.str _ | with_reducible exact Den.bl _ | with_reducible exact Den.non | with_reducible exact Den.ty _)
  | with_reducible exact ea_nil
  | (with_reducible apply ea_cons; walk_at "ev"; walk_at "ev")
  | (with_reducible apply ev_op; walk_at "ev"; walk_at "ev"; walk_at "rv")
  | (with_reducible apply ev_cb; walk_at "ev"; walk_at "rv")
  | (with_reducible apply ev_lst; walk_at "ev"; walk_at "sz")
  | (with_reducible apply ev_tup; walk_at "ev"; walk_at "sz")
  | (with_reducible apply ev_un; walk_at "ev"; walk_at "rv")
  | (with_reducible apply ev_chainU; walk_at "ev"; walk_at "ev"; walk_at "rv"; walk_at "ev"; walk_at "rv")
  | with_reducible exact ev_dnew
  | with_reducible exact ev_disp1 (fun _ => Den.str _)
  | (with_reducible apply et_test; walk_at "ev")
  | (with_reducible apply et_B; walk_at "ev")
  | (with_reducible apply et_not; walk_at "ev")
  | (with_reducible apply ev_not; walk_at "ev")
  | (with_reducible apply ev_sl_str; walk_at "ev"; walk_at "ev"; walk_at "ev"; walk_at "sz")
  | (with_reducible apply eo_some; walk_at "ev")
  | with_reducible exact eo_none)
local macro_rules | `(tactic| walk_at "rv") => `(tactic| first
  | with_reducible exact rv_add_int | (with_reducible apply rv_add_str; walk_at "sz") | (with_reducible apply rv_add_lst; walk_at "sz")
  | with_reducible exact rv_lt_int | with_reducible exact rv_le_int | with_reducible exact rv_gt_int | with_reducible exact rv_ge_int
  | with_reducible exact rvA_eq_int | with_reducible exact rvA_eq_str | with_reducible exact rvA_ne_int | with_reducible exact rvA_ne_str
  | (with_reducible apply rv_mul_int; walk_at "mul")
  | with_reducible exact rv_in_sign | (with_reducible apply rc_len_str; walk_at "sz") | with_reducible exact rc_len_lst | with_reducible exact rc_len_tup
  | with_reducible exact rc_abs | with_reducible exact rc_max2 | with_reducible exact rc_min2
  | with_reducible exact rc_all | with_reducible exact rc_any | with_reducible exact ru_neg
  | (with_reducible apply rc_isiA; with_unfolding_all rfl; decide +kernel)
  | (with_reducible apply rv_ix_lst; with_unfolding_all rfl) | (with_reducible apply rv_ix_tup; with_unfolding_all rfl)
  | (with_reducible apply rv_I; first | walk_at "sd" | (unfold CPow; decide) | (unfold CDiv; first | decide | omega)))
local macro_rules | `(tactic| walk_at "sz") => `(tactic| first | assumption | (rw [sizeLine_eq]; omega) | (rw [sizeLine_eq]; decide) | (simp [sizeLine_eq]; done))
local macro_rules | `(tactic| walk_at "sd") => `(tactic| first | assumption | omega | decide)
local macro_rules | `(tactic| walk_at "mul") => `(tactic| first | exact Or.inl ⟨by omega, by omega⟩ | exact Or.inr ⟨by omega, by omega⟩)
theorem lawT_start {K : PySem.W.Frag} {H : Hp} {a c P : Addr} {ns : List Int} (fr : Fresh [(c, P)] H) (hl : ns.length ≤ 63) (hS : SqL K H a (ns.map V.int)) : spLawT K P [.ref a] H (fun v _ => v = .bl true) fun _ _ _ => False := by
  have hP : H P = some (.tbl #[]) := fr.t (c, P) (by simp)
  refine ⟨fun b => if b = P then none else H b, a, ns, rfl, fun b o e => ?_, ⟨if_pos rfl, LamX.TabS.nil hP⟩, ?_, hl, fun _ => rfl⟩
  · dsimp only at e
    by_cases z : b = P
    · rw [if_pos z] at e; cases e
    · rw [if_neg z] at e; exact e
  · rcases hS with h | h
    · refine .inl ?_
      have ne : a ≠ P := by
        rintro rfl
        rcases h with h | ⟨o, h⟩ <;> rw [hP] at h <;> cases h
      rcases h with h | ⟨o, h⟩
      · exact .inl ((if_neg ne).trans h)
      · exact .inr ⟨o, (if_neg ne).trans h⟩
    · exact .inr h
end Nm

set_option Elab.async false
set_option linter.all false
set_option maxRecDepth 100000
set_option maxHeartbeats 4000000
namespace Nm
open PySem PySem.Spec L2 PyProof.Rows
section
variable {P : Program} {w : World} {K : PySem.W.Frag} {mg : Str → Option Value} {base : Heap}
theorem ok_is_sign (T : Txt K mg) : FnOk P w K mg base CX0 1 T.a_is_sign T.fd_is_sign P_is_sign (spP K 1 f_is_sign) :=
  T.F_is_sign.ok sc_is_sign (fun vs H Q E h => spP_len h) fun cdv A outer s H vs Q E hr h => ⟨_, d_is_sign T hr , rd_is_sign h⟩
theorem ok_is_class (T : Txt K mg) : FnOk P w K mg base CX0 1 T.a_is_class T.fd_is_class P_is_class (spR K 1 R_is_class) :=
  T.F_is_class.ok sc_is_class (fun vs H Q E h => spR_len h) fun cdv A outer s H vs Q E hr h => ⟨_, d_is_class T hr , rd_is_class T.s_CLASSES h⟩
theorem ok_word_order (T : Txt K mg) : FnOk P w K mg base CX0 1 T.a_word_order T.fd_word_order P_word_order (spR K 1 R_word_order) :=
  T.F_word_order.ok sc_word_order (fun vs H Q E h => spR_len h) fun cdv A outer s H vs Q E hr h => ⟨_, d_word_order T hr , rd_word_order h⟩
theorem ok_in_order (T : Txt K mg) : FnOk P w K mg base CX0 1 T.a_in_order T.fd_in_order P_in_order (spR K 2 R_in_order) :=
  T.F_in_order.ok sc_in_order (fun vs H Q E h => spR_len h) fun cdv A outer s H vs Q E hr h => ⟨_, d_in_order T hr , rd_in_order T.s_CLASSES h⟩
theorem ok_Table_folds (T : Txt K mg) : FnOk P w K mg base CX0 1 T.a_Table_folds T.fd_Table_folds P_Table_folds (spR K 1 (R_folds T.a_Table)) :=
  T.F_Table_folds.ok sc_Table_folds (fun vs H Q E h => spR_len h) fun cdv A outer s H vs Q E hr h => ⟨_, d_Table_folds T hr , rd_Table_folds T.cl_Table T.na_Table_rule h⟩
theorem ok_Table_marks (T : Txt K mg) : FnOk P w K mg base CX0 1 T.a_Table_marks T.fd_Table_marks P_Table_marks (spR K 1 (R_marks T.a_Table)) :=
  T.F_Table_marks.ok sc_Table_marks (fun vs H Q E h => spR_len h) fun cdv A outer s H vs Q E hr h => ⟨_, d_Table_marks T hr , rd_Table_marks T.cl_Table T.na_Table_rule h⟩
theorem ok_put (T : Txt K mg) : FnOk P w K mg base CX0 1 T.a_put T.fd_put P_put (spR K 4 R_put) :=
  T.F_put.ok sc_put (fun vs H Q E h => spR_len h) fun cdv A outer s H vs Q E hr h => ⟨_, d_put T hr , rd_put h⟩
theorem ok_law_bag (T : Txt K mg) : FnOk P w K mg base CX0 1 T.a_law_bag T.fd_law_bag P_law_bag (spBag K) :=
  T.F_law_bag.ok sc_law_bag (fun vs H Q E h => spBag_len h) fun cdv A outer s H vs Q E hr h => ⟨_, d_law_bag T hr , rd_law_bag h⟩
theorem ok_law_take (T : Txt K mg) : FnOk P w K mg base CX0 1 T.a_law_take T.fd_law_take P_law_take (spTake K) :=
  T.F_law_take.ok sc_law_take (fun vs H Q E h => spB_len h) fun cdv A outer s H vs Q E hr h => ⟨_, d_law_take T hr , rd_law_take h⟩
theorem ok_law_key (T : Txt K mg) : FnOk P w K mg base CX0 1 T.a_law_key T.fd_law_key P_law_key (spR K 2 R_key_of) :=
  T.F_law_key.ok sc_law_key (fun vs H Q E h => spR_len h) fun cdv A outer s H vs Q E hr h => ⟨_, d_law_key T hr , rd_law_key h⟩
theorem ok_has_signs (T : Txt K mg) : FnOk P w K mg base CX0 2 T.a_has_signs T.fd_has_signs P_has_signs (spP K 2 f_has_signs) :=
  T.F_has_signs.ok sc_has_signs (fun vs H Q E h => spP_len h) fun cdv A outer s H vs Q E hr h => ⟨_, d_has_signs T hr (ok_is_sign T), rd_has_signs h⟩
theorem ok_look_marks (T : Txt K mg) : FnOk P w K mg base CX0 2 T.a_look_marks T.fd_look_marks P_look_marks (spR K 2 R_look_marks) :=
  T.F_look_marks.ok sc_look_marks (fun vs H Q E h => spR_len h) fun cdv A outer s H vs Q E hr h => ⟨_, d_look_marks T hr (ok_is_class T) (ok_is_sign T), rd_look_marks h⟩
theorem ok_ordered_runs (T : Txt K mg) : FnOk P w K mg base CX0 2 T.a_ordered_runs T.fd_ordered_runs P_ordered_runs (spR K 2 R_ordered_runs) :=
  T.F_ordered_runs.ok sc_ordered_runs (fun vs H Q E h => spR_len h) fun cdv A outer s H vs Q E hr h => ⟨_, d_ordered_runs T hr (ok_in_order T), rd_ordered_runs h⟩
theorem ok_by_folds (T : Txt K mg) : FnOk P w K mg base CX0 2 T.a_by_folds T.fd_by_folds P_by_folds (spR K 2 R_by_folds) :=
  T.F_by_folds.ok sc_by_folds (fun vs H Q E h => spR_len h) fun cdv A outer s H vs Q E hr h => ⟨_, d_by_folds T hr (ok_put T), rd_by_folds h⟩
theorem ok_by_marks (T : Txt K mg) : FnOk P w K mg base CX0 2 T.a_by_marks T.fd_by_marks P_by_marks (spR K 2 R_by_marks) :=
  T.F_by_marks.ok sc_by_marks (fun vs H Q E h => spR_len h) fun cdv A outer s H vs Q E hr h => ⟨_, d_by_marks T hr (ok_put T), rd_by_marks h⟩
theorem ok_law_rule (T : Txt K mg) : FnOk P w K mg base CX0 2 T.a_law_rule T.fd_law_rule P_law_rule (spRule K) :=
  T.F_law_rule.ok sc_law_rule (fun vs H Q E h => spB_len h) fun cdv A outer s H vs Q E hr h => ⟨_, d_law_rule T hr (ok_law_take T), rd_law_rule h⟩
theorem ok_law_word (T : Txt K mg) : FnOk P w K mg base CX0 2 T.a_law_word T.fd_law_word P_law_word (spWord K) :=
  T.F_law_word.ok sc_law_word (fun vs H Q E h => spB_len h) fun cdv A outer s H vs Q E hr h => ⟨_, d_law_word T hr (ok_law_take T), rd_law_word h⟩
theorem ok_look_folds (T : Txt K mg) : FnOk P w K mg base CX0 3 T.a_look_folds T.fd_look_folds P_look_folds (spR K 1 R_look_folds) :=
  T.F_look_folds.ok sc_look_folds (fun vs H Q E h => spR_len h) fun cdv A outer s H vs Q E hr h => ⟨_, d_look_folds T hr (ok_has_signs T) (ok_is_sign T), rd_look_folds h⟩
theorem ok_key_of (T : Txt K mg) : FnOk P w K mg base CX0 3 T.a_key_of T.fd_key_of P_key_of (spR K 2 R_key_of) :=
  T.F_key_of.ok sc_key_of (fun vs H Q E h => spR_len h) fun cdv A outer s H vs Q E hr h => ⟨_, d_key_of T hr (ok_ordered_runs T), rd_key_of h⟩
theorem ok_exchanges (T : Txt K mg) : FnOk P w K mg base CX0 3 T.a_exchanges T.fd_exchanges P_exchanges (spFL K 2 (R_exchanges T.a_Table)) :=
  T.F_exchanges.ok sc_exchanges (fun vs H Q E h => spFL_len h) fun cdv A outer s H vs Q E hr h => ⟨_, d_exchanges T hr (ok_by_marks T) (ok_Table_marks T) (ok_by_folds T) (ok_Table_folds T), rd_exchanges h⟩
theorem ok_Table___init (T : Txt K mg) : FnOk P w K mg base CX0 4 T.a_Table___init T.fd_Table___init P_Table___init (spIR K T.a_Table 2 R_init) :=
  T.F_Table___init.ok sc_Table___init (fun vs H Q E h => spIR_len h) fun cdv A outer s H vs Q E hr h => ⟨_, d_Table___init T hr (ok_look_marks T) (ok_look_folds T), rd_init T.cl_Table T.na_Table_rule h⟩
theorem ok_groups (T : Txt K mg) : FnOk P w K mg base CX0 4 T.a_groups T.fd_groups P_groups (spLol K 2 (R_groups T.a_Table)) :=
  T.F_groups.ok sc_groups (fun vs H Q E h => spLol_len h) fun cdv A outer s H vs Q E hr h => ⟨_, d_groups T hr (ok_word_order T) (ok_key_of T), rd_groups T.cl_Table T.na_Table_rule h⟩
theorem ok_law_names (T : Txt K mg) : FnOk P w K mg base CX0 4 T.a_law_names T.fd_law_names P_law_names (spNames K T.a_Table) :=
  T.F_law_names.ok sc_law_names (fun vs H Q E h => spB_len h) fun cdv A outer s H vs Q E hr h => ⟨_, d_law_names T hr (ok_law_take T) (ok_law_word T) (ok_exchanges T), rd_law_names h⟩
theorem ok_law_groups (T : Txt K mg) (TB : LamX.TabB base mg T.a_law_groups_code T.a_law_groups_tab) : FnOk P w K mg base CX0 4 T.a_law_groups T.fd_law_groups P_law_groups (spTab K T.a_law_groups_tab qLam 2 R_lgroups) :=
  fnC T.F_law_groups sc_law_groups T.cd_law_groups (fun vs H Q E h => spTab_len h) fun A outer s H vs Q E hr h => ⟨_, d_law_groups T hr TB rfl (ok_law_key T), rd_law_groups h⟩
theorem ok_bar (T : Txt K mg) : FnOk P w K mg base CX0 5 T.a_bar T.fd_bar P_bar (spR K 2 (R_bar T.a_Table)) :=
  T.F_bar.ok sc_bar (fun vs H Q E h => spR_len h) fun cdv A outer s H vs Q E hr h => ⟨_, d_bar T hr (ok_groups T), rd_bar h⟩
theorem ok_law (T : Txt K mg) (TB : LamX.TabB base mg T.a_law_groups_code T.a_law_groups_tab) : FnOkG P w K mg base CX0 6 T.a_law T.fd_law P_law (spLawT K T.a_law_groups_tab) :=
  fnG0 T.F_law sc_law (fun vs H Q E h => spLawT_len h) fun cdv A outer s H vs Q E g hr h => ⟨_, d_law T hr g (ok_groups T) (ok_bar T) (ok_law_groups T TB) (ok_law_names T) (ok_law_take T) (ok_Table___init T) (ok_law_rule T) (ok_law_bag T), rd_law h⟩
end
theorem fin {l : PySem.W.OpenLaw} {w : World} {K : PySem.W.Frag} {h : Heap} {mg : Str → Option Value} {fa : Addr} (X : K.In h) (G : h.Ns mainGlobals mg) (hfa : mg "law" = some (.ref fa))
    {C0 : Addr} (aC0 : PySem.W.nsIn K mainGlobals "Table" = some (some (.ref C0))) (pg0 : PySem.W.plainGet K C0 Str.empty = true) (hd0 : PySem.W.hasDictIn K C0 = true) (po0 : PySem.W.plainOver K C0 = true) (sa0 : PySem.W.findIn K (.ref C0) "__setattr__" = some (some (.builtin "object.__setattr__"))) (mk0 : PySem.W.makesIn K C0 = true) (kc0 : PySem.W.keepIn K (.ref C0) = true)
    (na0_rule : PySem.W.findIn K (.ref C0) "rule" = some none)
    {f0 : Addr} {oc0 kV0 dc0 pm0 cd0 ct0 : Value} {od0 an0 : Option Addr} {sl0 : Array (Option Value)} (a0 : PySem.W.nsIn K mainGlobals "is_sign" = some (some (.ref f0))) (l0 : K.lookup f0 = some ⟨oc0, od0, .func (PySem.W.fnOf "is_sign" "is_sign" (defArgs s_is_sign) (defBody s_is_sign) (defScope s_is_sign) .none kV0 dc0 pm0 an0 cd0 ct0), sl0⟩) (c0 : PySem.W.codeIn K cd0 "is_sign" = true) (k0 : PySem.W.keepIn K (.ref f0) = true)
    {f1 : Addr} {oc1 kV1 dc1 pm1 cd1 ct1 : Value} {od1 an1 : Option Addr} {sl1 : Array (Option Value)} (a1 : PySem.W.nsIn K mainGlobals "has_signs" = some (some (.ref f1))) (l1 : K.lookup f1 = some ⟨oc1, od1, .func (PySem.W.fnOf "has_signs" "has_signs" (defArgs s_has_signs) (defBody s_has_signs) (defScope s_has_signs) .none kV1 dc1 pm1 an1 cd1 ct1), sl1⟩) (c1 : PySem.W.codeIn K cd1 "has_signs" = true) (k1 : PySem.W.keepIn K (.ref f1) = true)
    {f2 : Addr} {oc2 kV2 dc2 pm2 cd2 ct2 : Value} {od2 an2 : Option Addr} {sl2 : Array (Option Value)} (a2 : PySem.W.nsIn K mainGlobals "is_class" = some (some (.ref f2))) (l2 : K.lookup f2 = some ⟨oc2, od2, .func (PySem.W.fnOf "is_class" "is_class" (defArgs s_is_class) (defBody s_is_class) (defScope s_is_class) .none kV2 dc2 pm2 an2 cd2 ct2), sl2⟩) (c2 : PySem.W.codeIn K cd2 "is_class" = true) (k2 : PySem.W.keepIn K (.ref f2) = true)
    {f3 : Addr} {oc3 kV3 dc3 pm3 cd3 ct3 : Value} {od3 an3 : Option Addr} {sl3 : Array (Option Value)} (a3 : PySem.W.nsIn K mainGlobals "word_order" = some (some (.ref f3))) (l3 : K.lookup f3 = some ⟨oc3, od3, .func (PySem.W.fnOf "word_order" "word_order" (defArgs s_word_order) (defBody s_word_order) (defScope s_word_order) .none kV3 dc3 pm3 an3 cd3 ct3), sl3⟩) (c3 : PySem.W.codeIn K cd3 "word_order" = true) (k3 : PySem.W.keepIn K (.ref f3) = true)
    {f4 : Addr} {oc4 kV4 dc4 pm4 cd4 ct4 : Value} {od4 an4 : Option Addr} {sl4 : Array (Option Value)} (a4 : PySem.W.nsIn K mainGlobals "look_folds" = some (some (.ref f4))) (l4 : K.lookup f4 = some ⟨oc4, od4, .func (PySem.W.fnOf "look_folds" "look_folds" (defArgs s_look_folds) (defBody s_look_folds) (defScope s_look_folds) .none kV4 dc4 pm4 an4 cd4 ct4), sl4⟩) (c4 : PySem.W.codeIn K cd4 "look_folds" = true) (k4 : PySem.W.keepIn K (.ref f4) = true)
    {f5 : Addr} {oc5 kV5 dc5 pm5 cd5 ct5 : Value} {od5 an5 : Option Addr} {sl5 : Array (Option Value)} (a5 : PySem.W.nsIn K mainGlobals "look_marks" = some (some (.ref f5))) (l5 : K.lookup f5 = some ⟨oc5, od5, .func (PySem.W.fnOf "look_marks" "look_marks" (defArgs s_look_marks) (defBody s_look_marks) (defScope s_look_marks) .none kV5 dc5 pm5 an5 cd5 ct5), sl5⟩) (c5 : PySem.W.codeIn K cd5 "look_marks" = true) (k5 : PySem.W.keepIn K (.ref f5) = true)
    {f6 : Addr} {oc6 kV6 dc6 pm6 cd6 ct6 : Value} {od6 an6 : Option Addr} {sl6 : Array (Option Value)} (a6 : PySem.W.nsIn K mainGlobals "in_order" = some (some (.ref f6))) (l6 : K.lookup f6 = some ⟨oc6, od6, .func (PySem.W.fnOf "in_order" "in_order" (defArgs s_in_order) (defBody s_in_order) (defScope s_in_order) .none kV6 dc6 pm6 an6 cd6 ct6), sl6⟩) (c6 : PySem.W.codeIn K cd6 "in_order" = true) (k6 : PySem.W.keepIn K (.ref f6) = true)
    {f7 : Addr} {oc7 kV7 dc7 pm7 cd7 ct7 : Value} {od7 an7 : Option Addr} {sl7 : Array (Option Value)} (a7 : PySem.W.nsIn K mainGlobals "ordered_runs" = some (some (.ref f7))) (l7 : K.lookup f7 = some ⟨oc7, od7, .func (PySem.W.fnOf "ordered_runs" "ordered_runs" (defArgs s_ordered_runs) (defBody s_ordered_runs) (defScope s_ordered_runs) .none kV7 dc7 pm7 an7 cd7 ct7), sl7⟩) (c7 : PySem.W.codeIn K cd7 "ordered_runs" = true) (k7 : PySem.W.keepIn K (.ref f7) = true)
    {f8 : Addr} {oc8 kV8 dc8 pm8 cd8 ct8 : Value} {od8 an8 : Option Addr} {sl8 : Array (Option Value)} (a8 : PySem.W.nsIn K mainGlobals "key_of" = some (some (.ref f8))) (l8 : K.lookup f8 = some ⟨oc8, od8, .func (PySem.W.fnOf "key_of" "key_of" (defArgs s_key_of) (defBody s_key_of) (defScope s_key_of) .none kV8 dc8 pm8 an8 cd8 ct8), sl8⟩) (c8 : PySem.W.codeIn K cd8 "key_of" = true) (k8 : PySem.W.keepIn K (.ref f8) = true)
    {f9 : Addr} {oc9 kV9 dc9 pm9 cd9 ct9 : Value} {od9 an9 : Option Addr} {sl9 : Array (Option Value)} (a9 : PySem.W.findIn K (.ref C0) "__init__" = some (some (.ref f9))) (l9 : K.lookup f9 = some ⟨oc9, od9, .func (PySem.W.fnOf "__init__" "Table.__init__" (defArgs s_Table___init) (defBody s_Table___init) (defScope s_Table___init) .none kV9 dc9 pm9 an9 cd9 ct9), sl9⟩) (c9 : PySem.W.codeIn K cd9 "Table.__init__" = true) (k9 : PySem.W.keepIn K (.ref f9) = true)
    (i9 : PySem.W.isFn K (.ref f9) = true)
    {p10 : Addr} {pl10 : List Value} (pa10 : PySem.W.findIn K (.ref C0) "folds" = some (some (.ref p10))) (pb10 : PySem.W.specialIn K (.ref p10) "__get__" = some (some (.builtin "property.__get__"))) (pc10 : PySem.W.takesIn K (.ref p10) = some true)
    {f10 : Addr} {oc10 kV10 dc10 pm10 cd10 ct10 : Value} {od10 an10 : Option Addr} {sl10 : Array (Option Value)} (a10 : PySem.W.recIn K p10 "property" = some (.ref f10 :: pl10)) (l10 : K.lookup f10 = some ⟨oc10, od10, .func (PySem.W.fnOf "folds" "Table.folds" (defArgs s_Table_folds) (defBody s_Table_folds) (defScope s_Table_folds) .none kV10 dc10 pm10 an10 cd10 ct10), sl10⟩) (c10 : PySem.W.codeIn K cd10 "Table.folds" = true) (k10 : PySem.W.keepIn K (.ref f10) = true)
    {p11 : Addr} {pl11 : List Value} (pa11 : PySem.W.findIn K (.ref C0) "marks" = some (some (.ref p11))) (pb11 : PySem.W.specialIn K (.ref p11) "__get__" = some (some (.builtin "property.__get__"))) (pc11 : PySem.W.takesIn K (.ref p11) = some true)
    {f11 : Addr} {oc11 kV11 dc11 pm11 cd11 ct11 : Value} {od11 an11 : Option Addr} {sl11 : Array (Option Value)} (a11 : PySem.W.recIn K p11 "property" = some (.ref f11 :: pl11)) (l11 : K.lookup f11 = some ⟨oc11, od11, .func (PySem.W.fnOf "marks" "Table.marks" (defArgs s_Table_marks) (defBody s_Table_marks) (defScope s_Table_marks) .none kV11 dc11 pm11 an11 cd11 ct11), sl11⟩) (c11 : PySem.W.codeIn K cd11 "Table.marks" = true) (k11 : PySem.W.keepIn K (.ref f11) = true)
    {f12 : Addr} {oc12 kV12 dc12 pm12 cd12 ct12 : Value} {od12 an12 : Option Addr} {sl12 : Array (Option Value)} (a12 : PySem.W.nsIn K mainGlobals "groups" = some (some (.ref f12))) (l12 : K.lookup f12 = some ⟨oc12, od12, .func (PySem.W.fnOf "groups" "groups" (defArgs s_groups) (defBody s_groups) (defScope s_groups) .none kV12 dc12 pm12 an12 cd12 ct12), sl12⟩) (c12 : PySem.W.codeIn K cd12 "groups" = true) (k12 : PySem.W.keepIn K (.ref f12) = true)
    {f13 : Addr} {oc13 kV13 dc13 pm13 cd13 ct13 : Value} {od13 an13 : Option Addr} {sl13 : Array (Option Value)} (a13 : PySem.W.nsIn K mainGlobals "bar" = some (some (.ref f13))) (l13 : K.lookup f13 = some ⟨oc13, od13, .func (PySem.W.fnOf "bar" "bar" (defArgs s_bar) (defBody s_bar) (defScope s_bar) .none kV13 dc13 pm13 an13 cd13 ct13), sl13⟩) (c13 : PySem.W.codeIn K cd13 "bar" = true) (k13 : PySem.W.keepIn K (.ref f13) = true)
    {f14 : Addr} {oc14 kV14 dc14 pm14 cd14 ct14 : Value} {od14 an14 : Option Addr} {sl14 : Array (Option Value)} (a14 : PySem.W.nsIn K mainGlobals "put" = some (some (.ref f14))) (l14 : K.lookup f14 = some ⟨oc14, od14, .func (PySem.W.fnOf "put" "put" (defArgs s_put) (defBody s_put) (defScope s_put) .none kV14 dc14 pm14 an14 cd14 ct14), sl14⟩) (c14 : PySem.W.codeIn K cd14 "put" = true) (k14 : PySem.W.keepIn K (.ref f14) = true)
    {f15 : Addr} {oc15 kV15 dc15 pm15 cd15 ct15 : Value} {od15 an15 : Option Addr} {sl15 : Array (Option Value)} (a15 : PySem.W.nsIn K mainGlobals "by_folds" = some (some (.ref f15))) (l15 : K.lookup f15 = some ⟨oc15, od15, .func (PySem.W.fnOf "by_folds" "by_folds" (defArgs s_by_folds) (defBody s_by_folds) (defScope s_by_folds) .none kV15 dc15 pm15 an15 cd15 ct15), sl15⟩) (c15 : PySem.W.codeIn K cd15 "by_folds" = true) (k15 : PySem.W.keepIn K (.ref f15) = true)
    {f16 : Addr} {oc16 kV16 dc16 pm16 cd16 ct16 : Value} {od16 an16 : Option Addr} {sl16 : Array (Option Value)} (a16 : PySem.W.nsIn K mainGlobals "by_marks" = some (some (.ref f16))) (l16 : K.lookup f16 = some ⟨oc16, od16, .func (PySem.W.fnOf "by_marks" "by_marks" (defArgs s_by_marks) (defBody s_by_marks) (defScope s_by_marks) .none kV16 dc16 pm16 an16 cd16 ct16), sl16⟩) (c16 : PySem.W.codeIn K cd16 "by_marks" = true) (k16 : PySem.W.keepIn K (.ref f16) = true)
    {f17 : Addr} {oc17 kV17 dc17 pm17 cd17 ct17 : Value} {od17 an17 : Option Addr} {sl17 : Array (Option Value)} (a17 : PySem.W.nsIn K mainGlobals "exchanges" = some (some (.ref f17))) (l17 : K.lookup f17 = some ⟨oc17, od17, .func (PySem.W.fnOf "exchanges" "exchanges" (defArgs s_exchanges) (defBody s_exchanges) (defScope s_exchanges) .none kV17 dc17 pm17 an17 cd17 ct17), sl17⟩) (c17 : PySem.W.codeIn K cd17 "exchanges" = true) (k17 : PySem.W.keepIn K (.ref f17) = true)
    {f18 : Addr} {oc18 kV18 dc18 pm18 cd18 ct18 : Value} {od18 an18 : Option Addr} {sl18 : Array (Option Value)} (a18 : PySem.W.nsIn K mainGlobals "_law_bag" = some (some (.ref f18))) (l18 : K.lookup f18 = some ⟨oc18, od18, .func (PySem.W.fnOf "_law_bag" "_law_bag" (defArgs s_law_bag) (defBody s_law_bag) (defScope s_law_bag) .none kV18 dc18 pm18 an18 cd18 ct18), sl18⟩) (c18 : PySem.W.codeIn K cd18 "_law_bag" = true) (k18 : PySem.W.keepIn K (.ref f18) = true)
    {f19 : Addr} {oc19 kV19 dc19 pm19 cd19 ct19 : Value} {od19 an19 : Option Addr} {sl19 : Array (Option Value)} (a19 : PySem.W.nsIn K mainGlobals "_law_take" = some (some (.ref f19))) (l19 : K.lookup f19 = some ⟨oc19, od19, .func (PySem.W.fnOf "_law_take" "_law_take" (defArgs s_law_take) (defBody s_law_take) (defScope s_law_take) .none kV19 dc19 pm19 an19 cd19 ct19), sl19⟩) (c19 : PySem.W.codeIn K cd19 "_law_take" = true) (k19 : PySem.W.keepIn K (.ref f19) = true)
    {f20 : Addr} {oc20 kV20 dc20 pm20 cd20 ct20 : Value} {od20 an20 : Option Addr} {sl20 : Array (Option Value)} (a20 : PySem.W.nsIn K mainGlobals "_law_rule" = some (some (.ref f20))) (l20 : K.lookup f20 = some ⟨oc20, od20, .func (PySem.W.fnOf "_law_rule" "_law_rule" (defArgs s_law_rule) (defBody s_law_rule) (defScope s_law_rule) .none kV20 dc20 pm20 an20 cd20 ct20), sl20⟩) (c20 : PySem.W.codeIn K cd20 "_law_rule" = true) (k20 : PySem.W.keepIn K (.ref f20) = true)
    {f21 : Addr} {oc21 kV21 dc21 pm21 cd21 ct21 : Value} {od21 an21 : Option Addr} {sl21 : Array (Option Value)} (a21 : PySem.W.nsIn K mainGlobals "_law_word" = some (some (.ref f21))) (l21 : K.lookup f21 = some ⟨oc21, od21, .func (PySem.W.fnOf "_law_word" "_law_word" (defArgs s_law_word) (defBody s_law_word) (defScope s_law_word) .none kV21 dc21 pm21 an21 cd21 ct21), sl21⟩) (c21 : PySem.W.codeIn K cd21 "_law_word" = true) (k21 : PySem.W.keepIn K (.ref f21) = true)
    {f22 : Addr} {oc22 kV22 dc22 pm22 cd22 ct22 : Value} {od22 an22 : Option Addr} {sl22 : Array (Option Value)} (a22 : PySem.W.nsIn K mainGlobals "_law_key" = some (some (.ref f22))) (l22 : K.lookup f22 = some ⟨oc22, od22, .func (PySem.W.fnOf "_law_key" "_law_key" (defArgs s_law_key) (defBody s_law_key) (defScope s_law_key) .none kV22 dc22 pm22 an22 cd22 ct22), sl22⟩) (c22 : PySem.W.codeIn K cd22 "_law_key" = true) (k22 : PySem.W.keepIn K (.ref f22) = true)
    {f23 : Addr} {oc23 kV23 dc23 pm23 cd23 ct23 : Value} {od23 an23 : Option Addr} {sl23 : Array (Option Value)} (a23 : PySem.W.nsIn K mainGlobals "_law_names" = some (some (.ref f23))) (l23 : K.lookup f23 = some ⟨oc23, od23, .func (PySem.W.fnOf "_law_names" "_law_names" (defArgs s_law_names) (defBody s_law_names) (defScope s_law_names) .none kV23 dc23 pm23 an23 cd23 ct23), sl23⟩) (c23 : PySem.W.codeIn K cd23 "_law_names" = true) (k23 : PySem.W.keepIn K (.ref f23) = true)
    {f24 : Addr} {oc24 kV24 dc24 pm24 cd24 ct24 : Value} {od24 an24 : Option Addr} {sl24 : Array (Option Value)} (a24 : PySem.W.nsIn K mainGlobals "_law_groups" = some (some (.ref f24))) (l24 : K.lookup f24 = some ⟨oc24, od24, .func (PySem.W.fnOf "_law_groups" "_law_groups" (defArgs s_law_groups) (defBody s_law_groups) (defScope s_law_groups) .none kV24 dc24 pm24 an24 cd24 ct24), sl24⟩) (c24 : PySem.W.codeIn K cd24 "_law_groups" = true) (k24 : PySem.W.keepIn K (.ref f24) = true)
    {f25 : Addr} {oc25 kV25 dc25 pm25 cd25 ct25 : Value} {od25 an25 : Option Addr} {sl25 : Array (Option Value)} (a25 : PySem.W.nsIn K mainGlobals "law" = some (some (.ref f25))) (l25 : K.lookup f25 = some ⟨oc25, od25, .func (PySem.W.fnOf "law" "law" (defArgs s_law) (defBody s_law) (defScope s_law) .none kV25 dc25 pm25 an25 cd25 ct25), sl25⟩) (c25 : PySem.W.codeIn K cd25 "law" = true) (k25 : PySem.W.keepIn K (.ref f25) = true)
    {t0 : Addr} {td0 : Option Addr} {tn0 : Nat} {ts0 : Array (Option Value)} {ti0 : List Value} (ta0 : PySem.W.nsIn K mainGlobals "CLASSES" = some (some (.ref t0))) (tl0 : K.lookup t0 = some ⟨.type "tuple", td0, .seq ti0.toArray tn0, ts0⟩) (tv0 : Vals [.int 1, .int 2, .int 3] ti0) (tz0 : ti0.length ≤ 1000)
    {u0 : Value} (v0 : PySem.W.nsIn K mainGlobals "LETTERS" = some (some u0)) (r0 : RelV (.str "abcdefghijklmnopqrstuvwxyz") u0)
    {u1 : Value} (v1 : PySem.W.nsIn K mainGlobals "CAPITALS" = some (some u1)) (r1 : RelV (.str "ABCDEFGHIJKLMNOPQRSTUVWXYZ") u1)
    {u2 : Value} (v2 : PySem.W.nsIn K mainGlobals "OTHERS" = some (some u2)) (r2 : RelV (.str "0123456789'-.:^_~") u2)
    {u3 : Value} (v3 : PySem.W.nsIn K mainGlobals "MOST_WORD" = some (some u3)) (r3 : RelV (.int 40) u3)
    {u4 : Value} (v4 : PySem.W.nsIn K mainGlobals "MOST_FOLD" = some (some u4)) (r4 : RelV (.int 3) u4)
    {u5 : Value} (v5 : PySem.W.nsIn K mainGlobals "MOST_FOLDS" = some (some u5)) (r5 : RelV (.int 40) u5)
    {u6 : Value} (v6 : PySem.W.nsIn K mainGlobals "MOST_MARKS" = some (some u6)) (r6 : RelV (.int 8) u6)
    (z0 : PySem.W.nsIn K mainGlobals "abs" = some none)
    (z1 : PySem.W.nsIn K mainGlobals "all" = some none)
    (z2 : PySem.W.nsIn K mainGlobals "any" = some none)
    (z3 : PySem.W.nsIn K mainGlobals "bool" = some none)
    (z4 : PySem.W.nsIn K mainGlobals "dict" = some none)
    (z5 : PySem.W.nsIn K mainGlobals "enumerate" = some none)
    (z6 : PySem.W.nsIn K mainGlobals "int" = some none)
    (z7 : PySem.W.nsIn K mainGlobals "isinstance" = some none)
    (z8 : PySem.W.nsIn K mainGlobals "len" = some none)
    (z9 : PySem.W.nsIn K mainGlobals "list" = some none)
    (z10 : PySem.W.nsIn K mainGlobals "max" = some none)
    (z11 : PySem.W.nsIn K mainGlobals "min" = some none)
    (z12 : PySem.W.nsIn K mainGlobals "range" = some none)
    (z13 : PySem.W.nsIn K mainGlobals "repr" = some none)
    (z14 : PySem.W.nsIn K mainGlobals "set" = some none)
    (z15 : PySem.W.nsIn K mainGlobals "sorted" = some none)
    (z16 : PySem.W.nsIn K mainGlobals "str" = some none)
    (z17 : PySem.W.nsIn K mainGlobals "zip" = some none)
    {lc : Addr} (lp : Addr) (le : cd24 = .ref lc) (lh : PySem.W.codeHdIn K lc lp = true) (ln : K.lookup lp = none) (lt : h.get? lp = some { cls := .none, data := .fields #[] }) :
    ∃ (fd : FuncData) (cs : List (Addr × Addr)) (sp : Sp), (∀ p ∈ cs, h.get? p.2 = some { cls := .none, data := .fields #[] }) ∧ (∀ p ∈ cs, K.lookup p.2 = none) ∧ (∀ p ∈ cs, PySem.W.CodeHd h p.1 p.2) ∧ (∀ (s : Shared) (u : Value), BindsTo s fd ⟨[u], []⟩ [("_law_script", u)]) ∧
      (∀ (H : Hp) (a : Addr) (ns : List Int), ns.length ≤ 63 → Fresh cs H → SqL K H a (ns.map V.int) → sp [.ref a] H (fun v _ => v = .bl true) fun _ _ _ => False) ∧
      ∀ base : Heap, K.In base → base.Ns mainGlobals mg → (∀ p ∈ cs, LamX.TabB base mg p.1 p.2) → FnOkG l.prog w K mg base CX0 6 fa fd ["_law_script"] sp := by
  have e := hfa.symm.trans (PySem.W.mg_of X G a25)
  cases e
  let T : Txt K mg := {
    a_Table := C0
    g_Table := PySem.W.mg_of X G aC0
    cl_Table := ⟨pg0, hd0, po0, sa0⟩
    na_Table_rule := na0_rule
    a_is_sign := f0
    fd_is_sign := _
    g_is_sign := PySem.W.mg_of X G a0
    k_is_sign := k0
    F_is_sign := fun_mk (st := s_is_sign) l0 c0 k0
    b_is_sign := (fun_mk (st := s_is_sign) l0 c0 k0).binds (ps := P_is_sign) fun _ _ _ _ _ _ us hl => match us, hl with | [_], _ => rfl
    a_has_signs := f1
    fd_has_signs := _
    g_has_signs := PySem.W.mg_of X G a1
    k_has_signs := k1
    F_has_signs := fun_mk (st := s_has_signs) l1 c1 k1
    b_has_signs := (fun_mk (st := s_has_signs) l1 c1 k1).binds (ps := P_has_signs) fun _ _ _ _ _ _ us hl => match us, hl with | [_, _], _ => rfl
    a_is_class := f2
    fd_is_class := _
    g_is_class := PySem.W.mg_of X G a2
    k_is_class := k2
    F_is_class := fun_mk (st := s_is_class) l2 c2 k2
    b_is_class := (fun_mk (st := s_is_class) l2 c2 k2).binds (ps := P_is_class) fun _ _ _ _ _ _ us hl => match us, hl with | [_], _ => rfl
    a_word_order := f3
    fd_word_order := _
    g_word_order := PySem.W.mg_of X G a3
    k_word_order := k3
    F_word_order := fun_mk (st := s_word_order) l3 c3 k3
    b_word_order := (fun_mk (st := s_word_order) l3 c3 k3).binds (ps := P_word_order) fun _ _ _ _ _ _ us hl => match us, hl with | [_], _ => rfl
    a_look_folds := f4
    fd_look_folds := _
    g_look_folds := PySem.W.mg_of X G a4
    k_look_folds := k4
    F_look_folds := fun_mk (st := s_look_folds) l4 c4 k4
    b_look_folds := (fun_mk (st := s_look_folds) l4 c4 k4).binds (ps := P_look_folds) fun _ _ _ _ _ _ us hl => match us, hl with | [_], _ => rfl
    a_look_marks := f5
    fd_look_marks := _
    g_look_marks := PySem.W.mg_of X G a5
    k_look_marks := k5
    F_look_marks := fun_mk (st := s_look_marks) l5 c5 k5
    b_look_marks := (fun_mk (st := s_look_marks) l5 c5 k5).binds (ps := P_look_marks) fun _ _ _ _ _ _ us hl => match us, hl with | [_, _], _ => rfl
    a_in_order := f6
    fd_in_order := _
    g_in_order := PySem.W.mg_of X G a6
    k_in_order := k6
    F_in_order := fun_mk (st := s_in_order) l6 c6 k6
    b_in_order := (fun_mk (st := s_in_order) l6 c6 k6).binds (ps := P_in_order) fun _ _ _ _ _ _ us hl => match us, hl with | [_, _], _ => rfl
    a_ordered_runs := f7
    fd_ordered_runs := _
    g_ordered_runs := PySem.W.mg_of X G a7
    k_ordered_runs := k7
    F_ordered_runs := fun_mk (st := s_ordered_runs) l7 c7 k7
    b_ordered_runs := (fun_mk (st := s_ordered_runs) l7 c7 k7).binds (ps := P_ordered_runs) fun _ _ _ _ _ _ us hl => match us, hl with | [_, _], _ => rfl
    a_key_of := f8
    fd_key_of := _
    g_key_of := PySem.W.mg_of X G a8
    k_key_of := k8
    F_key_of := fun_mk (st := s_key_of) l8 c8 k8
    b_key_of := (fun_mk (st := s_key_of) l8 c8 k8).binds (ps := P_key_of) fun _ _ _ _ _ _ us hl => match us, hl with | [_, _], _ => rfl
    a_Table___init := f9
    fd_Table___init := _
    k_Table___init := k9
    F_Table___init := fun_mk (st := s_Table___init) l9 c9 k9
    b_Table___init := (fun_mk (st := s_Table___init) l9 c9 k9).binds (ps := P_Table___init) fun _ _ _ _ _ _ us hl => match us, hl with | [_, _, _], _ => rfl
    mk_Table := ⟨mk0, a9, i9, kc0⟩
    p_Table_folds := p10
    pr_Table_folds := ⟨pa10, pb10, pc10, pl10, a10⟩
    a_Table_folds := f10
    fd_Table_folds := _
    k_Table_folds := k10
    F_Table_folds := fun_mk (st := s_Table_folds) l10 c10 k10
    b_Table_folds := (fun_mk (st := s_Table_folds) l10 c10 k10).binds (ps := P_Table_folds) fun _ _ _ _ _ _ us hl => match us, hl with | [_], _ => rfl
    p_Table_marks := p11
    pr_Table_marks := ⟨pa11, pb11, pc11, pl11, a11⟩
    a_Table_marks := f11
    fd_Table_marks := _
    k_Table_marks := k11
    F_Table_marks := fun_mk (st := s_Table_marks) l11 c11 k11
    b_Table_marks := (fun_mk (st := s_Table_marks) l11 c11 k11).binds (ps := P_Table_marks) fun _ _ _ _ _ _ us hl => match us, hl with | [_], _ => rfl
    a_groups := f12
    fd_groups := _
    g_groups := PySem.W.mg_of X G a12
    k_groups := k12
    F_groups := fun_mk (st := s_groups) l12 c12 k12
    b_groups := (fun_mk (st := s_groups) l12 c12 k12).binds (ps := P_groups) fun _ _ _ _ _ _ us hl => match us, hl with | [_, _], _ => rfl
    a_bar := f13
    fd_bar := _
    g_bar := PySem.W.mg_of X G a13
    k_bar := k13
    F_bar := fun_mk (st := s_bar) l13 c13 k13
    b_bar := (fun_mk (st := s_bar) l13 c13 k13).binds (ps := P_bar) fun _ _ _ _ _ _ us hl => match us, hl with | [_, _], _ => rfl
    a_put := f14
    fd_put := _
    g_put := PySem.W.mg_of X G a14
    k_put := k14
    F_put := fun_mk (st := s_put) l14 c14 k14
    b_put := (fun_mk (st := s_put) l14 c14 k14).binds (ps := P_put) fun _ _ _ _ _ _ us hl => match us, hl with | [_, _, _, _], _ => rfl
    a_by_folds := f15
    fd_by_folds := _
    g_by_folds := PySem.W.mg_of X G a15
    k_by_folds := k15
    F_by_folds := fun_mk (st := s_by_folds) l15 c15 k15
    b_by_folds := (fun_mk (st := s_by_folds) l15 c15 k15).binds (ps := P_by_folds) fun _ _ _ _ _ _ us hl => match us, hl with | [_, _], _ => rfl
    a_by_marks := f16
    fd_by_marks := _
    g_by_marks := PySem.W.mg_of X G a16
    k_by_marks := k16
    F_by_marks := fun_mk (st := s_by_marks) l16 c16 k16
    b_by_marks := (fun_mk (st := s_by_marks) l16 c16 k16).binds (ps := P_by_marks) fun _ _ _ _ _ _ us hl => match us, hl with | [_, _], _ => rfl
    a_exchanges := f17
    fd_exchanges := _
    g_exchanges := PySem.W.mg_of X G a17
    k_exchanges := k17
    F_exchanges := fun_mk (st := s_exchanges) l17 c17 k17
    b_exchanges := (fun_mk (st := s_exchanges) l17 c17 k17).binds (ps := P_exchanges) fun _ _ _ _ _ _ us hl => match us, hl with | [_, _], _ => rfl
    a_law_bag := f18
    fd_law_bag := _
    g_law_bag := PySem.W.mg_of X G a18
    k_law_bag := k18
    F_law_bag := fun_mk (st := s_law_bag) l18 c18 k18
    b_law_bag := (fun_mk (st := s_law_bag) l18 c18 k18).binds (ps := P_law_bag) fun _ _ _ _ _ _ us hl => match us, hl with | [_, _], _ => rfl
    a_law_take := f19
    fd_law_take := _
    g_law_take := PySem.W.mg_of X G a19
    k_law_take := k19
    F_law_take := fun_mk (st := s_law_take) l19 c19 k19
    b_law_take := (fun_mk (st := s_law_take) l19 c19 k19).binds (ps := P_law_take) fun _ _ _ _ _ _ us hl => match us, hl with | [_, _], _ => rfl
    a_law_rule := f20
    fd_law_rule := _
    g_law_rule := PySem.W.mg_of X G a20
    k_law_rule := k20
    F_law_rule := fun_mk (st := s_law_rule) l20 c20 k20
    b_law_rule := (fun_mk (st := s_law_rule) l20 c20 k20).binds (ps := P_law_rule) fun _ _ _ _ _ _ us hl => match us, hl with | [_], _ => rfl
    a_law_word := f21
    fd_law_word := _
    g_law_word := PySem.W.mg_of X G a21
    k_law_word := k21
    F_law_word := fun_mk (st := s_law_word) l21 c21 k21
    b_law_word := (fun_mk (st := s_law_word) l21 c21 k21).binds (ps := P_law_word) fun _ _ _ _ _ _ us hl => match us, hl with | [_, _], _ => rfl
    a_law_key := f22
    fd_law_key := _
    g_law_key := PySem.W.mg_of X G a22
    k_law_key := k22
    F_law_key := fun_mk (st := s_law_key) l22 c22 k22
    b_law_key := (fun_mk (st := s_law_key) l22 c22 k22).binds (ps := P_law_key) fun _ _ _ _ _ _ us hl => match us, hl with | [_, _], _ => rfl
    a_law_names := f23
    fd_law_names := _
    g_law_names := PySem.W.mg_of X G a23
    k_law_names := k23
    F_law_names := fun_mk (st := s_law_names) l23 c23 k23
    b_law_names := (fun_mk (st := s_law_names) l23 c23 k23).binds (ps := P_law_names) fun _ _ _ _ _ _ us hl => match us, hl with | [_, _, _], _ => rfl
    a_law_groups := f24
    fd_law_groups := _
    g_law_groups := PySem.W.mg_of X G a24
    k_law_groups := k24
    F_law_groups := fun_mk (st := s_law_groups) l24 c24 k24
    b_law_groups := (fun_mk (st := s_law_groups) l24 c24 k24).binds (ps := P_law_groups) fun _ _ _ _ _ _ us hl => match us, hl with | [_, _], _ => rfl
    a_law := fa
    fd_law := _
    g_law := PySem.W.mg_of X G a25
    k_law := k25
    F_law := fun_mk (st := s_law) l25 c25 k25
    b_law := (fun_mk (st := s_law) l25 c25 k25).binds (ps := P_law) fun _ _ _ _ _ _ us hl => match us, hl with | [_], _ => rfl
    a_CLASSES := t0
    g_CLASSES := PySem.W.mg_of X G ta0
    s_CLASSES := fun _ => .inr ⟨_, _, _, tl0, rfl, rfl, (by rw [List.size_toArray, sizeLine_eq]; omega), tv0⟩
    u_LETTERS := u0
    g_LETTERS := PySem.W.mg_of X G v0
    r_LETTERS := r0
    u_CAPITALS := u1
    g_CAPITALS := PySem.W.mg_of X G v1
    r_CAPITALS := r1
    u_OTHERS := u2
    g_OTHERS := PySem.W.mg_of X G v2
    r_OTHERS := r2
    u_MOST_WORD := u3
    g_MOST_WORD := PySem.W.mg_of X G v3
    r_MOST_WORD := r3
    u_MOST_FOLD := u4
    g_MOST_FOLD := PySem.W.mg_of X G v4
    r_MOST_FOLD := r4
    u_MOST_FOLDS := u5
    g_MOST_FOLDS := PySem.W.mg_of X G v5
    r_MOST_FOLDS := r5
    u_MOST_MARKS := u6
    g_MOST_MARKS := PySem.W.mg_of X G v6
    r_MOST_MARKS := r6
    n_abs := PySem.W.mg_none_of X G z0
    n_all := PySem.W.mg_none_of X G z1
    n_any := PySem.W.mg_none_of X G z2
    n_bool := PySem.W.mg_none_of X G z3
    n_dict := PySem.W.mg_none_of X G z4
    n_enumerate := PySem.W.mg_none_of X G z5
    n_int := PySem.W.mg_none_of X G z6
    n_isinstance := PySem.W.mg_none_of X G z7
    n_len := PySem.W.mg_none_of X G z8
    n_list := PySem.W.mg_none_of X G z9
    n_max := PySem.W.mg_none_of X G z10
    n_min := PySem.W.mg_none_of X G z11
    n_range := PySem.W.mg_none_of X G z12
    n_repr := PySem.W.mg_none_of X G z13
    n_set := PySem.W.mg_none_of X G z14
    n_sorted := PySem.W.mg_none_of X G z15
    n_str := PySem.W.mg_none_of X G z16
    n_zip := PySem.W.mg_none_of X G z17
    a_law_groups_tab := lp
    a_law_groups_code := lc
    cd_law_groups := le }
  refine ⟨T.fd_law, [(lc, lp)], spLawT K lp, fun p hp => ?_, fun p hp => ?_, fun p hp => ?_, fun s v => .of_eq rfl, fun H a ns hl fr hS => lawT_start fr hl hS, fun base _ _ TB => ok_law T (TB (lc, lp) (by simp))⟩
  · rw [List.mem_singleton.mp hp]; exact lt
  · rw [List.mem_singleton.mp hp]; exact ln
  · rw [List.mem_singleton.mp hp]; exact PySem.W.codeHd_of_K X lh
end Nm
open PySem PySem.W PyProof.Rows
set_option maxRecDepth 100000 in
set_option maxHeartbeats 0 in
theorem PySem.Challenge.cw_namesone_k14_groups_and_bars_holds : PySem.Challenge.rw_namesone_k14_groups_and_bars.Holds := by
  w_on; o_law; k_head; (case hw => w_witness2)
  k_fill
  refine Nm.walkTG (l := PySem.Challenge.rw_namesone_k14_groups_and_bars) (n := 63) (k := 6) (x := "_law_script") rfl (by decide) rfl ⟨rfl, by decide, by decide⟩ (fun w h Y => PySem.W.km_in_of Y) ?F
  case F =>
    intro w mg fa h Y KX G hmg
    refine' Nm.fin KX G hmg ?aC0 ?pg0 ?hd0 ?po0 ?sa0 ?mk0 ?kc0 ?na0_rule ?a0 ?l0 ?c0 ?k0 ?a1 ?l1 ?c1 ?k1 ?a2 ?l2 ?c2 ?k2 ?a3 ?l3 ?c3 ?k3 ?a4 ?l4 ?c4 ?k4 ?a5 ?l5 ?c5 ?k5 ?a6 ?l6 ?c6 ?k6 ?a7 ?l7 ?c7 ?k7 ?a8 ?l8 ?c8 ?k8 ?a9 ?l9 ?c9 ?k9 ?i9 ?pa10 ?pb10 ?pc10 ?a10 ?l10 ?c10 ?k10 ?pa11 ?pb11 ?pc11 ?a11 ?l11 ?c11 ?k11 ?a12 ?l12 ?c12 ?k12 ?a13 ?l13 ?c13 ?k13 ?a14 ?l14 ?c14 ?k14 ?a15 ?l15 ?c15 ?k15 ?a16 ?l16 ?c16 ?k16 ?a17 ?l17 ?c17 ?k17 ?a18 ?l18 ?c18 ?k18 ?a19 ?l19 ?c19 ?k19 ?a20 ?l20 ?c20 ?k20 ?a21 ?l21 ?c21 ?k21 ?a22 ?l22 ?c22 ?k22 ?a23 ?l23 ?c23 ?k23 ?a24 ?l24 ?c24 ?k24 ?a25 ?l25 ?c25 ?k25 ?ta0 ?tl0 ?tv0 ?tz0 ?v0 ?r0 ?v1 ?r1 ?v2 ?r2 ?v3 ?r3 ?v4 ?r4 ?v5 ?r5 ?v6 ?r6 ?z0 ?z1 ?z2 ?z3 ?z4 ?z5 ?z6 ?z7 ?z8 ?z9 ?z10 ?z11 ?z12 ?z13 ?z14 ?z15 ?z16 ?z17 _ rfl ?lh ?ln (PySem.W.km_tabs_of Y _ (List.Mem.head _))
    (case aC0 => k_is)
    (case pg0 => k_is)
    (case hd0 => k_is)
    (case po0 => k_is)
    (case sa0 => k_is)
    (case mk0 => k_is)
    (case kc0 => k_is)
    (case na0_rule => k_is)
    (case a0 => k_is)
    (case l0 => k_is)
    (case c0 => k_is)
    (case k0 => k_is)
    (case a1 => k_is)
    (case l1 => k_is)
    (case c1 => k_is)
    (case k1 => k_is)
    (case a2 => k_is)
    (case l2 => k_is)
    (case c2 => k_is)
    (case k2 => k_is)
    (case a3 => k_is)
    (case l3 => k_is)
    (case c3 => k_is)
    (case k3 => k_is)
    (case a4 => k_is)
    (case l4 => k_is)
    (case c4 => k_is)
    (case k4 => k_is)
    (case a5 => k_is)
    (case l5 => k_is)
    (case c5 => k_is)
    (case k5 => k_is)
    (case a6 => k_is)
    (case l6 => k_is)
    (case c6 => k_is)
    (case k6 => k_is)
    (case a7 => k_is)
    (case l7 => k_is)
    (case c7 => k_is)
    (case k7 => k_is)
    (case a8 => k_is)
    (case l8 => k_is)
    (case c8 => k_is)
    (case k8 => k_is)
    (case a9 => k_is)
    (case l9 => k_is)
    (case c9 => k_is)
    (case k9 => k_is)
    (case i9 => k_is)
    (case pa10 => k_is)
    (case pb10 => k_is)
    (case pc10 => k_is)
    (case a10 => k_is)
    (case l10 => k_is)
    (case c10 => k_is)
    (case k10 => k_is)
    (case pa11 => k_is)
    (case pb11 => k_is)
    (case pc11 => k_is)
    (case a11 => k_is)
    (case l11 => k_is)
    (case c11 => k_is)
    (case k11 => k_is)
    (case a12 => k_is)
    (case l12 => k_is)
    (case c12 => k_is)
    (case k12 => k_is)
    (case a13 => k_is)
    (case l13 => k_is)
    (case c13 => k_is)
    (case k13 => k_is)
    (case a14 => k_is)
    (case l14 => k_is)
    (case c14 => k_is)
    (case k14 => k_is)
    (case a15 => k_is)
    (case l15 => k_is)
    (case c15 => k_is)
    (case k15 => k_is)
    (case a16 => k_is)
    (case l16 => k_is)
    (case c16 => k_is)
    (case k16 => k_is)
    (case a17 => k_is)
    (case l17 => k_is)
    (case c17 => k_is)
    (case k17 => k_is)
    (case a18 => k_is)
    (case l18 => k_is)
    (case c18 => k_is)
    (case k18 => k_is)
    (case a19 => k_is)
    (case l19 => k_is)
    (case c19 => k_is)
    (case k19 => k_is)
    (case a20 => k_is)
    (case l20 => k_is)
    (case c20 => k_is)
    (case k20 => k_is)
    (case a21 => k_is)
    (case l21 => k_is)
    (case c21 => k_is)
    (case k21 => k_is)
    (case a22 => k_is)
    (case l22 => k_is)
    (case c22 => k_is)
    (case k22 => k_is)
    (case a23 => k_is)
    (case l23 => k_is)
    (case c23 => k_is)
    (case k23 => k_is)
    (case a24 => k_is)
    (case l24 => k_is)
    (case c24 => k_is)
    (case k24 => k_is)
    (case a25 => k_is)
    (case l25 => k_is)
    (case c25 => k_is)
    (case k25 => k_is)
    (case ta0 => k_is)
    (case tl0 => k_is)
    (case tv0 => repeat (first | exact L2.Paired.nil | exact .nil | refine .cons ⟨_, rfl⟩ ?_))
    (case tz0 => decide)
    (case v0 => k_is)
    (case r0 => exact ⟨_, rfl⟩)
    (case v1 => k_is)
    (case r1 => exact ⟨_, rfl⟩)
    (case v2 => k_is)
    (case r2 => exact ⟨_, rfl⟩)
    (case v3 => k_is)
    (case r3 => exact ⟨_, rfl⟩)
    (case v4 => k_is)
    (case r4 => exact ⟨_, rfl⟩)
    (case v5 => k_is)
    (case r5 => exact ⟨_, rfl⟩)
    (case v6 => k_is)
    (case r6 => exact ⟨_, rfl⟩)
    (case z0 => k_is)
    (case z1 => k_is)
    (case z2 => k_is)
    (case z3 => k_is)
    (case z4 => k_is)
    (case z5 => k_is)
    (case z6 => k_is)
    (case z7 => k_is)
    (case z8 => k_is)
    (case z9 => k_is)
    (case z10 => k_is)
    (case z11 => k_is)
    (case z12 => k_is)
    (case z13 => k_is)
    (case z14 => k_is)
    (case z15 => k_is)
    (case z16 => k_is)
    (case z17 => k_is)
    (case lh => first | exact rfl | decide | k_is)
    (case ln => first | exact rfl | decide | k_is)
#print axioms PySem.Challenge.cw_namesone_k14_groups_and_bars_holds

