import PyProof.Rows.All
import Wide.All
import OpenK.AllK
import Wide.FinOn
import HandS.ForMost
import HandS.IsInst
import HandS.TupAny
import HandS.Walk
import HandS.Ends
import HandS.RaiseMore
import PyProof.StrLawsRepr
import PySem.Challenge.RW_namesone_k01_signs_words_names
set_option Elab.async false
set_option linter.all false
set_option maxRecDepth 100000
set_option maxHeartbeats 2000000
/-! Data over a heap that only grows: what a value is worth (Den), what an expression is worth (EvD). -/
namespace Nm
open PySem PySem.Spec L2

inductive D where
  | non
  | bl (b : Bool)
  | int (i : Int)
  | str (x : Str)
  | lst (ds : List D)
  | tup (ds : List D)
  | dic (es : List (Key × D))
  | obj (C : Addr) (fs : List (Str × D))
  | ty (n : String)
  | cls (C : Addr)

mutual
inductive Den (K : PySem.W.Frag) (F : Hp) : V → D → Prop
  | non : Den K F .non .non
  | bl (b : Bool) : Den K F (.bl b) (.bl b)
  | int (i : Int) : Den K F (.int i) (.int i)
  | str (x : Str) : Den K F (.str x) (.str x)
  | lst {a : Addr} {xs : List V} {ds : List D} : F a = some (.lst xs) → DenL K F xs ds → Den K F (.ref a) (.lst ds)
  | ty (n : String) : Den K F (.ty n) (.ty n)
  | cls (C : Addr) : Den K F (.ref C) (.cls C)
  | tup {a : Addr} {xs : List V} {ds : List D} : SqT K F a xs → DenL K F xs ds → Den K F (.ref a) (.tup ds)
  | dic {a : Addr} {kvs : List (Key × V)} {es : List (Key × D)} : Rd F a (.dK kvs) → DenK K F kvs es → Den K F (.ref a) (.dic es)
  | obj {a C dx : Addr} {fs : List (Str × V)} {gs : List (Str × D)} : F a = some (.ins C dx fs) → DenF K F fs gs → Den K F (.ref a) (.obj C gs)
inductive DenL (K : PySem.W.Frag) (F : Hp) : List V → List D → Prop
  | nil : DenL K F [] []
  | cons {v : V} {vs : List V} {d : D} {ds : List D} : Den K F v d → DenL K F vs ds → DenL K F (v :: vs) (d :: ds)
inductive DenK (K : PySem.W.Frag) (F : Hp) : List (Key × V) → List (Key × D) → Prop
  | nil : DenK K F [] []
  | cons {k : Key} {v : V} {vs : List (Key × V)} {d : D} {ds : List (Key × D)} : Den K F v d → DenK K F vs ds → DenK K F ((k, v) :: vs) ((k, d) :: ds)
inductive DenF (K : PySem.W.Frag) (F : Hp) : List (Str × V) → List (Str × D) → Prop
  | nil : DenF K F [] []
  | cons {k : Str} {v : V} {vs : List (Str × V)} {d : D} {ds : List (Str × D)} : Den K F v d → DenF K F vs ds → DenF K F ((k, v) :: vs) ((k, d) :: ds)
end

section
variable {K : PySem.W.Frag} {F F' H H' : Hp}
theorem same_rd {a : Addr} {u : HO} (e : Same F F') (h : Rd F a u) : Rd F' a u := by
  rcases h with h | ⟨o, h⟩
  · exact Or.inl (e a _ h)
  · exact Or.inr ⟨o, e a _ h⟩
theorem same_l {a : Addr} {xs : List V} (e : Same F F') (h : SqL K F a xs) : SqL K F' a xs := e.seq h
theorem same_t {a : Addr} {xs : List V} (e : Same F F') (h : SqT K F a xs) : SqT K F' a xs := by
  rcases h with h | h
  · exact Or.inl (same_rd e h)
  · exact Or.inr h
mutual
theorem Den.mono (e : Same F F') : ∀ (d : D) {v : V}, Den K F v d → Den K F' v d
  | .non, _, h => by cases h; exact .non
  | .bl _, _, h => by cases h; exact .bl _
  | .int _, _, h => by cases h; exact .int _
  | .str _, _, h => by cases h; exact .str _
  | .ty _, _, h => by cases h; exact .ty _
  | .cls _, _, h => by cases h; exact .cls _
  | .lst ds, _, h => by cases h with | lst s l => exact .lst (e _ _ s) (DenL.mono e ds l)
  | .tup ds, _, h => by cases h with | tup s l => exact .tup (same_t e s) (DenL.mono e ds l)
  | .dic es, _, h => by cases h with | dic s l => exact .dic (same_rd e s) (DenK.mono e es l)
  | .obj _ gs, _, h => by cases h with | obj s l => exact .obj (e _ _ s) (DenF.mono e gs l)
theorem DenL.mono (e : Same F F') : ∀ (ds : List D) {vs : List V}, DenL K F vs ds → DenL K F' vs ds
  | [], _, h => by cases h; exact .nil
  | d :: ds, _, h => by cases h with | cons a b => exact .cons (Den.mono e d a) (DenL.mono e ds b)
theorem DenK.mono (e : Same F F') : ∀ (ds : List (Key × D)) {vs : List (Key × V)}, DenK K F vs ds → DenK K F' vs ds
  | [], _, h => by cases h; exact .nil
  | (k, d) :: ds, _, h => by cases h with | cons a b => exact .cons (Den.mono e d a) (DenK.mono e ds b)
theorem DenF.mono (e : Same F F') : ∀ (ds : List (Str × D)) {vs : List (Str × V)}, DenF K F vs ds → DenF K F' vs ds
  | [], _, h => by cases h; exact .nil
  | (k, d) :: ds, _, h => by cases h with | cons a b => exact .cons (Den.mono e d a) (DenF.mono e ds b)
end
theorem Den.up {v : V} {d : D} (h : Den K F v d) (e : Same F F') : Den K F' v d := Den.mono e d h
theorem DenL.up {v : List V} {d : List D} (h : DenL K F v d) (e : Same F F') : DenL K F' v d := DenL.mono e d h
theorem DenL.length : ∀ {vs : List V} {ds : List D}, DenL K F vs ds → vs.length = ds.length
  | _, _, .nil => rfl
  | _, _, .cons _ t => congrArg (· + 1) t.length
theorem DenL.get : ∀ {vs : List V} {ds : List D} {i : Nat} {d : D}, DenL K F vs ds → ds[i]? = some d → ∃ v, vs[i]? = some v ∧ Den K F v d
  | _, _, _, _, .nil, e => by simp at e
  | _, _, 0, _, .cons r _, e => by simp at e; subst e; exact ⟨_, rfl, r⟩
  | _, _, i + 1, _, .cons _ t, e => by
    obtain ⟨v, h1, h2⟩ := DenL.get (i := i) t (by simpa using e)
    exact ⟨v, by simpa using h1, h2⟩
theorem DenL.getV : ∀ {vs : List V} {ds : List D} {i : Nat} {v : V}, DenL K F vs ds → vs[i]? = some v → ∃ d, ds[i]? = some d ∧ Den K F v d
  | _, _, _, _, .nil, e => by simp at e
  | _, _, 0, _, .cons r _, e => by simp at e; subst e; exact ⟨_, rfl, r⟩
  | _, _, i + 1, _, .cons _ t, e => by
    obtain ⟨v, h1, h2⟩ := DenL.getV (i := i) t (by simpa using e)
    exact ⟨v, by simpa using h1, h2⟩
theorem DenL.append : ∀ {xs ys : List V} {us ws : List D}, DenL K F xs us → DenL K F ys ws → DenL K F (xs ++ ys) (us ++ ws)
  | _, _, _, _, .nil, s => s
  | _, _, _, _, .cons r t, s => .cons r (DenL.append t s)
theorem DenL.ints : ∀ ns : List Int, DenL K F (ns.map V.int) (ns.map D.int)
  | [] => .nil
  | n :: ns => .cons (.int n) (DenL.ints ns)
end

/-! ### the frozen part grows beside what may change (M: what has changed) -/
structure Ext (M : List Addr) (F H F' H' : Hp) : Prop where
  f : Same F F'
  h : ∀ a o, a ∉ M → H a = some o → H' a = some o
  s : Same F' H'
  n : ∀ a, F a = none → H a ≠ none → F' a = none
  k : ∀ a, H a ≠ none → H' a ≠ none
section
variable {M : List Addr} {F H F1 H1 F2 H2 : Hp}
theorem Ext.of {F H F' H' : Hp} (f : Same F F') (h : Same H H') (s : Same F' H') (n : ∀ a, F a = none → H a ≠ none → F' a = none) : Ext [] F H F' H' :=
  ⟨f, fun a o _ e => h a o e, s, n, fun a e => by
    cases q : H a with
    | none => exact absurd q e
    | some o => rw [h a o q]; simp⟩
theorem Ext.refl (e : Same F H) : Ext M F H F H := ⟨Same.refl _, fun _ _ _ h => h, e, fun _ h _ => h, fun _ h => h⟩
theorem Ext.same (x : Ext [] F H F1 H1) : Same H H1 := fun a o h => x.h a o (by simp) h
theorem Ext.trans (x : Ext M F H F1 H1) (y : Ext M F1 H1 F2 H2) : Ext M F H F2 H2 :=
  ⟨x.f.trans y.f, fun a o m h => y.h a o m (x.h a o m h), y.s, fun a h k => y.n a (x.n a h k) (x.k a k), fun a h => y.k a (x.k a h)⟩
theorem Ext.wide {M' : List Addr} (x : Ext M F H F1 H1) (h : ∀ a, a ∈ M → a ∈ M') : Ext M' F H F1 H1 :=
  ⟨x.f, fun a o m => x.h a o (fun z => m (h a z)), x.s, x.n, x.k⟩
theorem Ext.tr (x : Ext [] F H F1 H1) (y : Ext M F1 H1 F2 H2) : Ext M F H F2 H2 := (x.wide (by simp)).trans y
theorem Ext.tl (x : Ext M F H F1 H1) (y : Ext [] F1 H1 F2 H2) : Ext M F H F2 H2 := x.trans (y.wide (by simp))
/-- a new object, frozen at once -/
theorem Ext.new {p : Addr} {o : HO} (e : Same F H) (hp : H p = none) : Ext [] F H (upd F p o) (upd H p o) := by
  have fp : F p = none := e.free hp
  refine Ext.of (fun a u h => ?_) (fun a u h => ?_) (fun a u h => ?_) (fun a h k => ?_)
  · rw [upd_ne (ne_of_none h fp)]; exact h
  · rw [upd_ne (ne_of_none h hp)]; exact h
  · by_cases z : a = p
    · subst z; rw [upd_same] at h ⊢; exact h
    · rw [upd_ne z] at h ⊢; exact e a u h
  · rw [upd_ne (fun z => k (by rw [z]; exact hp))]; exact h
/-- a new object that may change -/
theorem Ext.newM {p : Addr} {o : HO} (e : Same F H) (hp : H p = none) : Ext [] F H F (upd H p o) :=
  Ext.of (Same.refl _) (fun a u h => by rw [upd_ne (ne_of_none h hp)]; exact h) (fun a u h => by rw [upd_ne (ne_of_none (e a u h) hp)]; exact e a u h) (fun _ h _ => h)
theorem upd_keeps {p : Addr} {o : HO} (a : Addr) (h : H a ≠ none) : upd H p o a ≠ none := by
  by_cases z : a = p
  · subst z; rw [upd_same]; simp
  · rw [upd_ne z]; exact h
end
/-- what may change: not frozen, standing at b -/
structure Own (F H : Hp) (b : Addr) (o : HO) : Prop where
  f : F b = none
  h : H b = some o
theorem Own.ext {M : List Addr} {F H F1 H1 : Hp} {b : Addr} {o : HO} (w : Own F H b o) (x : Ext M F H F1 H1) (hb : b ∉ M) : Own F1 H1 b o :=
  ⟨x.n b w.f (by rw [w.h]; simp), x.h b o hb w.h⟩
theorem Own.ext0 {F H F1 H1 : Hp} {b : Addr} {o : HO} (w : Own F H b o) (x : Ext [] F H F1 H1) : Own F1 H1 b o := w.ext x (by simp)
theorem Own.ne {F H : Hp} {b c : Addr} {o u : HO} (w : Own F H b o) (h : F c = some u) : c ≠ b := fun z => by rw [z, w.f] at h; cases h
theorem Own.set {F H : Hp} {b : Addr} {o u : HO} (w : Own F H b o) (e : Same F H) : Ext [b] F H F (upd H b u) :=
  ⟨Same.refl _, fun a v m h => by rw [upd_ne (by simpa using m)]; exact h, fun a v h => by rw [upd_ne (w.ne h)]; exact e a v h, fun _ h _ => h, fun a h => upd_keeps a h⟩

/-! ### the frame -/
inductive Sl where
  | u
  | d (x : D)
  | v (x : V)
def SlOk (K : PySem.W.Frag) (F : Hp) : Sl → Option V → Prop
  | .u, _ => True
  | .d x, o => ∃ v, o = some v ∧ Den K F v x
  | .v x, o => o = some x
abbrev EnvD (K : PySem.W.Frag) (F : Hp) : List Sl → L2.St → Prop := Paired (SlOk K F)
section
variable {K : PySem.W.Frag} {F F' H : Hp}
theorem SlOk.up {s : Sl} {o : Option V} (h : SlOk K F s o) (e : Same F F') : SlOk K F' s o := by
  cases s with
  | u => trivial
  | d x => obtain ⟨v, h1, h2⟩ := h; exact ⟨v, h1, h2.up e⟩
  | v x => exact h
theorem EnvD.up {r : List Sl} {σ : L2.St} (h : EnvD K F r σ) (e : Same F F') : EnvD K F' r σ := Paired.mapP h fun _ _ q => SlOk.up q e
theorem EnvD.get : ∀ {r : List Sl} {σ : L2.St} {i : Nat} {s : Sl}, EnvD K F r σ → r[i]? = some s → ∃ o, σ[i]? = some o ∧ SlOk K F s o
  | _, _, _, _, .nil, e => by simp at e
  | _, _, 0, _, .cons r _, e => by simp at e; subst e; exact ⟨_, rfl, r⟩
  | _, _, i + 1, _, .cons _ t, e => by
    obtain ⟨v, h1, h2⟩ := EnvD.get (i := i) t (by simpa using e)
    exact ⟨v, by simpa using h1, h2⟩
theorem EnvD.set : ∀ {r : List Sl} {σ : L2.St} (i : Nat) {s : Sl} {o : Option V}, EnvD K F r σ → SlOk K F s o → EnvD K F (r.set i s) (σ.set i o)
  | _, _, _, _, _, .nil, _ => .nil
  | _, _, 0, _, _, .cons _ t, h => .cons h t
  | _, _, i + 1, _, _, .cons q t, h => .cons q (EnvD.set i t h)
def wipeR (r : List Sl) : List Nat → List Sl
  | [] => r
  | v :: vs => (wipeR r vs).set v .u
theorem EnvD.wipe {r : List Sl} {σ : L2.St} (h : EnvD K F r σ) : ∀ vs : List Nat, EnvD K F (wipeR r vs) (wipe σ vs)
  | [] => h
  | v :: vs => EnvD.set v (EnvD.wipe h vs) trivial
end

/-! ### what an expression is worth, whatever else stands in the heap -/
def EvD (K : PySem.W.Frag) (te : TE) (σ : L2.St) (F : Hp) (d : D) : Prop := ∀ H, Same F H → ∀ Q : VK, (∀ v F' H', Ext [] F H F' H' → Den K F' v d → Q v H') → te σ H Q
def EvT (K : PySem.W.Frag) (tt : TT) (σ : L2.St) (F : Hp) (b : Bool) : Prop := ∀ H, Same F H → ∀ Q : Bool → Hp → Prop, (∀ F' H', Ext [] F H F' H' → Q b H') → tt σ H Q
def EvA (K : PySem.W.Frag) (ta : TA) (σ : L2.St) (F : Hp) (ds : List D) : Prop := ∀ H, Same F H → ∀ Q : List V → Hp → Prop, (∀ vs F' H', Ext [] F H F' H' → DenL K F' vs ds → Q vs H') → ta σ H Q
def RvD (K : PySem.W.Frag) (r : R2) (a b d : D) : Prop := ∀ F H x y, Same F H → Den K F x a → Den K F y b → ∀ Q : VK, (∀ v F' H', Ext [] F H F' H' → Den K F' v d → Q v H') → r x y H Q
def RuD (K : PySem.W.Frag) (r : V → Hp → VK → Prop) (a d : D) : Prop := ∀ F H x, Same F H → Den K F x a → ∀ Q : VK, (∀ v F' H', Ext [] F H F' H' → Den K F' v d → Q v H') → r x H Q
def RcD (K : PySem.W.Frag) (r : List V → Hp → VK → Prop) (as : List D) (d : D) : Prop := ∀ F H xs, Same F H → DenL K F xs as → ∀ Q : VK, (∀ v F' H', Ext [] F H F' H' → Den K F' v d → Q v H') → r xs H Q

section
variable {K : PySem.W.Frag} {F F' H : Hp} {σ : L2.St} {ta tb tc te : TE} {tt tu : TT} {d e : D}
/-- two frozen parts of one heap, put together -/
def uni (F G : Hp) : Hp := fun a => (F a).or (G a)
theorem uni_l {F G : Hp} : Same F (uni F G) := fun a o h => by unfold uni; rw [h]; rfl
theorem uni_r {F G H : Hp} (e : Same F H) (e' : Same G H) : Same G (uni F G) := fun a o h => by
  unfold uni
  cases q : F a with
  | none => exact h
  | some u =>
    have h1 := e a u q
    have h2 := e' a o h
    rw [h1] at h2
    exact h2
theorem uni_s {F G H : Hp} (e : Same F H) (e' : Same G H) : Same (uni F G) H := fun a o h => by
  unfold uni at h
  cases q : F a with
  | none => rw [q] at h; exact e' a o h
  | some u => rw [q] at h; cases h; exact e a _ q
theorem Ext.uni {F F1 F2 H1 H2 : Hp} (e : Same F F1) (e1 : Same F1 H1) (x : Ext [] F H1 F2 H2) : Ext [] F1 H1 (uni F1 F2) H2 := by
  have e1' : Same F1 H2 := e1.trans x.same
  refine Ext.of uni_l x.same (uni_s e1' x.s) fun a h k => ?_
  unfold Nm.uni
  rw [h]
  exact x.n a (e.free h) k
theorem EvD.up (h : EvD K te σ F d) (e : Same F F') : EvD K te σ F' d := fun H s Q q => h H (e.trans s) Q fun v F2 H2 x r =>
  q v _ H2 (Ext.uni e s x) (r.up (uni_r (s.trans x.same) x.s))
theorem EvT.up {b : Bool} (h : EvT K tt σ F b) (e : Same F F') : EvT K tt σ F' b := fun H s Q q => h H (e.trans s) Q fun F2 H2 x => q _ H2 (Ext.uni e s x)
theorem EvA.up {ta : TA} {ds : List D} (h : EvA K ta σ F ds) (e : Same F F') : EvA K ta σ F' ds := fun H s Q q => h H (e.trans s) Q fun v F2 H2 x r =>
  q v _ H2 (Ext.uni e s x) (r.up (uni_r (s.trans x.same) x.s))

theorem ev_var {r : List Sl} {i : Nat} (E : EnvD K F r σ) (h : r[i]? = some (.d d)) : EvD K (tVar i) σ F d := fun H s Q q => by
  obtain ⟨o, h1, v, h2, h3⟩ := E.get h
  subst h2
  exact ⟨v, h1, q v F H (Ext.refl s) h3⟩
theorem ev_c {v : V} (h : Den K F v d) : EvD K (tC v) σ F d := fun H s Q q => q v F H (Ext.refl s) h
theorem ev_op {a b : D} {r : R2} (ha : EvD K ta σ F a) (hb : EvD K tb σ F b) (hr : RvD K r a b d) : EvD K (tOp r ta tb) σ F d := fun H s Q q =>
  ha H s _ fun x F1 H1 x1 d1 => (hb.up x1.f) H1 x1.s _ fun y F2 H2 x2 d2 => hr F2 H2 x y x2.s (d1.up x2.f) d2 Q fun v F3 H3 x3 d3 => q v F3 H3 ((x1.tr x2).tr x3) d3
theorem ev_un {a : D} {r : V → Hp → VK → Prop} (ha : EvD K ta σ F a) (hr : RuD K r a d) : EvD K (tUn r ta) σ F d := fun H s Q q =>
  ha H s _ fun x F1 H1 x1 d1 => hr F1 H1 x x1.s d1 Q fun v F3 H3 x3 d3 => q v F3 H3 (x1.tr x3) d3
theorem ev_cb {as : List D} {ta : TA} {r : List V → Hp → VK → Prop} (ha : EvA K ta σ F as) (hr : RcD K r as d) : EvD K (tCB r ta) σ F d := fun H s Q q =>
  ha H s _ fun x F1 H1 x1 d1 => hr F1 H1 x x1.s d1 Q fun v F3 H3 x3 d3 => q v F3 H3 (x1.tr x3) d3
theorem ea_nil : EvA K tNil σ F [] := fun H s Q q => q [] F H (Ext.refl s) .nil
theorem ea_cons {a : D} {as : List D} {tr : TA} (ha : EvD K ta σ F a) (hr : EvA K tr σ F as) : EvA K (tCons ta tr) σ F (a :: as) := fun H s Q q =>
  ha H s _ fun x F1 H1 x1 d1 => (hr.up x1.f) H1 x1.s _ fun xs F2 H2 x2 d2 => q (x :: xs) F2 H2 (x1.tr x2) (.cons (d1.up x2.f) d2)
theorem ev_and {a b : Bool} (h1 : EvD K ta σ F (.bl a)) (h2 : a = true → EvD K tb σ F (.bl b)) : EvD K (tAndV ta tb) σ F (.bl (a && b)) := fun H s Q q =>
  h1 H s _ fun x F1 H1 x1 d1 => by
    cases d1
    refine ⟨a, rfl, ?_⟩
    cases a with
    | true =>
      rw [if_pos rfl]
      exact ((h2 rfl).up x1.f) H1 x1.s _ fun v F2 H2 x2 d2 => q v F2 H2 (x1.tr x2) d2
    | false =>
      rw [if_neg (by decide)]
      exact q _ F1 H1 x1 (.bl false)
theorem ev_or {a b : Bool} (h1 : EvD K ta σ F (.bl a)) (h2 : a = false → EvD K tb σ F (.bl b)) : EvD K (tOrV ta tb) σ F (.bl (a || b)) := fun H s Q q =>
  h1 H s _ fun x F1 H1 x1 d1 => by
    cases d1
    refine ⟨a, rfl, ?_⟩
    cases a with
    | true =>
      rw [if_pos rfl]
      exact q _ F1 H1 x1 (.bl true)
    | false =>
      rw [if_neg (by decide)]
      exact ((h2 rfl).up x1.f) H1 x1.s _ fun v F2 H2 x2 d2 => q v F2 H2 (x1.tr x2) d2
theorem ev_not {a : Bool} (h1 : EvD K ta σ F (.bl a)) : EvD K (tNotV ta) σ F (.bl (!a)) := fun H s Q q =>
  h1 H s _ fun x F1 H1 x1 d1 => by
    cases d1
    exact ⟨a, rfl, q _ F1 H1 x1 (.bl _)⟩
theorem ev_if {b : Bool} (h : EvT K tt σ F b) (h1 : b = true → EvD K ta σ F d) (h2 : b = false → EvD K tb σ F d) : EvD K (tIf tt ta tb) σ F d := fun H s Q q =>
  h H s _ fun F1 H1 x1 => by
    cases b with
    | true =>
      show ta σ H1 Q
      exact ((h1 rfl).up x1.f) H1 x1.s _ fun v F2 H2 x2 d2 => q v F2 H2 (x1.tr x2) d2
    | false =>
      show tb σ H1 Q
      exact ((h2 rfl).up x1.f) H1 x1.s _ fun v F2 H2 x2 d2 => q v F2 H2 (x1.tr x2) d2
theorem et_test {b : Bool} (h : EvD K te σ F (.bl b)) : EvT K (tTest te) σ F b := fun H s Q q => h H s _ fun v F1 H1 x1 d1 => by cases d1; exact ⟨b, rfl, q F1 H1 x1⟩
theorem et_B {b : Bool} (h : EvD K te σ F (.bl b)) : EvT K (tB te) σ F b := fun H s Q q => h H s _ fun v F1 H1 x1 d1 => by cases d1; exact ⟨b, rfl, q F1 H1 x1⟩
theorem et_and {a b : Bool} (h1 : EvT K tt σ F a) (h2 : a = true → EvT K tu σ F b) : EvT K (tAnd tt tu) σ F (a && b) := fun H s Q q => h1 H s _ fun F1 H1 x1 => by
  cases a with
  | true =>
    show tu σ H1 Q
    exact ((h2 rfl).up x1.f) H1 x1.s _ fun F2 H2 x2 => q F2 H2 (x1.tr x2)
  | false =>
    show Q false H1
    exact q F1 H1 x1
theorem et_or {a b : Bool} (h1 : EvT K tt σ F a) (h2 : a = false → EvT K tu σ F b) : EvT K (tOr tt tu) σ F (a || b) := fun H s Q q => h1 H s _ fun F1 H1 x1 => by
  cases a with
  | true =>
    show Q true H1
    exact q F1 H1 x1
  | false =>
    show tu σ H1 Q
    exact ((h2 rfl).up x1.f) H1 x1.s _ fun F2 H2 x2 => q F2 H2 (x1.tr x2)
theorem et_not {a : Bool} (h1 : EvT K tt σ F a) : EvT K (tNot tt) σ F (!a) := fun H s Q q => h1 H s _ fun F1 H1 x1 => q F1 H1 x1
theorem ev_is (h : EvD K te σ F e) (q : e = d) : EvD K te σ F d := by rw [← q]; exact h
theorem et_is {a b : Bool} (h : EvT K tt σ F a) (q : a = b) : EvT K tt σ F b := by rw [← q]; exact h
theorem ev_lst {as : List D} {ta : TA} (h : EvA K ta σ F as) (hl : as.length ≤ sizeLine) : EvD K (tLst ta) σ F (.lst as) := fun H s Q q =>
  h H s _ fun vs F1 H1 x1 d1 => ⟨by rw [d1.length]; exact hl, fun p hp => q _ _ _ (x1.tr (Ext.new x1.s hp)) (.lst upd_same (d1.up (Ext.new (o := .lst vs) x1.s hp).f))⟩
theorem ev_tup {as : List D} {ta : TA} (h : EvA K ta σ F as) (hl : as.length ≤ sizeLine) : EvD K (tTup ta) σ F (.tup as) := fun H s Q q =>
  h H s _ fun vs F1 H1 x1 d1 => ⟨by rw [d1.length]; exact hl, fun p hp => q _ _ _ (x1.tr (Ext.new x1.s hp)) (.tup (SqT.of upd_same) (d1.up (Ext.new (o := .tup vs) x1.s hp).f))⟩
end
end Nm

set_option Elab.async false
set_option linter.all false
set_option maxRecDepth 100000
set_option maxHeartbeats 2000000
namespace Nm
open PySem PySem.Spec L2

/-! ### rules by values, of several kinds at once -/
section
variable {X : Cx}
theorem opr_or {f : Value → Value → Sem Value} {r r' : R2} (h : OpR X f r) (h' : OpR X f r') : OpR X f (fun x y H Q => r x y H Q ∨ r' x y H Q) :=
  fun pins s σ H x y v u Q I rx ry q => q.elim (fun q => h pins s σ H x y v u Q I rx ry q) fun q => h' pins s σ H x y v u Q I rx ry q
theorem calr_or {f : Value} {r r' : List V → Hp → VK → Prop} (h : CallR X f r) (h' : CallR X f r') : CallR X f (fun xs H Q => r xs H Q ∨ r' xs H Q) :=
  fun pins s σ H xs us Q I rx q => q.elim (fun q => h pins s σ H xs us Q I rx q) fun q => h' pins s σ H xs us Q I rx q

/-- + -/
def rAddS : R2 := fun x y H Q => ∃ i j, x = .str i ∧ y = .str j ∧ i.length + j.length ≤ sizeLine ∧ Q (.str (i ++ j)) H
def rAddA (K : PySem.W.Frag) : R2 := fun x y H Q => rI0 (fun i j => .int (i + j)) x y H Q ∨ rAddS x y H Q ∨ rCat x y H Q ∨ rCatA K x y H Q
theorem o_add : OpR X (binaryOp .Add) (rAddA X.K) := opr_or op_add (opr_or op_add_str (opr_or op_cat op_catA))
/-- in, not in -/
def rInSign (f : Bool → Bool) : R2 := fun x y H Q => ∃ (c : Nat) (z : Str), x = .str ⟨#[c]⟩ ∧ y = .str z ∧ Q (.bl (f (decide (c ∈ z.cps.toList)))) H
def rInDict (f : Bool → Bool) : R2 := fun x y H Q => ∃ a o, y = .ref a ∧ DGet H a x o ∧ Q (.bl (f o.isSome)) H
theorem o_din (hu : X.A.units + 1 < cLine) : OpR X (compareOp .In) (rInDict id) := by
  intro pins s σ H x y v u Q I rx ry h
  obtain ⟨a, o, rfl, g, q⟩ := h
  cases (show u = Value.ref a from ry)
  exact d_in hu I g rx fun s3 I3 => ⟨.bl o.isSome, H, I3, rfl, q⟩
theorem o_dnotin (hu : X.A.units + 1 < cLine) : OpR X (compareOp .NotIn) (rInDict (!·)) := by
  intro pins s σ H x y v u Q I rx ry h
  obtain ⟨a, o, rfl, g, q⟩ := h
  cases (show u = Value.ref a from ry)
  exact d_notIn hu I g rx fun s3 I3 => ⟨.bl (!o.isSome), H, I3, rfl, q⟩
def rInA (K : PySem.W.Frag) : R2 := fun x y H Q => rInSign id x y H Q ∨ rIn K false x y H Q ∨ rInDict id x y H Q
def rNotInA (K : PySem.W.Frag) : R2 := fun x y H Q => rInSign (!·) x y H Q ∨ rIn K true x y H Q ∨ rInDict (!·) x y H Q
theorem o_in (hu : X.A.units + 1 < cLine) : OpR X (compareOp .In) (rInA X.K) := opr_or op_in_sign (opr_or op_in_seq (o_din hu))
theorem o_notin (hu : X.A.units + 1 < cLine) : OpR X (compareOp .NotIn) (rNotInA X.K) := opr_or op_notIn_sign (opr_or op_notIn_seq (o_dnotin hu))
/-- len -/
def rLenA (K : PySem.W.Frag) : List V → Hp → VK → Prop := fun xs H Q => (∃ p ys, xs = [.ref p] ∧ (SqL K H p ys ∨ SqT K H p ys) ∧ Q (.int ys.length) H) ∨ (∃ z, xs = [.str z] ∧ z.length ≤ sizeLine ∧ Q (.int z.length) H) ∨
  (∃ a kvs, xs = [V.ref a] ∧ H a = some (.dK kvs) ∧ Q (.int kvs.length) H)
theorem c_len : CallR X (.builtin "len") (rLenA X.K) := calr_or call_len_seq (calr_or call_len_str call_lenD)
/-- < <= > >= -/
def rCmpA (f : Int → Int → Bool) (g : List Nat → List Nat → Bool) : R2 := fun x y H Q => rI0 (fun i j => .bl (f i j)) x y H Q ∨ ∃ i j, x = .str i ∧ y = .str j ∧ Q (.bl (g i.cps.toList j.cps.toList)) H
theorem o_lt : OpR X (compareOp .Lt) (rCmpA (fun i j => decide (i < j)) fun a b => decide (a < b)) := opr_or op_lt op_lt_str
theorem o_le : OpR X (compareOp .LtE) (rCmpA (fun i j => decide (i ≤ j)) fun a b => !decide (b < a)) := opr_or op_le op_le_str
theorem o_gt : OpR X (compareOp .Gt) (rCmpA (fun i j => decide (j < i)) fun a b => decide (b < a)) := opr_or op_gt op_gt_str
theorem o_ge : OpR X (compareOp .GtE) (rCmpA (fun i j => decide (j ≤ i)) fun a b => !decide (a < b)) := opr_or op_ge op_ge_str
/-- a[i] -/
theorem ix_or {r r' : R2} (h : IxR X r) (h' : IxR X r') : IxR X (fun x y H Q => r x y H Q ∨ r' x y H Q) := h.or h'
end

/-! ### the same by data -/
section
variable {K : PySem.W.Frag}
theorem rv_add_int {i j : Int} : RvD K (rAddA K) (.int i) (.int j) (.int (i + j)) := fun F H x y s hx hy Q q => by
  cases hx; cases hy
  exact .inl ⟨i, j, rfl, rfl, q _ F H (Ext.refl s) (.int _)⟩
theorem rv_add_str {i j : Str} (hz : i.length + j.length ≤ sizeLine) : RvD K (rAddA K) (.str i) (.str j) (.str (i ++ j)) := fun F H x y s hx hy Q q => by
  cases hx; cases hy
  exact .inr (.inl ⟨i, j, rfl, rfl, hz, q _ F H (Ext.refl s) (.str _)⟩)
theorem rv_add_lst {i j : List D} (hz : i.length + j.length ≤ sizeLine) : RvD K (rAddA K) (.lst i) (.lst j) (.lst (i ++ j)) := fun F H x y s hx hy Q q => by
  cases hx with
  | lst h1 l1 =>
    cases hy with
    | lst h2 l2 =>
      refine .inr (.inr (.inl ⟨_, _, _, _, rfl, rfl, s _ _ h1, s _ _ h2, by rw [l1.length, l2.length]; exact hz, fun p hp => q _ _ _ (Ext.new s hp) (.lst upd_same ?_)⟩))
      exact (l1.append l2).up (Ext.new s hp).f
theorem rv_add_tup {i j : List D} (hz : i.length + j.length ≤ sizeLine) : RvD K (rAddA K) (.tup i) (.tup j) (.tup (i ++ j)) := fun F H x y s hx hy Q q => by
  cases hx with
  | tup h1 l1 =>
    cases hy with
    | tup h2 l2 =>
      refine .inr (.inr (.inr ⟨_, _, _, _, rfl, rfl, same_t s h1, same_t s h2, by rw [l1.length, l2.length]; exact hz, fun e => ?_, fun _ e => ?_, fun _ _ p hp => q _ _ _ (Ext.new s hp) (.tup (SqT.of upd_same) ?_)⟩))
      · subst e; cases l1; exact q _ F H (Ext.refl s) (.tup h2 l2)
      · subst e; cases l2; rw [List.append_nil] at q; exact q _ F H (Ext.refl s) (.tup h1 l1)
      · exact (l1.append l2).up (Ext.new s hp).f
theorem rv_I0 {g : Int → Int → Int} {i j : Int} : RvD K (rI0 fun i j => .int (g i j)) (.int i) (.int j) (.int (g i j)) := fun F H x y s hx hy Q q => by
  cases hx; cases hy
  exact ⟨i, j, rfl, rfl, q _ F H (Ext.refl s) (.int _)⟩
theorem rv_I {C : Int → Int → Prop} {g : Int → Int → Int} {i j : Int} (hc : C i j) : RvD K (rI C fun i j => .int (g i j)) (.int i) (.int j) (.int (g i j)) := fun F H x y s hx hy Q q => by
  cases hx; cases hy
  exact ⟨i, j, rfl, rfl, hc, q _ F H (Ext.refl s) (.int _)⟩
theorem rv_cmp_int {f : Int → Int → Bool} {g : List Nat → List Nat → Bool} {i j : Int} : RvD K (rCmpA f g) (.int i) (.int j) (.bl (f i j)) := fun F H x y s hx hy Q q => by
  cases hx; cases hy
  exact .inl ⟨i, j, rfl, rfl, q _ F H (Ext.refl s) (.bl _)⟩
theorem rv_cmp_str {f : Int → Int → Bool} {g : List Nat → List Nat → Bool} {i j : Str} : RvD K (rCmpA f g) (.str i) (.str j) (.bl (g i.cps.toList j.cps.toList)) := fun F H x y s hx hy Q q => by
  cases hx; cases hy
  exact .inr ⟨i, j, rfl, rfl, q _ F H (Ext.refl s) (.bl _)⟩
theorem rv_eq_int {i j : Int} : RvD K rEq (.int i) (.int j) (.bl (decide (i = j))) := fun F H x y s hx hy Q q => by
  cases hx; cases hy
  refine ⟨rfl, ?_⟩
  rw [dec_int, show (i == j) = decide (i = j) from rfl]
  exact q _ F H (Ext.refl s) (.bl _)
theorem rv_ne_int {i j : Int} : RvD K rNe (.int i) (.int j) (.bl (!decide (i = j))) := fun F H x y s hx hy Q q => by
  cases hx; cases hy
  refine ⟨rfl, ?_⟩
  rw [dec_int, show (i == j) = decide (i = j) from rfl]
  exact q _ F H (Ext.refl s) (.bl _)
theorem dec_strD {i j : Str} : decide (V.str i = V.str j) = decide (i = j) := by
  by_cases h : i = j
  · subst h; simp
  · rw [decide_eq_false h, decide_eq_false (fun z => h (V.str.inj z))]
theorem rv_eq_str {i j : Str} : RvD K rEq (.str i) (.str j) (.bl (decide (i = j))) := fun F H x y s hx hy Q q => by
  cases hx; cases hy
  refine ⟨rfl, ?_⟩
  rw [dec_strD]
  exact q _ F H (Ext.refl s) (.bl _)
theorem rv_ne_str {i j : Str} : RvD K rNe (.str i) (.str j) (.bl (!decide (i = j))) := fun F H x y s hx hy Q q => by
  cases hx; cases hy
  refine ⟨rfl, ?_⟩
  rw [dec_strD]
  exact q _ F H (Ext.refl s) (.bl _)
theorem rv_in_sign {c : Nat} {z : Str} : RvD K (rInA K) (.str ⟨#[c]⟩) (.str z) (.bl (decide (c ∈ z.cps.toList))) := fun F H x y s hx hy Q q => by
  cases hx; cases hy
  exact .inl ⟨c, z, rfl, rfl, q _ F H (Ext.refl s) (.bl _)⟩
theorem rc_len_str {z : Str} (hz : z.length ≤ sizeLine) : RcD K (rLenA K) [.str z] (.int z.length) := fun F H xs s hx Q q => by
  cases hx with
  | cons h t =>
    cases h; cases t
    exact .inr (.inl ⟨z, rfl, hz, q _ F H (Ext.refl s) (.int _)⟩)
theorem rc_len_lst {ds : List D} : RcD K (rLenA K) [.lst ds] (.int ds.length) := fun F H xs s hx Q q => by
  cases hx with
  | cons h t =>
    cases t
    cases h with
    | lst h l => exact .inl ⟨_, _, rfl, .inl (SqL.of (s _ _ h)), by rw [l.length]; exact q _ F H (Ext.refl s) (.int _)⟩
theorem rc_len_tup {ds : List D} : RcD K (rLenA K) [.tup ds] (.int ds.length) := fun F H xs s hx Q q => by
  cases hx with
  | cons h t =>
    cases t
    cases h with
    | tup h l => exact .inl ⟨_, _, rfl, .inr (same_t s h), by rw [l.length]; exact q _ F H (Ext.refl s) (.int _)⟩
/-- the built-in type of data -/
def tyD : D → Option String
  | .non => some "NoneType" | .bl _ => some "bool" | .int _ => some "int" | .str _ => some "str" | .lst _ => some "list" | .tup _ => some "tuple" | .dic _ => some "dict" | _ => none
theorem ty_of {F H : Hp} {x : V} {d : D} {t : String} (s : Same F H) (h : Den K F x d) (e : tyD d = some t) : TyX K H x (.type t) := by
  cases h with
  | non => cases e; exact .base .non
  | bl b => cases e; exact .base (.bl b)
  | int b => cases e; exact .base (.int b)
  | str b => cases e; exact .base (.str b)
  | lst h l => cases e; exact .base (.lst (s _ _ h))
  | tup h l =>
    cases e
    rcases same_t s h with (h | ⟨o, h⟩) | ⟨o, its, n, h1, h2, _⟩
    · exact .base (.tup h)
    · exact .fTuple h
    · exact .kTuple h1 (by first | exact h2 | (obtain ⟨h2, _⟩ := h2; exact h2))
  | dic h l =>
    cases e
    rcases same_rd s h with h | ⟨o, h⟩
    · exact .base (.dK h)
    · exact .fDict h
  | obj h l => cases e
  | ty n => cases e
  | cls C => cases e
theorem rc_isi {d : D} {t n : String} {b : Bool} (e : tyD d = some t) (hb : kitB t n = some b) : RcD K (rIsi K) [d, .ty n] (.bl b) := fun F H xs s hx Q q => by
  cases hx with
  | cons h t =>
    cases t with
    | cons h2 t =>
      cases t; cases h2
      exact ⟨_, _, _, _, b, rfl, .ty n, ty_of s h e, kit_ty hb, q _ F H (Ext.refl s) (.bl _)⟩
theorem denL_bls : ∀ {F : Hp} {bs : List Bool} {vs : List V}, DenL K F vs (bs.map D.bl) → vs = bs.map V.bl
  | _, [], _, h => by cases h; rfl
  | _, b :: bs, _, h => by cases h with | cons a t => cases a; rw [denL_bls t]; rfl
theorem denL_strs : ∀ {F : Hp} {bs : List Str} {vs : List V}, DenL K F vs (bs.map D.str) → vs = bs.map V.str
  | _, [], _, h => by cases h; rfl
  | _, b :: bs, _, h => by cases h with | cons a t => cases a; rw [denL_strs t]; rfl
theorem denL_ints : ∀ {F : Hp} {bs : List Int} {vs : List V}, DenL K F vs (bs.map D.int) → vs = bs.map V.int
  | _, [], _, h => by cases h; rfl
  | _, b :: bs, _, h => by cases h with | cons a t => cases a; rw [denL_ints t]; rfl
theorem rc_all {bs : List Bool} : RcD K (rAll K) [.lst (bs.map D.bl)] (.bl (bs.all id)) := fun F H xs s hx Q q => by
  cases hx with
  | cons h t =>
    cases t
    cases h with
    | lst h l =>
      rw [denL_bls l] at h
      exact ⟨_, bs, rfl, SqL.of (s _ _ h), q _ F H (Ext.refl s) (.bl _)⟩
theorem rc_any {bs : List Bool} : RcD K (rAny K) [.lst (bs.map D.bl)] (.bl (bs.any id)) := fun F H xs s hx Q q => by
  cases hx with
  | cons h t =>
    cases t
    cases h with
    | lst h l =>
      rw [denL_bls l] at h
      exact ⟨_, bs, rfl, SqL.of (s _ _ h), q _ F H (Ext.refl s) (.bl _)⟩
end
end Nm

set_option Elab.async false
set_option linter.all false
set_option maxRecDepth 100000
set_option maxHeartbeats 2000000
namespace Nm
open PySem PySem.Spec L2

/-! ### what is walked -/
section
variable {X : Cx} {tg e : Expr}
theorem pi_or {wi wj : TI} (h : PI X tg e wi) (h' : PI X tg e wj) : PI X tg e (fun σ H R => wi σ H R ∨ wj σ H R) :=
  ⟨fun pins s σ H R I q => q.elim (h.run pins s σ H R I) (h'.run pins s σ H R I)⟩
/-- for x in e: a list, a tuple, a text -/
def iSeq (K : PySem.W.Frag) (te : TE) : TI := fun σ H R => iList K te σ H R ∨ iTup K te σ H R ∨ iStr te σ H R
theorem pi_seq {te : TE} (h : PE X e te) : PI X tg e (iSeq X.K te) := pi_or (pi_list h) (pi_or (pi_tup h) (pi_str h))
end
def WalkD (K : PySem.W.Frag) (F : Hp) (J : It) (items : List D) : Prop := ∃ G Y, Walk J items.length G Y ∧ (∀ H, Same F H → G H) ∧
  ∀ i H x H', i < items.length → Same F H → Y i H x H' → ∃ d F', items[i]? = some d ∧ Ext [] F H F' H' ∧ Den K F' x d
def EvI (K : PySem.W.Frag) (wi : TI) (σ : L2.St) (F : Hp) (items : List D) : Prop :=
  ∀ H, Same F H → ∀ R : It → Hp → Prop, (∀ J F' H', Ext [] F H F' H' → WalkD K F' J items → R J H') → wi σ H R
/-- a text's signs, one by one -/
def signs (x : Str) : List D := x.cps.toList.map fun c => .str ⟨#[c]⟩
section
variable {K : PySem.W.Frag} {F F' H : Hp} {σ : L2.St} {te : TE}
theorem walkD_up {J : It} {items : List D} (h : WalkD K F J items) (e : Same F F') : WalkD K F' J items := by
  obtain ⟨G, Y, w, g, y⟩ := h
  refine ⟨G, Y, w, fun H s => g H (e.trans s), fun i H x H' hi s hy => ?_⟩
  obtain ⟨d, F2, h1, h2, h3⟩ := y i H x H' hi (e.trans s) hy
  exact ⟨d, _, h1, Ext.uni e s h2, h3.up (uni_r (s.trans h2.same) h2.s)⟩
theorem ei_lst {ds : List D} (h : EvD K te σ F (.lst ds)) : EvI K (iSeq K te) σ F ds := fun H s R q => .inl (h H s _ fun v F1 H1 x1 d1 => by
  cases d1 with
  | lst h l =>
    rename_i a xs
    refine ⟨a, rfl, ⟨xs, SqL.of (x1.s _ _ h)⟩, q _ F1 H1 x1 ⟨fun H => SqL K H a xs, YAt xs, ?_, fun H s => SqL.of (s _ _ h), fun i H x H' hi s y => ?_⟩⟩
    · rw [← l.length]; exact walk_list
    · obtain ⟨rfl, y⟩ := y
      obtain ⟨d, h1, h2⟩ := l.getV y
      exact ⟨d, F1, h1, Ext.refl s, h2⟩)
theorem ei_tup {ds : List D} (h : EvD K te σ F (.tup ds)) : EvI K (iSeq K te) σ F ds := fun H s R q => .inr (.inl (h H s _ fun v F1 H1 x1 d1 => by
  cases d1 with
  | tup h l =>
    rename_i a xs
    refine ⟨a, rfl, ⟨xs, same_t x1.s h⟩, q _ F1 H1 x1 ⟨fun H => SqT K H a xs, YAt xs, ?_, fun H s => same_t s h, fun i H x H' hi s y => ?_⟩⟩
    · rw [← l.length]; exact walk_tup
    · obtain ⟨rfl, y⟩ := y
      obtain ⟨d, h1, h2⟩ := l.getV y
      exact ⟨d, F1, h1, Ext.refl s, h2⟩))
theorem ei_str {z : Str} (h : EvD K te σ F (.str z)) : EvI K (iSeq K te) σ F (signs z) := fun H s R q => .inr (.inr (h H s _ fun v F1 H1 x1 d1 => by
  cases d1
  refine ⟨z, rfl, q _ F1 H1 x1 ⟨fun _ => True, fun i H v H' => H' = H ∧ ∃ c, z.cps[i]? = some c ∧ v = .str ⟨#[c]⟩, ?_, fun _ _ => trivial, fun i H x H' hi s y => ?_⟩⟩
  · have e : (signs z).length = z.cps.size := by unfold signs; simp
    rw [e]; exact walk_str
  · obtain ⟨rfl, c, y, rfl⟩ := y
    refine ⟨_, F1, ?_, Ext.refl s, .str _⟩
    unfold signs
    rw [List.getElem?_map, Array.getElem?_toList, y]; rfl))
theorem ei_rng1 {ta : TA} {n : Int} (h : EvA K ta σ F [.int n]) (h1 : -(2 ^ 62) ≤ n) (h2 : n < 2 ^ 62) : EvI K (iRng1 ta) σ F ((List.range n.toNat).map fun i => .int (i : Nat)) := fun H s R q => h H s _ fun vs F1 H1 x1 d1 => by
  cases d1 with
  | cons a t =>
    cases a; cases t
    refine ⟨n, rfl, h1, h2, q _ F1 H1 x1 ⟨fun _ => True, YFn fun i => .int (0 + (i : Nat)), ?_, fun _ _ => trivial, fun i H x H' hi s y => ?_⟩⟩
    · have e : ((List.range n.toNat).map fun i => D.int (i : Nat)).length = n.toNat := by simp
      rw [e]; exact walk_range
    · obtain ⟨rfl, rfl⟩ := y
      refine ⟨.int (i : Nat), F1, ?_, Ext.refl s, ?_⟩
      · rw [List.length_map] at hi
        rw [List.getElem?_map, List.getElem?_eq_getElem hi]; simp
      · show Den K F1 (.int (0 + (i : Int))) (.int (i : Int))
        rw [Int.zero_add]; exact .int _

/-! ### lists that are built -/
variable {F1 H1 F2 H2 : Hp} {Dl : Addr}
theorem Ext.mutNew {M : List Addr} {o : HO} (x : Ext M F H F1 H1) (h : H Dl = none) (f : F1 Dl = none) : Ext M F H F1 (upd H1 Dl o) :=
  ⟨x.f, fun a u m e => by rw [upd_ne (ne_of_none e h)]; exact x.h a u m e, fun a u e => by rw [upd_ne (ne_of_none e f)]; exact x.s a u e, x.n, fun a e => upd_keeps a (x.k a e)⟩
theorem Ext.freeze {M : List Addr} {o : HO} (x : Ext M F H F1 H1) (h : H Dl = none) (e : H1 Dl = some o) (f : F1 Dl = none) : Ext M F H (upd F1 Dl o) H1 :=
  ⟨fun a u q => by rw [upd_ne (ne_of_none (x.f a u q) f)]; exact x.f a u q, x.h, fun a u q => by
    by_cases z : a = Dl
    · subst z; rw [upd_same] at q; rw [← q]; exact e
    · rw [upd_ne z] at q; exact x.s a u q, fun a q k => by rw [upd_ne (fun z => k (by rw [z]; exact h))]; exact x.n a q k, x.k⟩
theorem same_new {o : HO} (f : F Dl = none) : Same F (upd F Dl o) := fun a u q => by rw [upd_ne (ne_of_none q f)]; exact q
theorem take_succ' {α : Type} {l : List α} {i : Nat} {x : α} (h : l[i]? = some x) : l.take (i + 1) = l.take i ++ [x] := by
  rw [List.take_add_one, h]; rfl
theorem ev_lcIf {r : List Sl} {items : List D} {f : D → D} {p : D → Bool} {j : Nat} {vs : List Nat} {tt : TT} {wi : TI} (E : EnvD K F r σ) (hi : EvI K wi σ F items) (hn : items.length < sizeLine)
    (hw : ∀ (σ' : L2.St) (x : Option V), wipe ((wipe σ' vs).set j x) vs = wipe σ' vs)
    (ht : ∀ d F' σ', d ∈ items → Same F F' → EnvD K F' ((wipeR r vs).set j (.d d)) σ' → EvT K tt σ' F' (p d))
    (he : ∀ d F' σ', d ∈ items → Same F F' → EnvD K F' ((wipeR r vs).set j (.d d)) σ' → p d = true → EvD K te σ' F' (f d)) :
    EvD K (tLc wi (gName j) tt te vs) σ F (.lst ((items.filter p).map f)) := fun H s Q q => hi H s _ fun J F1 H1 x1 W1 Dl hD => by
  obtain ⟨G, Y, w, hg, hy⟩ := W1
  refine lc_it w (fun i H' => ∃ F' acc, Ext [] F1 H1 F' H' ∧ F' Dl = none ∧ H' Dl = some (.lst acc) ∧ DenL K F' acc (((items.take i).filter p).map f)) ?_ ?_ ?_ ?_
  · exact ⟨F1, [], Ext.newM x1.s hD, x1.s.free hD, upd_same, .nil⟩
  · rintro i H' _ ⟨F', acc, x, _⟩
    exact hg H' (x.f.trans x.s)
  · rintro i v H' H'' hlt ⟨F', acc, x, fD, eD, l⟩ y
    obtain ⟨d, F2, h1, h2, h3⟩ := hy i H' v H'' hlt (x.f.trans x.s) y
    have hd : d ∈ items := List.mem_of_getElem? h1
    have x2 := Ext.uni x.f x.s h2
    have h3' : Den K (uni F' F2) v d := h3.up (uni_r (x.s.trans h2.same) h2.s)
    have fD2 : uni F' F2 Dl = none := x2.n Dl fD (by rw [eD]; simp)
    have eD2 : H'' Dl = some (.lst acc) := x2.same _ _ eD
    have E2 : EnvD K (uni F' F2) ((wipeR r vs).set j (.d d)) ((wipe σ vs).set j (some v)) := EnvD.set j ((EnvD.wipe E vs).up ((x1.f.trans x.f).trans x2.f)) ⟨v, rfl, h3'⟩
    have sF : Same F (uni F' F2) := (x1.f.trans x.f).trans x2.f
    refine ⟨hw σ _, ?_⟩
    refine ht d _ _ hd sF E2 H'' x2.s _ fun F3 H3 x3 => ?_
    have fD3 : F3 Dl = none := x3.n Dl fD2 (by rw [eD2]; simp)
    have eD3 : H3 Dl = some (.lst acc) := x3.same _ _ eD2
    cases hp : p d with
    | true =>
      rw [if_pos rfl]
      refine ((he d _ _ hd sF E2 hp).up x3.f) H3 x3.s _ fun z F4 H4 x4 d4 => ?_
      have fD4 : F4 Dl = none := x4.n Dl fD3 (by rw [eD3]; simp)
      have eD4 : H4 Dl = some (.lst acc) := x4.same _ _ eD3
      refine ⟨acc, eD4, ?_, F4, acc ++ [z], Ext.mutNew (((x.tr x2).tr x3).tr x4) hD fD4, fD4, upd_same, ?_⟩
      · have := l.length
        rw [List.length_map] at this
        have h5 := List.length_filter_le p (items.take i)
        have h6 := List.length_take_le i items
        omega
      · rw [take_succ' h1, List.filter_append, List.map_append, List.filter_cons, if_pos hp]
        exact (l.up ((x2.f.trans x3.f).trans x4.f)).append (.cons d4 .nil)
    | false =>
      rw [if_neg (by decide)]
      refine ⟨F3, acc, (x.tr x2).tr x3, fD3, eD3, ?_⟩
      rw [take_succ' h1, List.filter_append, List.map_append, List.filter_cons, if_neg (by rw [hp]; decide)]
      show DenL K F3 acc (_ ++ [])
      rw [List.append_nil]
      exact l.up (x2.f.trans x3.f)
  · rintro H' ⟨F', acc, x, fD, eD, l⟩
    rw [List.take_length] at l
    exact q _ _ _ (x1.tr (Ext.freeze x hD eD fD)) (.lst upd_same (l.up (same_new fD)))
theorem et_yes : EvT K tYes σ F true := fun H s Q q => q F H (Ext.refl s)
theorem ev_lc {r : List Sl} {items : List D} {f : D → D} {j : Nat} {vs : List Nat} {wi : TI} (E : EnvD K F r σ) (hi : EvI K wi σ F items) (hn : items.length < sizeLine)
    (hw : ∀ (σ' : L2.St) (x : Option V), wipe ((wipe σ' vs).set j x) vs = wipe σ' vs)
    (he : ∀ d F' σ', d ∈ items → Same F F' → EnvD K F' ((wipeR r vs).set j (.d d)) σ' → EvD K te σ' F' (f d)) :
    EvD K (tLc wi (gName j) tYes te vs) σ F (.lst (items.map f)) := by
  have h := ev_lcIf (p := fun _ => true) E hi hn hw (fun _ _ _ _ _ _ => et_yes) fun d F' σ' h1 h2 h3 _ => he d F' σ' h1 h2 h3
  rwa [List.filter_eq_self.mpr (fun _ _ => rfl)] at h
theorem wipe1 (j : Nat) (σ' : L2.St) (x : Option V) : wipe ((wipe σ' [j]).set j x) [j] = wipe σ' [j] := by
  show ((σ'.set j none).set j x).set j none = σ'.set j none
  rw [List.set_set, List.set_set]

/-! ### statements -/
variable {DE : Ends} {tz tb : TS} {r : List Sl} {d : D}
theorem s_ret (S : Same F H) (h : EvD K te σ F d) (k : ∀ v F' H', Ext [] F H F' H' → Den K F' v d → DE.rt v H') : tRet te DE σ H := h H S _ k
theorem q_asg {j : Nat} (S : Same F H) (E : EnvD K F r σ) (h : EvD K te σ F d) (k : ∀ F' H' σ', Ext [] F H F' H' → EnvD K F' (r.set j (.d d)) σ' → tz DE σ' H') : tSeq (tAsg te (gName j)) tz DE σ H :=
  h H S _ fun v F' H' x dv => k F' H' _ x (EnvD.set j (E.up x.f) ⟨v, rfl, dv⟩)
theorem s_asg {j : Nat} (S : Same F H) (E : EnvD K F r σ) (h : EvD K te σ F d) (k : ∀ F' H' σ', Ext [] F H F' H' → EnvD K F' (r.set j (.d d)) σ' → DE.nx σ' H') : tAsg te (gName j) DE σ H :=
  h H S _ fun v F' H' x dv => k F' H' _ x (EnvD.set j (E.up x.f) ⟨v, rfl, dv⟩)
theorem q_if {tt : TT} {tu tw : TS} {b : Bool} (S : Same F H) (h : EvT K tt σ F b) (h1 : b = true → ∀ F' H', Ext [] F H F' H' → tu { DE with nx := tz DE } σ H') (h2 : b = false → ∀ F' H', Ext [] F H F' H' → tw { DE with nx := tz DE } σ H') :
    tSeq (tIfS tt tu tw) tz DE σ H := h H S _ fun F' H' x => by
  cases b with
  | true => exact h1 rfl F' H' x
  | false => exact h2 rfl F' H' x
theorem s_if {tt : TT} {tu tw : TS} {b : Bool} (S : Same F H) (h : EvT K tt σ F b) (h1 : b = true → ∀ F' H', Ext [] F H F' H' → tu DE σ H') (h2 : b = false → ∀ F' H', Ext [] F H F' H' → tw DE σ H') :
    tIfS tt tu tw DE σ H := h H S _ fun F' H' x => by
  cases b with
  | true => exact h1 rfl F' H' x
  | false => exact h2 rfl F' H' x
/-- a for over data; Pv: turn, frozen part, heap, frame -/
theorem s_for (M : List Addr) (Pv : Nat → Hp → Hp → List Sl → Prop) {items : List D} {wi : TI} {j : Nat} (S : Same F H) (E : EnvD K F r σ) (hi : EvI K wi σ F items)
    (h0 : ∀ F' H', Ext [] F H F' H' → Pv 0 F' H' r)
    (hs : ∀ i d F1 H1 F2 H2 r' σ' (N : L2.St → Hp → Prop), items[i]? = some d → Ext M F H F1 H1 → Pv i F1 H1 r' → Ext [] F1 H1 F2 H2 → EnvD K F2 (r'.set j (.d d)) σ' →
      (∀ F3 H3 r3 σ3, Ext M F2 H2 F3 H3 → EnvD K F3 r3 σ3 → Pv (i + 1) F3 H3 r3 → N σ3 H3) → tb { DE with nx := N, ct := N, bk := DE.nx } σ' H2)
    (hd : ∀ F' H' r' σ', Ext M F H F' H' → EnvD K F' r' σ' → Pv items.length F' H' r' → DE.nx σ' H') : tFor wi (gName j) tb DE σ H :=
  hi H S _ fun J F1 H1 x1 W1 => by
    obtain ⟨G, Y, w, hg, hy⟩ := W1
    refine ⟨fun i m σ3 H3 => m = items.length - i ∧ i ≤ items.length ∧ ∃ F3 r3, Ext M F H F3 H3 ∧ Same F1 F3 ∧ EnvD K F3 r3 σ3 ∧ Pv i F3 H3 r3, ⟨items.length, by simp, Nat.zero_le _, F1, r, x1.wide (by simp), Same.refl _, E.up x1.f, h0 F1 H1 x1⟩, ?_⟩
    rintro i m σ3 H3 ⟨rfl, hle, F3, r3, x, e, E3, p⟩
    have hG := hg H3 (e.trans x.s)
    by_cases hlt : i < items.length
    · refine .inr ⟨w.goes i H3 hlt hG, fun σ' H' => ∃ F4 r4, Ext M F H F4 H' ∧ Same F1 F4 ∧ EnvD K F4 r4 σ' ∧ Pv (i + 1) F4 H' r4, fun σ' H' q => ⟨items.length - (i + 1), by omega, rfl, hlt, q⟩, fun v H4 y => ?_⟩
      obtain ⟨d, F2, h1, h2, h3⟩ := hy i H3 v H4 hlt (e.trans x.s) (w.yields i H3 v H4 hlt hG y)
      have x2 := Ext.uni e x.s h2
      have h3' : Den K (uni F3 F2) v d := h3.up (uni_r (x.s.trans h2.same) h2.s)
      exact hs i d F3 H3 _ H4 r3 _ _ h1 x p x2 (EnvD.set j (E3.up x2.f) ⟨v, rfl, h3'⟩) fun F5 H5 r5 σ5 x5 E5 p5 => ⟨F5, r5, (x.tl x2).trans x5, (e.trans x2.f).trans x5.f, E5, p5⟩
    · have ei : i = items.length := by omega
      subst ei
      exact .inl ⟨w.stops H3 hG, hd F3 H3 r3 σ3 x E3 p⟩
end

/-! ### a def that is pure: its arguments and what it gives, by data -/
def spP (K : PySem.W.Frag) (n : Nat) (f : List D → Option D) : Sp := fun vs H Q _ => ∃ F ds d, Same F H ∧ DenL K F vs ds ∧ f ds = some d ∧ ds.length = n ∧ ∀ v F' H', Ext [] F H F' H' → Den K F' v d → Q v H'
theorem spP_len {K : PySem.W.Frag} {n : Nat} {f : List D → Option D} {vs : List V} {H : Hp} {Q : VK} {E : XK} (h : spP K n f vs H Q E) : vs.length = n := by
  obtain ⟨F, ds, d, _, l, _, e, _⟩ := h
  rw [l.length, e]
theorem ev_call {K : PySem.W.Frag} {n : Nat} {f : List D → Option D} {F : Hp} {σ : L2.St} {ta : TA} {E : XK} {ds : List D} {d : D} (ha : EvA K ta σ F ds) (hf : f ds = some d) (hn : ds.length = n) : EvD K (tCall (spP K n f) [] E ta) σ F d := fun H s Q q =>
  ha H s _ fun vs F1 H1 x1 l1 => ⟨F1, ds, d, x1.s, by rw [List.append_nil]; exact l1, hf, hn, fun v F2 H2 x2 d2 => q v F2 H2 (x1.tr x2) d2⟩
end Nm

set_option Elab.async false
set_option linter.all false
set_option maxRecDepth 100000
set_option maxHeartbeats 2000000
namespace Nm
open PySem PySem.Spec L2

theorem hu4 {k : Nat} {A : Around} (hr : Room k A) : A.units + 64 < cLine := hr.units
section
variable {X : Cx}
/-- text * number -/
def rMulS : R2 := fun x y H Q => ∃ (z : Str) (n : Int), x = .str z ∧ y = .int n ∧ 0 ≤ n ∧ n ≤ 1000000 ∧ z.length * n.toNat ≤ sizeLine ∧ Q (.str ⟨(List.replicate n.toNat z.cps.toList).flatten.toArray⟩) H
theorem fold_cat : ∀ (l : List (Array Nat)) (acc : Array Nat), (l.foldl (· ++ ·) acc).toList = acc.toList ++ (l.map Array.toList).flatten
  | [], acc => by simp
  | a :: l, acc => by simp [fold_cat l, List.append_assoc]
theorem str_ext {a b : Str} (h : a.cps.toList = b.cps.toList) : a = b := by
  obtain ⟨⟨a⟩⟩ := a
  obtain ⟨⟨b⟩⟩ := b
  have e : a = b := h
  rw [e]
theorem o_mul_str : OpR X (binaryOp .Mult) rMulS := by
  intro pins s σ H x y v u Q I rx ry h
  obtain ⟨z, n, rfl, rfl, h0, h1, hz, q⟩ := h
  obtain ⟨t, rfl⟩ := rx
  obtain ⟨t', rfl⟩ := ry
  have big : sizeLine = 16777216 := sizeLine_eq
  have e1 : (decide (n < -(2 ^ 63 : Int)) || decide (n ≥ 2 ^ 63)) = false := by
    rw [decide_eq_false (by omega), decide_eq_false (by omega)]; rfl
  have lz : z.length = z.cps.toList.length := by simp [Str.length]
  refine PySem.P.mul_str e1 (fun a b => ?_) (fun a b => ?_) ?_
  · have hn : 1 ≤ n.toNat := by omega
    have h2 : z.length ≤ z.length * n.toNat := Nat.le_mul_of_pos_right _ hn
    have h3 : (2 ^ 63 - 1 : Int) / n ≥ (2 ^ 63 - 1 : Int) / 1000000 := by
      have : (2 ^ 63 - 1 : Int) / 1000000 * n ≤ 2 ^ 63 - 1 := by
        have : (2 ^ 63 - 1 : Int) / 1000000 * n ≤ (2 ^ 63 - 1 : Int) / 1000000 * 1000000 := Int.mul_le_mul_of_nonneg_left h1 (by decide)
        omega
      exact (Int.le_ediv_iff_mul_le (by omega)).mpr this
    have h4 : (2 ^ 63 - 1 : Int) / 1000000 ≥ 16777216 := by decide
    omega
  · unfold Builtin.Str.tooLong
    simp only [decide_eq_false_iff_not]
    omega
  · by_cases c : n < 1
    · rw [if_pos c]
      have : n.toNat = 0 := by omega
      rw [this] at q
      exact ⟨by decide, .str _, H, I.tok _, ⟨_, rfl⟩, q⟩
    · rw [if_neg c]
      by_cases d : (n == 1 || z.length == 0) = true
      · rw [if_pos d]
        refine ⟨.str z, H, I, ⟨_, rfl⟩, ?_⟩
        have e : (⟨(List.replicate n.toNat z.cps.toList).flatten.toArray⟩ : Str) = z := by
          apply str_ext
          show (List.replicate n.toNat z.cps.toList).flatten = z.cps.toList
          rcases Bool.or_eq_true_iff.mp d with d | d
          · have : n = 1 := by simpa using d
            subst this; simp
          · have : z.cps.toList = [] := by
              have : z.length = 0 := by simpa using d
              rw [lz] at this
              exact List.length_eq_zero_iff.mp this
            rw [this]; simp
        rw [e] at q
        exact q
      · rw [if_neg d]
        have e : (⟨(List.replicate n.toNat z.cps).foldl (· ++ ·) #[]⟩ : Str) = ⟨(List.replicate n.toNat z.cps.toList).flatten.toArray⟩ := by
          apply str_ext
          show ((List.replicate n.toNat z.cps).foldl (· ++ ·) #[]).toList = (List.replicate n.toNat z.cps.toList).flatten
          rw [fold_cat, List.map_replicate]; simp
        refine ⟨?_, .str _, H, I.tok _, ⟨_, rfl⟩, ?_⟩
        · rw [e]
          have : (⟨(List.replicate n.toNat z.cps.toList).flatten.toArray⟩ : Str).length = n.toNat * z.cps.toList.length := by simp [Str.length]
          rw [this, ← lz, Nat.mul_comm]; exact hz
        · rw [e]; exact q
def rMulA (K : PySem.W.Frag) : R2 := fun x y H Q => rI CMul (fun i j => .int (i * j)) x y H Q ∨ rMulS x y H Q ∨ rRep x y H Q
theorem o_mul : OpR X (binaryOp .Mult) (rMulA X.K) := opr_or op_mul (opr_or o_mul_str op_rep)

/-- a[i]: list, tuple, text, dict -/
def rIxD : R2 := fun x y H Q => ∃ a v, x = .ref a ∧ DGet H a y (some v) ∧ Q v H
theorem ix_dict (hu : X.A.units + 1 < cLine) : IxR X Nm.rIxD := by
  intro value slice pins s σ H x y v u Q I rx ry h hs
  obtain ⟨a, z, rfl, g, q⟩ := h
  cases (show v = Value.ref a from rx)
  exact PyProof.Rows.tail_any (dict_typeIs I g) PySem.F.slot_dict_getitem.lookup (d_getItem hu I g ry fun w' s' I' rw' => ⟨z, H, I', rw', q⟩) hs
def rIxA (K : PySem.W.Frag) : R2 := fun x y H Q => rIx K x y H Q ∨ Nm.rIxD x y H Q
theorem ix_any (hu : X.A.units + 1 < cLine) : IxR X (rIxA X.K) := ix_seq.or (ix_dict hu)
/-- a[i:j] -/
def rSlAny (K : PySem.W.Frag) : V → Option Int → Option Int → Hp → VK → Prop := fun x lo hi H Q => rSlS x lo hi H Q ∨ rSlL K x lo hi H Q ∨ rSlA K x lo hi H Q
theorem sl_any : SlR X (rSlAny X.K) := sl_str.or (sl_list.or sl_tupA)
abbrev tSome (t : TE) : TO := tPart t
abbrev tNo : TO := tNoPart
/-- == != -/
def rEqA (K : PySem.W.Frag) : R2 := fun x y H Q => rEq x y H Q ∨ rEqD K x y H Q
def rNeA (K : PySem.W.Frag) : R2 := fun x y H Q => rNe x y H Q ∨ rNeD K x y H Q
theorem o_eq (hu : X.A.units + 64 < cLine) : OpR X (compareOp .Eq) (rEqA X.K) := opr_or op_eq (op_eqD hu)
theorem o_ne (hu : X.A.units + 64 < cLine) : OpR X (compareOp .NotEq) (rNeA X.K) := opr_or op_ne (op_neD hu)
def rIsNone : R2 := fun x y H Q => y = .non ∧ Q (.bl (decide (x = .non))) H
def rNotNone : R2 := fun x y H Q => y = .non ∧ Q (.bl (!decide (x = .non))) H
def rAbs : List V → Hp → VK → Prop := fun xs H Q => ∃ i, xs = [.int i] ∧ Q (.int (if i < 0 then -i else i)) H
def rMax2 : List V → Hp → VK → Prop := fun xs H Q => ∃ i j, xs = [.int i, .int j] ∧ Q (.int (if j > i then j else i)) H
def rMin2 : List V → Hp → VK → Prop := fun xs H Q => ∃ i j, xs = [.int i, .int j] ∧ Q (.int (if j < i then j else i)) H
def rJoin (K : PySem.W.Frag) : V → List V → Hp → VK → Prop := fun x xs H Q => ∃ a p, ∃ ys : List Str, x = .str a ∧ xs = [.ref p] ∧ (SqL K H p (ys.map V.str) ∨ SqT K H p (ys.map V.str)) ∧
  (ys.map (·.length)).sum + ys.length * a.length ≤ 16777216 ∧ Q (.str (Txt.join a ys)) H
def rIsiA (K : PySem.W.Frag) : List V → Hp → VK → Prop := fun xs H Q => rIsi K xs H Q ∨ rIsiT K xs H Q
theorem c_isi : CallR X (.builtin "isinstance") (rIsiA X.K) := calr_or call_isi call_isiT
def rLtA (K : PySem.W.Frag) : R2 := rCmpA (fun i j => decide (i < j)) fun a b => decide (a < b)
def rLeA (K : PySem.W.Frag) : R2 := rCmpA (fun i j => decide (i ≤ j)) fun a b => !decide (b < a)
def rGtA (K : PySem.W.Frag) : R2 := rCmpA (fun i j => decide (j < i)) fun a b => decide (b < a)
def rGeA (K : PySem.W.Frag) : R2 := rCmpA (fun i j => decide (j ≤ i)) fun a b => !decide (a < b)
theorem x_lt (hu : X.A.units < cLine) : OpR X (compareOp .Lt) (rLtA X.K) := o_lt
theorem x_le (hu : X.A.units < cLine) : OpR X (compareOp .LtE) (rLeA X.K) := o_le
theorem x_gt (hu : X.A.units < cLine) : OpR X (compareOp .Gt) (rGtA X.K) := o_gt
theorem x_ge (hu : X.A.units < cLine) : OpR X (compareOp .GtE) (rGeA X.K) := o_ge

/-! ### repr -/
def rReprD (K : PySem.W.Frag) : List V → Hp → VK → Prop := fun xs H Q => ∃ v d, xs = [v] ∧ Dp K H v d ∧ d.showable = true ∧ d.depth ≤ 40 ∧ d.shown.length ≤ sizeLine ∧ Q (.str d.shown) H
theorem reads_of_ref {h : Heap} {u : Value} {d : PyData} {as : List Addr} (r : Reads h u d as) : d.hasDict = false → (∃ a, u = .ref a) ∨ ((d = .none ∧ u = .none) ∨ (∃ b, d = .bool b ∧ u = .bool b) ∨ (∃ i t, d = .int i ∧ u = .int i t) ∨ ∃ x t, d = .str x ∧ u = .str x t) := fun hd => by
  cases r with
  | none => exact .inr (.inl ⟨rfl, rfl⟩)
  | bool b => exact .inr (.inr (.inl ⟨b, rfl, rfl⟩))
  | int i t => exact .inr (.inr (.inr (.inl ⟨i, t, rfl, rfl⟩)))
  | str x t => exact .inr (.inr (.inr (.inr ⟨x, t, rfl, rfl⟩)))
  | list => exact .inl ⟨_, rfl⟩
  | tuple => exact .inl ⟨_, rfl⟩
  | dict => exact .inl ⟨_, rfl⟩
mutual
theorem dp_noDict {K : PySem.W.Frag} {H : Hp} : ∀ (d : PyData) {v : V}, Dp K H v d → d.hasDict = false
  | .none, _, _ => by simp only [PyData.hasDict]
  | .bool _, _, _ => by simp only [PyData.hasDict]
  | .int _, _, _ => by simp only [PyData.hasDict]
  | .str _, _, _ => by simp only [PyData.hasDict]
  | .list ds, _, h => by cases h with | lst _ l => simp only [PyData.hasDict]; exact dp_noDictL ds l
  | .tuple ds, _, h => by cases h with | tup _ l => simp only [PyData.hasDict]; exact dp_noDictL ds l
  | .dict _, _, h => by cases h
theorem dp_noDictL {K : PySem.W.Frag} {H : Hp} : ∀ (ds : List PyData) {vs : List V}, DpAll K H vs ds → PyData.hasDictAll ds = false
  | [], _, _ => by simp only [PyData.hasDictAll]
  | d :: ds, _, h => by cases h with | cons a b => simp only [PyData.hasDictAll, dp_noDict d a, dp_noDictL ds b, Bool.or_self]
end
theorem c_reprD (hg : X.A.guards = some []) (hu : X.A.units + 64 < cLine) : CallR X (.builtin "repr") (rReprD X.K) := by
  intro pins s σ H xs us Q I r h
  obtain ⟨v, d, rfl, dp, hs, hd, hz, q⟩ := h
  obtain ⟨u, rfl, ru⟩ := vals1 r
  obtain ⟨as, rd⟩ := Dp.reads I d v u dp ru
  rcases reads_of_ref rd (dp_noDict d dp) with ⟨a, rfl⟩ | ⟨rfl, rfl⟩ | ⟨b, rfl, rfl⟩ | ⟨i, t, rfl, rfl⟩ | ⟨x, t, rfl, rfl⟩
  · exact repr_of_reads' rd hs (fun e => absurd e (by rw [dp_noDict d dp]; decide)) hg (by omega) (fun _ _ e => e) (fun h' u tk hk => ⟨.str d.shown, H, I.kept (t' := tk) hk, ⟨_, rfl⟩, q⟩) hz
  · have e : PyData.none.shown = "None" := by simp only [PyData.shown]
    rw [e] at q
    exact PySem.P.repr_of_none ⟨.str _, H, I.tok _, ⟨_, rfl⟩, q⟩
  · have e : (PyData.bool b).shown = if b = true then Str.ofString "True" else Str.ofString "False" := by simp only [PyData.shown]
    rw [e] at q
    exact PySem.P.repr_of_bool ⟨.str _, H, I.tok _, ⟨_, rfl⟩, q⟩
  · have e : (PyData.int i).shown = toString i := by simp only [PyData.shown]
    rw [e] at q
    exact PySem.P.repr_of_int (by simpa [PyData.showable] using hs) ⟨.str _, H, I.tok _, ⟨_, rfl⟩, q⟩
  · have e : (PyData.str x).shown = reprText x := by simp only [PyData.shown]
    rw [e] at q hz
    exact PySem.P.repr_of_str ⟨.str _, H, I.tok _, ⟨_, rfl⟩, q⟩ hz
/-! ### repr of a dict whose values are plain -/
def kPy : Key → PyData
  | .inl i => .int i
  | .inr x => .str x
def vPy : V → PyData
  | .bl b => .bool b
  | .int i => .int i
  | .str x => .str x
  | _ => .none
def kvPy (kvs : List (Key × V)) : List (PyData × PyData) := kvs.map fun p => (kPy p.1, vPy p.2)
def rReprK : List V → Hp → VK → Prop := fun xs H Q => ∃ a kvs, xs = [.ref a] ∧ Rd H a (.dK kvs) ∧ kvs.all (fun p => flatV p.2) = true ∧ (PyData.dict (kvPy kvs)).showable = true ∧ (PyData.dict (kvPy kvs)).shown.length ≤ sizeLine ∧ (PyData.dict (kvPy kvs)).depth ≤ 40 ∧
  Q (.str (PyData.dict (kvPy kvs)).shown) H
theorem reads_flat {h : Heap} {v : V} {u : Value} (f : flatV v = true) (r : RelV v u) : Reads h u (vPy v) [] := by
  cases v with
  | non => cases r; exact .none
  | bl b => cases r; exact .bool b
  | int i => obtain ⟨t, rfl⟩ := r; exact .int i t
  | str x => obtain ⟨t, rfl⟩ := r; exact .str x t
  | _ => cases f
theorem reads_key {h : Heap} {k : Key} {u : Value} (r : keyIs k u = true) : Reads h u (kPy k) [] := by
  rcases keyIs_shape r with ⟨i, t, rfl, rfl⟩ | ⟨x, t, rfl, rfl⟩
  · exact .int i t
  · exact .str x t
theorem reads_pairs {P : Program} {w : World} {h : Heap} : ∀ {es : List DictEntry} {vs : List (Key × Value)} {kvs : List (Key × V)}, Pairs (mixKind P w) es vs → KV kvs vs → kvs.all (fun p => flatV p.2) = true →
    ReadsAll h (es.map (·.key)) ((kvPy kvs).map (·.1)) [] ∧ ReadsAll h (es.map (·.val)) ((kvPy kvs).map (·.2)) []
  | es, vs, kvs, p, r, f => by
    induction p generalizing kvs with
    | nil => cases r; exact ⟨.nil, .nil⟩
    | cons a b c ih =>
      cases r with
      | cons q t =>
        rw [List.all_cons, Bool.and_eq_true] at f
        obtain ⟨h1, h2⟩ := ih _ t f.2
        refine ⟨?_, ?_⟩
        · exact ReadsAll.cons (as := []) (reads_key (by rw [q.1]; exact a)) h1
        · exact ReadsAll.cons (as := []) (reads_flat f.1 (by show RelV _ (DictEntry.val _); rw [b]; exact q.2)) h2
theorem c_reprK (hg : X.A.guards = some []) (hu : X.A.units + 64 < cLine) : CallR X (.builtin "repr") rReprK := by
  intro pins s σ H xs us Q I r h
  obtain ⟨a, kvs, rfl, rd, fl, hs, hz, hd, q⟩ := h
  obtain ⟨u, rfl, ru⟩ := vals1 r
  cases (show u = Value.ref a from ru)
  obtain ⟨_, ns, vs, rv, o, es, ep, h1, h2, h3, _, h4, _⟩ := dk_rd I.hok rd
  obtain ⟨k1, k2⟩ := reads_pairs (h := s.heap) h4 rv fl
  have rr : Reads s.heap (.ref a) (.dict (kvPy kvs)) ([a] ++ [] ++ []) := Reads.dict h1 h2.1 h3 k1 k2
  exact repr_of_reads' rr hs (fun _ m => by
    have e : sysModules = a := by simpa using m
    rw [← e] at ns
    simp at ns) hg (by omega) (fun _ _ e => e) (fun h' u tk hk => ⟨.str _, H, I.kept (t' := tk) hk, ⟨_, rfl⟩, q⟩) hz
def rReprA (K : PySem.W.Frag) : List V → Hp → VK → Prop := fun xs H Q => rReprD K xs H Q ∨ rReprK xs H Q
theorem c_repr (hg : X.A.guards = some []) (hu : X.A.units + 64 < cLine) : CallR X (.builtin "repr") (rReprA X.K) := calr_or (c_reprD hg hu) (c_reprK hg hu)
end
end Nm

set_option Elab.async false
set_option linter.all false
set_option maxRecDepth 100000
set_option maxHeartbeats 2000000
namespace Nm
open PySem PySem.Spec L2 PyProof.Rows

/-! ### defs whose promise wants that no repr is under way -/
structure FnOkG (P : Program) (w : World) (K : PySem.W.Frag) (mg : Str → Option Value) (base : Heap) (CX : CXT) (k : Nat) (f : Addr) (fd : FuncData) (ps : List Str) (sp : Sp) : Prop where
  len : ∀ vs H Q E, sp vs H Q E → vs.length = ps.length
  run : ∀ (A : Around) (outer : List Env) (s : Shared) (H : Hp) (args : Args) (us : List Value) (vs : List V) (Q : VK) (E : XK), A.guards = some [] → Room k A → Env0 P w K mg base A outer s H → BindsTo s fd args (ps.zip us) →
    Vals vs us → sp vs H Q E → codeAny (model P w) A (.call (.ref f) args) (CR CX outer P w H s Q E) s
section
variable {P : Program} {w : World} {K : PySem.W.Frag} {mg : Str → Option Value} {base : Heap} {CX : CXT} {k : Nat} {f : Addr} {fd : FuncData} {ps : List Str} {sp : Sp}
theorem FnOkG.mono {j : Nat} (F : FnOkG P w K mg base CX j f fd ps sp) (h : j ≤ k) : FnOkG P w K mg base CX k f fd ps sp :=
  ⟨F.len, fun A outer s H args us vs Q E g hr => F.run A outer s H args us vs Q E g (hr.mono h)⟩
/-- the body, from its term and its reading -/
theorem fnG {x qual : Str} {st : Stmt} {N : List Str} (F : Fun K x qual st f fd) (S : FnScope N ps (defScope st)) (len : ∀ vs H Q E, sp vs H Q E → vs.length = ps.length)
    (hbody : ∀ (cdv : Value) (A : Around) (outer : List Env) (s : Shared) (H : Hp) (vs : List V) (Q : VK) (E : XK), A.guards = some [] → Room k (A.deeper (envOfC qual (defScope st) s.heap.objs.size f cdv)) → sp vs H Q E →
      ∃ t, PSs (cxOf CX P w K mg base N qual (defScope st) f cdv A outer s H E) (defBody st) t ∧ t { nx := fun _ H' => Q .non H', rt := Q } (start N vs) H) : FnOkG P w K mg base CX (k + 1) f fd ps sp := by
  refine ⟨len, fun A outer s H args us vs Q E g hr e0 hb r hsp => ?_⟩
  -- a promise that speaks of this one call alone
  have one : FnOk P w K mg base CX (k + 1) f fd ps (fun vs' H' Q' E' => A.guards = some [] ∧ vs' = vs ∧ H' = H ∧ Q' = Q ∧ E' = E) → codeAny (model P w) A (.call (.ref f) args) (CR CX outer P w H s Q E) s := fun F' =>
    F'.run A outer s H args us vs Q E hr e0 hb r ⟨g, rfl, rfl, rfl, rfl⟩
  obtain ⟨oc, od, kV, doc, pm, an, cdv, ct, osl, hfd, lk, hcd⟩ := F.ex
  subst hfd
  have hl := len _ _ _ _ hsp
  have KX : K.In s.heap := e0.mod.kin.keeps fun b o e => (e0.bs b o e).1
  have kinds : ∀ y ∈ ps.zip us, (defScope st).names.lookup y.1 = some .local ∨ ((defScope st).names.lookup y.1 = some .cell ∧ ((cellsFrom (s.heap.objs.size + 1) (defScope st).names []).lookup y.1).isSome = true) := by
    rintro ⟨n, v⟩ hy
    have hn : n ∈ ps := (List.of_mem_zip hy).1
    exact (S.par n hn).imp id fun c => ⟨c, PySem.W.cellsFrom_some _ _ _ (Or.inl c)⟩
  refine codeAny_call_function hr.depth (KX _ _ lk) rfl S.co S.gen rfl (PySem.W.codeRec_of KX hcd) (hb _ _ _ _ ?_)
  refine wpAny_newFunctionEnv_cells S.kind kinds fun env he s1 x => ?_
  subst he
  refine ⟨(e0.mod.nolimit.keeps fun b o e => (e0.bs b o e).1).keeps x.toInCall.keep, codeAny_func ?_⟩
  obtain ⟨t, ht, hq⟩ := hbody cdv A outer s H vs Q E g (hr.deeper _) hsp
  have J0 := inv_start (CX := CX) (E := E) S hr.hd e0 hl r x
  refine wpAny_mono (ht.run [] s1 (start N vs) H _ J0 hq) (fun fl s' hs => ?_) fun e s' hs => hs
  match fl, hs with
  | .ret u, ⟨v, _, H', J, rv, q⟩ => exact ⟨v, H', J.os, J.bare, J.base, J.hok, rv, q⟩
  | .next, ⟨_, H', J, q⟩ => exact ⟨.non, H', J.os, J.bare, J.base, J.hok, rfl, q⟩
  | .brk, ⟨_, _, _, q⟩ => exact q.elim
  | .cont, ⟨_, _, _, q⟩ => exact q.elim
theorem fnG0 {x qual : Str} {st : Stmt} {N : List Str} (F : Fun K x qual st f fd) (S : FnScope N ps (defScope st)) (len : ∀ vs H Q E, sp vs H Q E → vs.length = ps.length)
    (hbody : ∀ (cdv : Value) (A : Around) (outer : List Env) (s : Shared) (H : Hp) (vs : List V) (Q : VK) (E : XK), A.guards = some [] → Room k (A.deeper (envOfC qual (defScope st) s.heap.objs.size f cdv)) → sp vs H Q E →
      ∃ t, PSs (cxOf CX0 P w K mg base N qual (defScope st) f cdv A outer s H E).nox (defBody st) t ∧ t { nx := fun _ H' => Q .non H', rt := Q } (start N vs) H) : FnOkG P w K mg base CX0 (k + 1) f fd ps sp :=
  fnG F S len fun cdv A outer s H vs Q E g hr h => by
    obtain ⟨t, h1, h2⟩ := hbody cdv A outer s H vs Q E g hr h
    exact ⟨t, h1.nox, h2⟩
end
section
variable {X : Cx} {CX : CXT} {k : Nat} {f : Addr} {fd : FuncData} {ps : List Str} {sp : Sp} {dvs : List V} {ds : List Value} {E : XK} {x : Str} {p pos : Pos} {e : Expr} {es : List Expr} {t : TA}
theorem pe_callG (F : FnOkG X.prog X.w X.K X.mg X.base CX k f fd ps sp) (hr : Room k X.A) (g : X.A.guards = some []) (hg : Gl X x) (hm : X.mg x = some (.ref f)) (hk : PySem.W.keepIn X.K (.ref f) = true) (hb : Binds X.K fd ps ds) (hd : Vals dvs ds) (hx : Passes CX X E)
    (ha : PA X (e :: es) t) (hdb : (x == ("__debug__" : Str)) = false := by decide) (he : starEach (e :: es) X.env = (false, eval e X.env) :: starEach es X.env := by rfl) (hpl : (backTo pos (starEach es X.env)).any (·.1) = false := by rfl) :
    PE X (.Call (.Name x p) (e :: es) [] pos) (tCall sp dvs E t) :=
  -- for this context the promise holds whatever stands around, so the plain rule serves
  ⟨fun pins s σ H Q I h => by
    refine wpAny_Call_Name_kw (ld_glob I hg hm ?_ hdb)
    refine PySem.W.callWith_K (h₀ := X.base) I.ok.mod.kin hk (thn (ha.run pos pins s σ H _ I h) fun us s1 ⟨vs, H1, I1, r, q⟩ => ⟨I1.kIn, ?_⟩) he hpl
    have r2 : Vals (vs ++ dvs) (us ++ ds) := r.append hd
    have hl : (us ++ ds).length = ps.length := r2.length ▸ F.len _ _ _ _ q
    refine wpAny_call (codeAny_mono (F.run X.A X.stack s1 H1 ⟨us, []⟩ (us ++ ds) (vs ++ dvs) Q E g hr I1.env0 (hb s1 us I1.kIn hl) r2 q) fun res s' hq => ?_)
    match res, hq with
    | .error e, hq => exact hx pins σ H1 s1 e s' I1 hq
    | .ok (.ret u), hq => exact I1.after hq
    | .ok .next, hq => exact hq.elim
    | .ok .brk, hq => exact hq.elim
    | .ok .cont, hq => exact hq.elim⟩
end

/-! ### the end of a law whose def wants that no repr is under way -/
theorem law_callG {P : Program} {w : World} {K : PySem.W.Frag} {mg mb : Str → Option Value} {k : Nat} {fa a : Addr} {fd : FuncData} {x : Str} {sp : Sp} {s1 : Shared} {vs : List Value} {ns : List Int}
    (KX : K.In s1.heap) (hns : s1.heap.Ns mainGlobals mg) (hb : s1.heap.Ns builtinsNs mb) (hbb : ∀ x : Str, x ≠ "__name__" → mb x = bootBuiltins x) (hlim : s1.heap.NoLimit) (hg : s1.gens = #[])
    (ha : s1.heap.get? a = some { cls := .type "list", data := .seq vs.toArray }) (hi : IntsAre vs ns) (hl : ns.length ≤ sizeLine) (hr : Room k callerA)
    (F : ∀ base : Heap, K.In base → base.Ns mainGlobals mg → FnOkG P w K mg base CX0 k fa fd [x] sp) (hbind : ∀ (s : Shared) (u : Value), BindsTo s fd ⟨[u], []⟩ [(x, u)])
    (hsp : ∀ H : Hp, Only H → SqL K H a (ns.map V.int) → sp [.ref a] H (fun v _ => v = .bl true) fun _ _ _ => False) :
    codeAny (model P w) callerA (.call (.ref fa) ⟨[.ref a], []⟩) (fun r s' => r = .ok (.ret (.bool true)) ∧ OldK s1.heap s'.heap ∧ s'.os = s1.os ∧ AllBare s'.gens) s1 := by
  have rv := vals_ints hi
  -- the heap tracks the script at most
  have main : ∀ H : Hp, Only H → SqL K H a (ns.map V.int) → HOk P w H s1.heap → (∀ b u, H b = some u → b = a ∧ K.lookup a = none) →
      codeAny (model P w) callerA (.call (.ref fa) ⟨[.ref a], []⟩) (fun r s' => r = .ok (.ret (.bool true)) ∧ OldK s1.heap s'.heap ∧ s'.os = s1.os ∧ AllBare s'.gens) s1 := by
    intro H only seq hok one
    have free : ∀ {b : Addr} {o : Obj} {es : Array DictEntry} {ep : Nat}, s1.heap.get? b = some o → o.data = .dict es ep → H b = none := by
      intro b o es ep e d
      cases q : H b with
      | none => rfl
      | some u =>
        obtain ⟨rfl, _⟩ := one b u q
        rw [ha] at e
        cases e
        exact nomatch d
    have ns1 : ∀ {b : Addr} {m : Str → Option Value}, s1.heap.Ns b m → (hidT s1.heap H).Ns b m := by
      rintro b m ⟨o, es, ep, e, d, r⟩
      exact ⟨o, es, ep, hidT_get e (free e d), d, r⟩
    have kin : K.In (hidT s1.heap H) := by
      intro b o e
      refine hidT_get (KX b o e) ?_
      cases q : H b with
      | none => rfl
      | some u =>
        obtain ⟨rfl, z⟩ := one b u q
        rw [z] at e
        cases e
    have md : Mod K mg (hidT s1.heap H) := by
      obtain ⟨mc, h1, h2⟩ := hlim
      exact ⟨kin, ns1 hns, ⟨mb, ns1 hb, hbb⟩, ⟨mc, ns1 h1, h2⟩⟩
    have e0 : Env0 P w K mg (hidT s1.heap H) callerA [] s1 H :=
      ⟨rfl, md, fun b o e => of_hidT e, Nat.le_of_eq (hidT_size _ _), trivial, fun b hb => absurd hb (by simp [frs]), hok, .of_eq hg⟩
    refine codeAny_mono ((F _ kin (ns1 hns)).run callerA [] s1 H ⟨[.ref a], []⟩ [.ref a] [.ref a] _ _ rfl hr e0 (hbind s1 (.ref a)) (.cons rfl .nil) (hsp H only seq)) fun r s' h => ?_
    match r, h with
    | .error e, h => exact h.elim
    | .ok .next, h => exact h.elim
    | .ok .brk, h => exact h.elim
    | .ok .cont, h => exact h.elim
    | .ok (.ret u), ⟨v, H', os, bare, un, hok', r', q⟩ =>
      have q' : v = .bl true := q
      subst q'
      obtain rfl : u = Value.bool true := r'
      refine ⟨rfl, OldK.of_keep fun b o e => ?_, os, bare⟩
      cases z : H b with
      | none => exact un.keep b o e z (by simp [frs]) (by simp)
      | some u =>
        rcases only b with n | ⟨ob, xs, n⟩
        · rw [z] at n; cases n
        · have same : s1.heap.get? b = some ob := (hok b _ n).1
          have after : s'.heap.get? b = some ob := (hok' b _ (un.frzs b ob _ n)).1
          rw [e] at same
          cases same
          exact after
  cases hk : K.lookup a with
  | some o =>
    have e := KX a o hk
    rw [ha] at e
    cases e
    refine main (fun _ => none) (fun _ => .inl rfl) (.inr ⟨_, vs.toArray, _, hk, rfl, rfl, rfl, ?_, ?_⟩) (fun b u z => ?_) (fun b u z => ?_)
    · rw [List.size_toArray, hi.length]; exact hl
    · simpa using rv
    · exact nomatch z
    · exact nomatch z
  | none =>
    have at_a : ∀ b u, (if b = a then some (HO.frz { cls := .type "list", data := .seq vs.toArray } (.lst (ns.map V.int))) else none) = some u → b = a ∧ u = HO.frz { cls := .type "list", data := .seq vs.toArray } (.lst (ns.map V.int)) := by
      intro b u z
      by_cases hb : b = a
      · rw [if_pos hb] at z; exact ⟨hb, (Option.some.inj z).symm⟩
      · rw [if_neg hb] at z; cases z
    refine main (fun b => if b = a then some (.frz { cls := .type "list", data := .seq vs.toArray } (.lst (ns.map V.int))) else none) (fun b => ?_) (.inl (.inr ⟨{ cls := .type "list", data := .seq vs.toArray }, if_pos rfl⟩)) (fun b u z => ?_) (fun b u z => ⟨(at_a b u z).1, hk⟩)
    · by_cases hb : b = a
      · exact .inr ⟨_, _, if_pos hb⟩
      · exact .inl (if_neg hb)
    · obtain ⟨rfl, rfl⟩ := at_a b u z
      refine ⟨ha, ?_, vs, _, rv, ha⟩
      rw [List.length_map]; exact hl
theorem walkG {l : PySem.W.OpenLaw} {n k : Nat} {q : Program} {loose : List Str} {XP : (Str → Option Value) → Heap → Prop} {YP : World → Heap → Prop} {d : DefRec} {K : Params → PySem.W.Frag} {sp : PySem.W.Frag → Sp} {x : Str}
    (hn : l.most = some n) (hn2 : n ≤ sizeLine) (hdf : d.params.defaults = []) (hr : Room k callerA) (hY : ∀ (w : World) (h : Heap), YP w h → (K w.params).In h)
    (F : ∀ (w : World) (mg : Str → Option Value) (fa : Addr) (h : Heap), (K w.params).In h → h.Ns mainGlobals mg → mg d.name = some (.ref fa) →
      ∃ fd : FuncData, (∀ (s : Shared) (u : Value), BindsTo s fd ⟨[u], []⟩ [(x, u)]) ∧ ∀ base : Heap, (K w.params).In base → base.Ns mainGlobals mg → FnOkG l.prog w (K w.params) mg base CX0 k fa fd [x] (sp (K w.params)))
    (hsp : ∀ (K : PySem.W.Frag) (H : Hp) (a : Addr) (ns : List Int), ns.length ≤ n → Only H → SqL K H a (ns.map V.int) → sp K [.ref a] H (fun v _ => v = .bl true) fun _ _ _ => False) :
    PySem.W.WalkO q loose XP YP l.row.toRowW d [] (fun f vs => PySem.call f vs) := by
  refine Att.attach_call hn hdf ?_
  intro w s0 s1 mg mb fa o pm cd doc a vs ns G Y ho hd hcd hmg hobj hints hlen hg
  obtain ⟨fd, hb, hF⟩ := F w mg fa _ (hY w _ Y) G.T.g hmg
  exact law_callG (hY w _ Y) G.T.g G.T.b G.T.builtins G.T.nolimit hg hobj hints (Nat.le_trans hlen hn2) hr hF hb fun H hO hS => hsp (K w.params) H a ns hlen hO hS
end Nm

set_option Elab.async false
set_option linter.all false
set_option maxRecDepth 100000
set_option maxHeartbeats 1000000
namespace Nm
open PySem PySem.Spec L2
section
variable {K : PySem.W.Frag} {F H : Hp} {σ : L2.St} {ta tb tc te : TE} {d : D}
theorem rvA_eq_int {i j : Int} : RvD K (rEqA K) (.int i) (.int j) (.bl (decide (i = j))) := fun F H x y s hx hy Q q => .inl (rv_eq_int (K := K) F H x y s hx hy Q q)
theorem rvA_eq_str {i j : Str} : RvD K (rEqA K) (.str i) (.str j) (.bl (decide (i = j))) := fun F H x y s hx hy Q q => .inl (rv_eq_str (K := K) F H x y s hx hy Q q)
theorem rvA_ne_int {i j : Int} : RvD K (rNeA K) (.int i) (.int j) (.bl (!decide (i = j))) := fun F H x y s hx hy Q q => .inl (rv_ne_int (K := K) F H x y s hx hy Q q)
theorem rvA_ne_str {i j : Str} : RvD K (rNeA K) (.str i) (.str j) (.bl (!decide (i = j))) := fun F H x y s hx hy Q q => .inl (rv_ne_str (K := K) F H x y s hx hy Q q)
theorem rc_isiA {t n : String} {b : Bool} (e : tyD d = some t) (hb : kitB t n = some b) : RcD K (rIsiA K) [d, .ty n] (.bl b) := fun F H xs s hx Q q => .inl (rc_isi (K := K) e hb F H xs s hx Q q)
theorem rv_lt_int {i j : Int} : RvD K (rLtA K) (.int i) (.int j) (.bl (decide (i < j))) := rv_cmp_int
theorem rv_le_int {i j : Int} : RvD K (rLeA K) (.int i) (.int j) (.bl (decide (i ≤ j))) := rv_cmp_int
theorem rv_gt_int {i j : Int} : RvD K (rGtA K) (.int i) (.int j) (.bl (decide (j < i))) := rv_cmp_int
theorem rv_ge_int {i j : Int} : RvD K (rGeA K) (.int i) (.int j) (.bl (decide (j ≤ i))) := rv_cmp_int
theorem rv_mul_int {i j : Int} (h : CMul i j) : RvD K (rMulA K) (.int i) (.int j) (.int (i * j)) := fun F H x y s hx hy Q q => .inl (rv_I (g := fun i j => i * j) h F H x y s hx hy Q q)
theorem rv_ix_str {z : Str} {i : Int} {c : Nat} (hz : z.length ≤ sizeLine) (h : atI z.cps.toList i = some c) : RvD K (rIxA K) (.str z) (.int i) (.str ⟨#[c]⟩) := fun F H x y s hx hy Q q => by
  cases hx; cases hy
  exact .inl (.inr (.inr ⟨z, i, c, rfl, rfl, hz, h, q _ F H (Ext.refl s) (.str _)⟩))
theorem atI_den {F : Hp} {xs : List V} {ds : List D} {i : Int} (l : DenL K F xs ds) (h : atI ds i = some d) : ∃ v, atI xs i = some v ∧ Den K F v d := by
  unfold atI at h ⊢
  rw [l.length]
  cases e : ixN ds.length i with
  | none => rw [e] at h; cases h
  | some j =>
    rw [e] at h
    exact l.get h
theorem rv_ix_lst {ds : List D} {i : Int} (h : atI ds i = some d) : RvD K (rIxA K) (.lst ds) (.int i) d := fun F H x y s hx hy Q q => by
  cases hy
  cases hx with
  | lst a l =>
    obtain ⟨v, h1, h2⟩ := atI_den l h
    exact .inl (.inl ⟨_, _, i, v, rfl, rfl, SqL.of (s _ _ a), h1, q _ F H (Ext.refl s) h2⟩)
theorem rv_ix_tup {ds : List D} {i : Int} (h : atI ds i = some d) : RvD K (rIxA K) (.tup ds) (.int i) d := fun F H x y s hx hy Q q => by
  cases hy
  cases hx with
  | tup a l =>
    obtain ⟨v, h1, h2⟩ := atI_den l h
    exact .inl (.inr (.inl ⟨_, _, i, v, rfl, rfl, same_t s a, h1, q _ F H (Ext.refl s) h2⟩))
theorem rc_abs {i : Int} : RcD K rAbs [.int i] (.int (if i < 0 then -i else i)) := fun F H xs s hx Q q => by
  cases hx with | cons h t => cases h; cases t; exact ⟨i, rfl, q _ F H (Ext.refl s) (.int _)⟩
theorem rc_max2 {i j : Int} : RcD K rMax2 [.int i, .int j] (.int (if j > i then j else i)) := fun F H xs s hx Q q => by
  cases hx with | cons h t => cases h; cases t with | cons h t => cases h; cases t; exact ⟨i, j, rfl, q _ F H (Ext.refl s) (.int _)⟩
theorem rc_min2 {i j : Int} : RcD K rMin2 [.int i, .int j] (.int (if j < i then j else i)) := fun F H xs s hx Q q => by
  cases hx with | cons h t => cases h; cases t with | cons h t => cases h; cases t; exact ⟨i, j, rfl, q _ F H (Ext.refl s) (.int _)⟩
theorem ev_chain {r r' : R2} {a b c : D} {p q : Bool} (ha : EvD K ta σ F a) (hb : EvD K tb σ F b) (hr : RvD K r a b (.bl p)) (hc : p = true → EvD K tc σ F c) (hr' : p = true → RvD K r' b c (.bl q)) : EvD K (tChain r r' ta tb tc) σ F (.bl (p && q)) := fun H s Q k =>
  ha H s _ fun x F1 H1 x1 d1 => (hb.up x1.f) H1 x1.s _ fun y F2 H2 x2 d2 => hr F2 H2 x y x2.s (d1.up x2.f) d2 _ fun z F3 H3 x3 d3 => by
    cases d3
    refine ⟨p, rfl, ?_⟩
    cases p with
    | true =>
      rw [if_pos rfl]
      exact ((hc rfl).up (x1.f.trans (x2.f.trans x3.f))) H3 x3.s _ fun w F4 H4 x4 d4 => hr' rfl F4 H4 y w x4.s ((d2.up x3.f).up x4.f) d4 _ fun v F5 H5 x5 d5 => k v F5 H5 ((((x1.tr x2).tr x3).tr x4).tr x5) d5
    | false =>
      rw [if_neg (by decide)]
      exact k _ F3 H3 ((x1.tr x2).tr x3) (.bl false)
theorem if_some {α : Type} {c : Bool} {a d : α} (h : (if c = true then some a else none) = some d) : c = true ∧ a = d := by
  cases c with
  | true => exact ⟨rfl, Option.some.inj h⟩
  | false => cases h
theorem ev_andF (h1 : EvD K ta σ F (.bl false)) : EvD K (tAndV ta tb) σ F (.bl false) := ev_and (b := false) h1 (fun z => nomatch z)
theorem ev_andT {b : Bool} (h1 : EvD K ta σ F (.bl true)) (h2 : EvD K tb σ F (.bl b)) : EvD K (tAndV ta tb) σ F (.bl b) := ev_and (a := true) h1 fun _ => h2
theorem et_andF {tt tu : TT} (h1 : EvT K tt σ F false) : EvT K (tAnd tt tu) σ F false := et_and (b := false) h1 (fun z => nomatch z)
/-- sep.join(texts) -/
theorem ev_join {sep : Str} {ys : List Str} (h1 : EvD K ta σ F (.str sep)) (h2 : EvD K tb σ F (.lst (ys.map D.str))) (hz : (ys.map (·.length)).sum + ys.length * sep.length ≤ 16777216) : EvD K (tM1 (rJoin K) ta tb) σ F (.str (Txt.join sep ys)) := fun H s Q q =>
  h1 H s _ fun x F1 H1 x1 d1 => by
    cases d1
    refine ⟨⟨_, rfl⟩, (h2.up x1.f) H1 x1.s _ fun y F2 H2 x2 d2 => ?_⟩
    cases d2 with
    | lst a l =>
      rw [denL_strs l] at a
      exact ⟨sep, _, ys, rfl, rfl, .inl (SqL.of (x2.s _ _ a)), hz, q _ F2 H2 (x1.tr x2) (.str _)⟩
/-- text[lo:hi] -/
def EvO (K : PySem.W.Frag) (to : TO) (σ : L2.St) (F : Hp) (o : Option Int) : Prop := ∀ H, Same F H → ∀ Q : Option Int → Hp → Prop, (∀ F' H', Ext [] F H F' H' → Q o H') → to σ H Q
theorem eo_none : EvO K tNo σ F none := fun H s Q q => q F H (Ext.refl s)
theorem eo_some {i : Int} (h : EvD K te σ F (.int i)) : EvO K (tSome te) σ F (some i) := fun H s Q q => h H s _ fun v F1 H1 x1 d1 => by cases d1; exact ⟨i, rfl, q F1 H1 x1⟩
theorem EvO.up {to : TO} {o : Option Int} {F' : Hp} (h : EvO K to σ F o) (e : Same F F') : EvO K to σ F' o := fun H s Q q => h H (e.trans s) Q fun F2 H2 x => q _ H2 (Ext.uni e s x)
theorem ev_sl_str {z : Str} {tl th : TO} {lo hi : Option Int} (h : EvD K te σ F (.str z)) (hl : EvO K tl σ F lo) (hh : EvO K th σ F hi) (hz : z.length ≤ sizeLine) : EvD K (L2.tSl (rSlAny K) te tl th) σ F (.str (cutS z lo hi)) := fun H s Q q =>
  h H s _ fun x F1 H1 x1 d1 => (hl.up x1.f) H1 x1.s _ fun F2 H2 x2 => (hh.up (x1.f.trans x2.f)) H2 x2.s _ fun F3 H3 x3 => by
    cases d1
    exact .inl ⟨z, rfl, hz, q _ F3 H3 ((x1.tr x2).tr x3) (.str _)⟩
def cutD (xs : List D) (lo hi : Option Int) : List D := (xs.drop (HT.sIx xs.length 0 lo)).take (HT.sIx xs.length xs.length hi - HT.sIx xs.length 0 lo)
theorem DenL.drop : ∀ {vs : List V} {ds : List D} (n : Nat), DenL K F vs ds → DenL K F (vs.drop n) (ds.drop n)
  | _, _, 0, h => h
  | _, _, _ + 1, .nil => .nil
  | _, _, n + 1, .cons _ t => DenL.drop n t
theorem DenL.take : ∀ {vs : List V} {ds : List D} (n : Nat), DenL K F vs ds → DenL K F (vs.take n) (ds.take n)
  | _, _, 0, _ => .nil
  | _, _, _ + 1, .nil => .nil
  | _, _, n + 1, .cons h t => .cons h (DenL.take n t)
theorem ev_sl_lst {ds : List D} {tl th : TO} {lo hi : Option Int} (h : EvD K te σ F (.lst ds)) (hl : EvO K tl σ F lo) (hh : EvO K th σ F hi) : EvD K (L2.tSl (rSlAny K) te tl th) σ F (.lst (cutD ds lo hi)) := fun H s Q q =>
  h H s _ fun x F1 H1 x1 d1 => (hl.up x1.f) H1 x1.s _ fun F2 H2 x2 => (hh.up (x1.f.trans x2.f)) H2 x2.s _ fun F3 H3 x3 => by
    cases d1 with
    | lst a l =>
      refine .inr (.inl ⟨_, _, rfl, SqL.of (x3.s _ _ (x3.f _ _ (x2.f _ _ a))), fun p hp => q _ _ _ (((x1.tr x2).tr x3).tr (Ext.new x3.s hp)) (.lst upd_same ?_)⟩)
      refine DenL.up (F := F3) ?_ (Ext.new x3.s hp).f
      unfold cutD cutV
      rw [l.length]
      exact ((l.up (x2.f.trans x3.f)).drop _).take _
end

/-! ### starting a pure def -/
section
variable {K : PySem.W.Frag} {vs : List V} {H : Hp} {Q : VK} {E : XK} {f : List D → Option D}
theorem spP1 (h : spP K 1 f vs H Q E) : ∃ F v x d, vs = [v] ∧ Same F H ∧ Den K F v x ∧ f [x] = some d ∧ ∀ v F' H', Ext [] F H F' H' → Den K F' v d → Q v H' := by
  obtain ⟨F, ds, d, S, l, hf, hn, k⟩ := h
  match ds, l, hn with
  | [x], .cons hv .nil, _ => exact ⟨F, _, x, d, rfl, S, hv, hf, k⟩
theorem spP2 (h : spP K 2 f vs H Q E) : ∃ F v w x y d, vs = [v, w] ∧ Same F H ∧ Den K F v x ∧ Den K F w y ∧ f [x, y] = some d ∧ ∀ v F' H', Ext [] F H F' H' → Den K F' v d → Q v H' := by
  obtain ⟨F, ds, d, S, l, hf, hn, k⟩ := h
  match ds, l, hn with
  | [x, y], .cons hv (.cons hw .nil), _ => exact ⟨F, _, _, x, y, d, rfl, S, hv, hw, hf, k⟩
theorem spP3 (h : spP K 3 f vs H Q E) : ∃ F v w u x y z d, vs = [v, w, u] ∧ Same F H ∧ Den K F v x ∧ Den K F w y ∧ Den K F u z ∧ f [x, y, z] = some d ∧ ∀ v F' H', Ext [] F H F' H' → Den K F' v d → Q v H' := by
  obtain ⟨F, ds, d, S, l, hf, hn, k⟩ := h
  match ds, l, hn with
  | [x, y, z], .cons hv (.cons hw (.cons hu .nil)), _ => exact ⟨F, _, _, _, x, y, z, d, rfl, S, hv, hw, hu, hf, k⟩
end

/-! ### the bag of numbers that are drawn from -/
/-- a bag at b, from which n more numbers may be drawn -/
def BagAt (F H : Hp) (b : Addr) (n : Nat) : Prop := ∃ x y z : Int, Own F H b (.lst [.int x, .int y, .int z]) ∧ 0 ≤ x ∧ 0 ≤ y ∧ y < 2305843009213693951 ∧ 0 ≤ z ∧ z + n ≤ 1000000000
section
variable {F H F1 H1 : Hp} {b : Addr} {n m : Nat}
theorem BagAt.ext0 (w : BagAt F H b n) (x : Ext [] F H F1 H1) : BagAt F1 H1 b n := by
  obtain ⟨p, q, r, o, h⟩ := w
  exact ⟨p, q, r, o.ext0 x, h⟩
theorem BagAt.less (w : BagAt F H b n) (h : m ≤ n) : BagAt F H b m := by
  obtain ⟨p, q, r, o, h1, h2, h3, h4, h5⟩ := w
  exact ⟨p, q, r, o, h1, h2, h3, h4, by omega⟩
theorem BagAt.ne (w : BagAt F H b n) : H b ≠ none := by
  obtain ⟨p, q, r, o, h⟩ := w
  rw [o.h]; simp
theorem BagAt.nf (w : BagAt F H b n) : F b = none := by
  obtain ⟨p, q, r, o, h⟩ := w
  exact o.f
end
/-- an expression that may draw c numbers from the bag at b: what R says of its worth -/
def EvB (K : PySem.W.Frag) (b : Addr) (c : Nat) (te : TE) (σ : L2.St) (F : Hp) (R : D → Prop) : Prop :=
  ∀ H n, Same F H → BagAt F H b (n + c) → ∀ Q : VK, (∀ v d F' H', Ext [b] F H F' H' → BagAt F' H' b n → R d → Den K F' v d → Q v H') → te σ H Q
def EvBA (K : PySem.W.Frag) (b : Addr) (c : Nat) (ta : TA) (σ : L2.St) (F : Hp) (R : List D → Prop) : Prop :=
  ∀ H n, Same F H → BagAt F H b (n + c) → ∀ Q : List V → Hp → Prop, (∀ vs ds F' H', Ext [b] F H F' H' → BagAt F' H' b n → R ds → DenL K F' vs ds → Q vs H') → ta σ H Q
def EvBI (K : PySem.W.Frag) (b : Addr) (c : Nat) (wi : TI) (σ : L2.St) (F : Hp) (R : List D → Prop) : Prop :=
  ∀ H n, Same F H → BagAt F H b (n + c) → ∀ Q : It → Hp → Prop, (∀ J ds F' H', Ext [b] F H F' H' → BagAt F' H' b n → R ds → WalkD K F' J ds → Q J H') → wi σ H Q
/-- a def that draws at most c numbers from the bag, its first argument -/
def spB (K : PySem.W.Frag) (m c : Nat) (pre : List D → Prop) (post : List D → D → Prop) : Sp := fun vs H Q _ => ∃ F b n ws ds, vs = .ref b :: ws ∧ Same F H ∧ BagAt F H b (n + c) ∧ DenL K F ws ds ∧ ds.length = m ∧ pre ds ∧
  ∀ v d F' H', Ext [b] F H F' H' → BagAt F' H' b n → post ds d → Den K F' v d → Q v H'
section
variable {K : PySem.W.Frag} {F F' H : Hp} {σ : L2.St} {ta tb te : TE} {d : D} {b : Addr} {c c1 c2 n : Nat} {R RA RB : D → Prop}
theorem Ext.uniB {F1 F2 H1 H2 : Hp} (e : Same F F1) (e1 : Same F1 H1) (fb : F1 b = none) (x : Ext [b] F H1 F2 H2) : Ext [b] F1 H1 (Nm.uni F1 F2) H2 := by
  have e1' : Same F1 H2 := fun a o h => x.h a o (by
    intro z
    have : a = b := by simpa using z
    rw [this, fb] at h; cases h) (e1 a o h)
  refine ⟨uni_l, x.h, uni_s e1' x.s, fun a h k => ?_, x.k⟩
  unfold Nm.uni
  rw [h]
  exact x.n a (e.free h) k
theorem Ext.sameB {F1 H1 F2 H2 : Hp} (e1 : Same F1 H1) (fb : F1 b = none) (x : Ext [b] F H1 F2 H2) : Same F1 H2 := fun a o h => x.h a o (by
    intro z
    have : a = b := by simpa using z
    rw [this, fb] at h; cases h) (e1 a o h)
theorem BagAt.down {G : Hp} (w : BagAt F' H b n) (e : Same F F') : BagAt F H b n := by
  obtain ⟨p, q, r, o, h⟩ := w
  exact ⟨p, q, r, ⟨e.free o.f, o.h⟩, h⟩
theorem BagAt.fz {G : Hp} (w : BagAt F H b n) (h : G b = none) : BagAt G H b n := by
  obtain ⟨p, q, r, o, k⟩ := w
  exact ⟨p, q, r, ⟨h, o.h⟩, k⟩
theorem EvB.up (h : EvB K b c te σ F R) (e : Same F F') : EvB K b c te σ F' R := fun H n s w Q q => h H n (e.trans s) (w.fz (e.free w.nf)) Q fun v d F2 H2 x w2 r dv => by
  have x' := Ext.uniB e s w.nf x
  exact q v d _ H2 x' (w2.fz (x'.n b w.nf w.ne)) r (dv.up (uni_r (Ext.sameB s w.nf x) x.s))
theorem EvBA.up {ta : TA} {R : List D → Prop} (h : EvBA K b c ta σ F R) (e : Same F F') : EvBA K b c ta σ F' R := fun H n s w Q q => h H n (e.trans s) (w.fz (e.free w.nf)) Q fun v d F2 H2 x w2 r dv => by
  have x' := Ext.uniB e s w.nf x
  exact q v d _ H2 x' (w2.fz (x'.n b w.nf w.ne)) r (dv.up (uni_r (Ext.sameB s w.nf x) x.s))
theorem eb_of (h : EvD K te σ F d) : EvB K b 0 te σ F (· = d) := fun H n s w Q q => h H s Q fun v F' H' x dv => q v d F' H' (x.wide (by simp)) (w.ext0 x) rfl dv
theorem eb_weak (h : EvB K b c te σ F R) (hc : c ≤ c1) (hR : ∀ d, R d → RA d) : EvB K b c1 te σ F RA := fun H n s w Q q => h H n s (w.less (by omega)) Q fun v d F' H' x w' r dv => q v d F' H' x w' (hR d r) dv
theorem eb_op {r : R2} (ha : EvB K b c1 ta σ F RA) (hb : EvB K b c2 tb σ F RB) (hr : ∀ x y, RA x → RB y → ∃ z, RvD K r x y z ∧ R z) : EvB K b (c1 + c2) (tOp r ta tb) σ F R := fun H n s w Q q =>
  ha H (n + c2) s (w.less (by omega)) _ fun x dx F1 H1 x1 w1 r1 d1 => (hb.up x1.f) H1 n x1.s w1 _ fun y dy F2 H2 x2 w2 r2 d2 => by
    obtain ⟨z, h1, h2⟩ := hr dx dy r1 r2
    exact h1 F2 H2 x y x2.s (d1.up x2.f) d2 Q fun v F3 H3 x3 d3 => q v z F3 H3 ((x1.trans x2).tl x3) (w2.ext0 x3) h2 d3
theorem ea_ofB {ta : TA} {ds : List D} (h : EvA K ta σ F ds) : EvBA K b 0 ta σ F (· = ds) := fun H n s w Q q => h H s Q fun v F' H' x dv => q v ds F' H' (x.wide (by simp)) (w.ext0 x) rfl dv
theorem eb_nil : EvBA K b 0 tNil σ F (· = []) := ea_ofB ea_nil
theorem eb_cons {tr : TA} {S T : List D → Prop} (ha : EvB K b c1 ta σ F RA) (hr : EvBA K b c2 tr σ F S) (hT : ∀ x xs, RA x → S xs → T (x :: xs)) : EvBA K b (c1 + c2) (tCons ta tr) σ F T := fun H n s w Q q =>
  ha H (n + c2) s (w.less (by omega)) _ fun x dx F1 H1 x1 w1 r1 d1 => (hr.up x1.f) H1 n x1.s w1 _ fun y dy F2 H2 x2 w2 r2 d2 =>
    q (x :: y) (dx :: dy) F2 H2 (x1.trans x2) w2 (hT dx dy r1 r2) (.cons (d1.up x2.f) d2)
theorem eb_tup {ta : TA} {S : List D → Prop} (h : EvBA K b c ta σ F S) (hl : ∀ ds, S ds → ds.length ≤ sizeLine) (hR : ∀ ds, S ds → R (.tup ds)) : EvB K b c (tTup ta) σ F R := fun H n s w Q q =>
  h H n s w _ fun vs ds F1 H1 x1 w1 r1 d1 => ⟨by rw [d1.length]; exact hl ds r1, fun p hp => q _ (.tup ds) _ _ (x1.tl (Ext.new x1.s hp)) (w1.ext0 (Ext.new x1.s hp)) (hR ds r1) (.tup (SqT.of upd_same) (d1.up (Ext.new (o := .tup vs) x1.s hp).f))⟩
theorem eb_lst {ta : TA} {S : List D → Prop} (h : EvBA K b c ta σ F S) (hl : ∀ ds, S ds → ds.length ≤ sizeLine) (hR : ∀ ds, S ds → R (.lst ds)) : EvB K b c (tLst ta) σ F R := fun H n s w Q q =>
  h H n s w _ fun vs ds F1 H1 x1 w1 r1 d1 => ⟨by rw [d1.length]; exact hl ds r1, fun p hp => q _ (.lst ds) _ _ (x1.tl (Ext.new x1.s hp)) (w1.ext0 (Ext.new x1.s hp)) (hR ds r1) (.lst upd_same (d1.up (Ext.new (o := .lst vs) x1.s hp).f))⟩
/-- a call that draws -/
theorem eb_call {r : List Sl} {i m : Nat} {tr : TA} {E : XK} {pre : List D → Prop} {post : List D → D → Prop} {S : List D → Prop} (EV : EnvD K F r σ) (hi : r[i]? = some (.v (.ref b))) (ha : EvBA K b c1 tr σ F S)
    (hS : ∀ ds, S ds → ds.length = m ∧ pre ds) (hR : ∀ ds d, S ds → post ds d → R d) : EvB K b (c1 + c2) (tCall (spB K m c2 pre post) [] E (tCons (tVar i) tr)) σ F R := fun H n s w Q q => by
  obtain ⟨o, h1, h2⟩ := EV.get hi
  have h2 : o = some (.ref b) := h2
  subst h2
  refine ⟨.ref b, h1, ha H (n + c2) s (w.less (by omega)) _ fun vs ds F1 H1 x1 w1 r1 d1 => ?_⟩
  obtain ⟨l1, l2⟩ := hS ds r1
  refine ⟨F1, b, n, vs, ds, by simp, x1.s, w1, d1, l1, l2, fun v d F2 H2 x2 w2 p2 d2 => q v d F2 H2 (x1.trans x2) w2 (hR ds d r1 p2) d2⟩
/-- what is walked, its making drawing -/
theorem ei_ofB {wi : TI} {ds : List D} (h : EvI K wi σ F ds) : EvBI K b 0 wi σ F (· = ds) := fun H n s w Q q => h H s Q fun J F' H' x W => q J ds F' H' (x.wide (by simp)) (w.ext0 x) rfl W
theorem ebi_rng1 {ta : TA} {S : List D → Prop} {T : List D → Prop} (h : EvBA K b c ta σ F S) (hS : ∀ ds, S ds → ∃ m : Nat, ds = [.int (m : Nat)] ∧ m ≤ 1000000 ∧ T ((List.range m).map fun i => .int (i : Nat))) : EvBI K b c (iRng1 ta) σ F T := fun H n s w Q q =>
  h H n s w _ fun vs ds F1 H1 x1 w1 r1 d1 => by
    obtain ⟨m, rfl, hm, t⟩ := hS ds r1
    have one : EvA K (fun _ H2 R => R vs H2) σ F1 [.int (m : Nat)] := fun H2 s2 R2 q2 => q2 vs F1 H2 (Ext.refl s2) d1
    have := ei_rng1 one (by omega) (by omega) H1 x1.s Q fun J F2 H2 x2 W => q J _ F2 H2 (x1.tl x2) (w1.ext0 x2) (by rw [Int.toNat_natCast] at *; exact t) (by rw [Int.toNat_natCast] at W; exact W)
    exact this
theorem ebi_seq_tup {S : List D → Prop} (h : EvB K b c te σ F R) (hS : ∀ d, R d → ∃ ds, d = .tup ds ∧ S ds) : EvBI K b c (iSeq K te) σ F S := fun H n s w Q q => .inr (.inl (h H n s w _ fun v d F1 H1 x1 w1 r1 d1 => by
  obtain ⟨ds, rfl, t⟩ := hS d r1
  have one : EvD K (fun _ H2 R => R v H2) σ F1 (.tup ds) := fun H2 s2 R2 q2 => q2 v F1 H2 (Ext.refl s2) d1
  cases d1 with
  | tup hh l =>
    rename_i a xs
    refine ⟨a, rfl, ⟨xs, same_t x1.s hh⟩, q _ ds F1 H1 x1 w1 t ⟨fun H => SqT K H a xs, YAt xs, ?_, fun H s => same_t s hh, fun i H x H' hi s y => ?_⟩⟩
    · rw [← l.length]; exact walk_tup
    · obtain ⟨rfl, y⟩ := y
      obtain ⟨d, h1, h2⟩ := l.getV y
      exact ⟨d, F1, h1, Ext.refl s, h2⟩))
/-- a comprehension whose elements draw: each as RE says -/
theorem eb_lc {r : List Sl} {j : Nat} {vs : List Nat} {wi : TI} {N ce ci : Nat} {I : List D → Prop} {RE : D → D → Prop} (E : EnvD K F r σ) (hi : EvBI K b ci wi σ F I) (hI : ∀ ds, I ds → ds.length ≤ N) (hN : N < sizeLine)
    (hw : ∀ (σ' : L2.St) (x : Option V), wipe ((wipe σ' vs).set j x) vs = wipe σ' vs)
    (he : ∀ ds d F' σ', I ds → d ∈ ds → Same F F' → EnvD K F' ((wipeR r vs).set j (.d d)) σ' → EvB K b ce te σ' F' (RE d))
    (hR : ∀ ds es, I ds → es.length = ds.length → (∀ (i : Nat) d e, ds[i]? = some d → es[i]? = some e → RE d e) → R (.lst es)) :
    EvB K b (ci + N * ce) (tLc wi (gName j) tYes te vs) σ F R := fun H n s w Q q => hi H (n + N * ce) s (w.less (by omega)) _ fun J items F1 H1 x1 w1 i1 W1 Dl hD => by
  obtain ⟨G, Y, wk, hg, hy⟩ := W1
  have hlen := hI items i1
  have bne : b ≠ Dl := fun z => by rw [z] at w1; exact w1.ne hD
  refine lc_it wk (fun i H' => ∃ F' acc es, Ext [b] F1 H1 F' H' ∧ BagAt F' H' b (n + (N - i) * ce) ∧ F' Dl = none ∧ H' Dl = some (.lst acc) ∧ DenL K F' acc es ∧ es.length = i ∧ ∀ (k : Nat) d e, k < i → items[k]? = some d → es[k]? = some e → RE d e) ?_ ?_ ?_ ?_
  · refine ⟨F1, [], [], (Ext.newM x1.s hD).wide (by simp), ?_, x1.s.free hD, upd_same, .nil, rfl, fun k d e hk => absurd hk (by omega)⟩
    exact (w1.ext0 (Ext.newM x1.s hD)).less (by simp)
  · rintro i H' _ ⟨F', acc, es, x, _⟩
    exact hg H' (x.f.trans x.s)
  · rintro i v H' H'' hlt ⟨F', acc, es, x, w', fD, eD, l, el, hre⟩ y
    obtain ⟨d, F2, h1, h2, h3⟩ := hy i H' v H'' hlt (x.f.trans x.s) y
    have hd : d ∈ items := List.mem_of_getElem? h1
    have x2 := Ext.uni x.f x.s h2
    have h3' : Den K (uni F' F2) v d := h3.up (uni_r (x.s.trans h2.same) h2.s)
    have fD2 : uni F' F2 Dl = none := x2.n Dl fD (by rw [eD]; simp)
    have eD2 : H'' Dl = some (.lst acc) := x2.same _ _ eD
    have sF : Same F (uni F' F2) := (x1.f.trans x.f).trans x2.f
    have E2 : EnvD K (uni F' F2) ((wipeR r vs).set j (.d d)) ((wipe σ vs).set j (some v)) := EnvD.set j ((EnvD.wipe E vs).up sF) ⟨v, rfl, h3'⟩
    refine ⟨hw σ _, ?_⟩
    unfold tYes
    dsimp only
    rw [if_pos rfl]
    have bud : (N - i) * ce = (N - (i + 1)) * ce + ce := by
      have : N - i = (N - (i + 1)) + 1 := by omega
      rw [this, Nat.add_mul, Nat.one_mul]
    refine he items d _ _ i1 hd sF E2 H'' (n + (N - (i + 1)) * ce) x2.s ((w'.ext0 x2).less (by omega)) _ fun z e F4 H4 x4 w4 r4 d4 => ?_
    have fD4 : F4 Dl = none := x4.n Dl fD2 (by rw [eD2]; simp)
    have eD4 : H4 Dl = some (.lst acc) := x4.h Dl _ (by simpa using bne.symm) eD2
    have xx : Ext [b] F1 H1 F4 H4 := (x.tl x2).trans x4
    refine ⟨acc, eD4, ?_, F4, acc ++ [z], es ++ [e], Ext.mutNew xx hD fD4, ?_, fD4, upd_same, (l.up (x2.f.trans x4.f)).append (.cons d4 .nil), by simp [el], fun k d' e' hk hd' he' => ?_⟩
    · rw [l.length, el]; omega
    · obtain ⟨p, q, rr, o, hh⟩ := w4
      exact ⟨p, q, rr, ⟨o.f, by rw [upd_ne bne]; exact o.h⟩, hh⟩
    · by_cases hk' : k < i
      · rw [List.getElem?_append_left (by omega)] at he'
        exact hre k d' e' hk' hd' he'
      · have : k = i := by omega
        subst this
        rw [h1] at hd'
        cases hd'
        rw [List.getElem?_append_right (by omega), el] at he'
        simp at he'
        subst he'
        exact r4
  · rintro H' ⟨F', acc, es, x, w', fD, eD, l, el, hre⟩
    have xf := Ext.freeze x hD eD fD
    refine q _ (.lst es) _ _ (x1.trans xf) (w'.less (by omega) |>.fz (by rw [upd_ne bne]; exact w'.nf)) (hR items es i1 el fun i d e hd he => hre i d e (by have := (List.getElem?_eq_some_iff.mp hd).1; omega) hd he) (.lst upd_same (l.up (same_new fD)))
theorem eb_join {sep : Str} (h1 : EvD K ta σ F (.str sep)) (h2 : EvB K b c tb σ F RA) (hR : ∀ d, RA d → ∃ ys : List Str, d = .lst (ys.map D.str) ∧ (ys.map (·.length)).sum + ys.length * sep.length ≤ 16777216 ∧ R (.str (Txt.join sep ys))) : EvB K b c (tM1 (rJoin K) ta tb) σ F R := fun H n s w Q q =>
  h1 H s _ fun x F1 H1 x1 d1 => by
    cases d1
    refine ⟨⟨_, rfl⟩, (h2.up x1.f) H1 n x1.s (w.ext0 x1) _ fun y d F2 H2 x2 w2 r2 d2 => ?_⟩
    obtain ⟨ys, rfl, hz, hr⟩ := hR d r2
    cases d2 with
    | lst a l =>
      rw [denL_strs l] at a
      exact ⟨sep, _, ys, rfl, rfl, .inl (SqL.of (x2.s _ _ a)), hz, q _ _ F2 H2 (x1.tr x2) w2 hr (.str _)⟩
/-! statements -/
variable {DE : Ends} {tz tu : TS} {r : List Sl} {j : Nat}
theorem q_asgB (S : Same F H) (E : EnvD K F r σ) (w : BagAt F H b (n + c)) (h : EvB K b c te σ F R) (k : ∀ d F' H' σ', R d → Ext [b] F H F' H' → BagAt F' H' b n → EnvD K F' (r.set j (.d d)) σ' → tz DE σ' H') : tSeq (tAsg te (gName j)) tz DE σ H :=
  h H n S w _ fun v d F' H' x w' rd dv => k d F' H' _ rd x w' (EnvD.set j (E.up x.f) ⟨v, rfl, dv⟩)
theorem s_retB (S : Same F H) (w : BagAt F H b (n + c)) (h : EvB K b c te σ F R) (k : ∀ v d F' H', R d → Ext [b] F H F' H' → BagAt F' H' b n → Den K F' v d → DE.rt v H') : tRet te DE σ H :=
  h H n S w _ fun v d F' H' x w' rd dv => k v d F' H' rd x w' dv
end
end Nm

set_option Elab.async false
set_option linter.all false
set_option maxRecDepth 100000
set_option maxHeartbeats 1000000
namespace Nm
open PySem PySem.Spec L2
/-! ### data as the library shows it -/
mutual
def toPy : D → PyData
  | .bl b => .bool b
  | .int i => .int i
  | .str x => .str x
  | .lst ds => .list (toPyL ds)
  | .tup ds => .tuple (toPyL ds)
  | .dic es => .dict (toPyK es)
  | _ => .none
def toPyL : List D → List PyData
  | [] => []
  | d :: ds => toPy d :: toPyL ds
def toPyK : List (Key × D) → List (PyData × PyData)
  | [] => []
  | (k, d) :: es => (kPy k, toPy d) :: toPyK es
end
mutual
/-- no dicts, no objects -/
def plain : D → Bool
  | .non => true
  | .bl _ => true
  | .int _ => true
  | .str _ => true
  | .lst ds => plainL ds
  | .tup ds => plainL ds
  | _ => false
def plainL : List D → Bool
  | [] => true
  | d :: ds => plain d && plainL ds
end
section
variable {K : PySem.W.Frag} {F H : Hp}
mutual
theorem den_dp (s : Same F H) : ∀ (d : D) {v : V}, Den K F v d → plain d = true → Dp K H v (toPy d)
  | .non, _, h, _ => by cases h; unfold toPy; exact .non
  | .bl _, _, h, _ => by cases h; unfold toPy; exact .bl _
  | .int _, _, h, _ => by cases h; unfold toPy; exact .int _
  | .str _, _, h, _ => by cases h; unfold toPy; exact .str _
  | .lst ds, _, h, p => by
    cases h with
    | lst a l => unfold toPy; unfold plain at p; exact .lst (SqL.of (s _ _ a)) (den_dpL s ds l p)
  | .tup ds, _, h, p => by
    cases h with
    | tup a l => unfold toPy; unfold plain at p; exact .tup (same_t s a) (den_dpL s ds l p)
  | .dic _, _, _, p => by unfold plain at p; cases p
  | .obj _ _, _, _, p => by unfold plain at p; cases p
  | .ty _, _, _, p => by unfold plain at p; cases p
  | .cls _, _, _, p => by unfold plain at p; cases p
theorem den_dpL (s : Same F H) : ∀ (ds : List D) {vs : List V}, DenL K F vs ds → plainL ds = true → DpAll K H vs (toPyL ds)
  | [], _, h, _ => by cases h; unfold toPyL; exact .nil
  | d :: ds, _, h, p => by
    cases h with
    | cons a l =>
      unfold plainL at p
      rw [Bool.and_eq_true] at p
      unfold toPyL
      exact .cons (den_dp s d a p.1) (den_dpL s ds l p.2)
end
/-- what repr gives -/
def shownD (d : D) : Str := (toPy d).shown
def flatD : D → Bool
  | .non => true
  | .bl _ => true
  | .int _ => true
  | .str _ => true
  | _ => false
/-- data that repr is asked of -/
def okR (d : D) : Bool := (plain d || (match d with | .dic es => es.all fun e => flatD e.2 | _ => false)) && (toPy d).showable && decide ((toPy d).depth ≤ 40) && decide ((shownD d).length ≤ 16777216)
theorem kvPy_den : ∀ {kvs : List (Key × V)} {es : List (Key × D)}, DenK K F kvs es → (es.all fun e => flatD e.2) = true → kvPy kvs = toPyK es ∧ (kvs.all fun p => flatV p.2) = true
  | _, _, .nil, _ => ⟨rfl, rfl⟩
  | _, (k, d) :: es, .cons h t, f => by
    rw [List.all_cons, Bool.and_eq_true] at f
    obtain ⟨h1, h2⟩ := kvPy_den t f.2
    rw [List.all_cons, h2]
    unfold kvPy at h1 ⊢
    unfold toPyK
    rw [List.map_cons, h1]
    cases h with
    | non => exact ⟨by unfold toPy; rfl, rfl⟩
    | bl b => exact ⟨by unfold toPy; rfl, rfl⟩
    | int b => exact ⟨by unfold toPy; rfl, rfl⟩
    | str b => exact ⟨by unfold toPy; rfl, rfl⟩
    | _ => exact Bool.noConfusion f.1
theorem rc_repr {d : D} (ok : okR d = true) : RcD K (rReprA K) [d] (.str (shownD d)) := fun F H xs s hx Q q => by
  unfold okR at ok
  simp only [Bool.and_eq_true, decide_eq_true_eq] at ok
  obtain ⟨⟨⟨h1, h2⟩, h3⟩, h4⟩ := ok
  cases hx with
  | cons h t =>
    cases t
    by_cases p : plain d = true
    · exact .inl ⟨_, toPy d, rfl, den_dp s d h p, h2, h3, by rw [sizeLine_eq]; exact h4, q _ F H (Ext.refl s) (.str _)⟩
    · rw [show plain d = false by simpa using p, Bool.false_or] at h1
      cases h with
      | dic a l =>
        rename_i ad kvs es
        obtain ⟨e1, e2⟩ := kvPy_den l h1
        have e : PyData.dict (kvPy kvs) = toPy (.dic es) := by rw [e1]; unfold toPy; rfl
        refine .inr ⟨_, kvs, rfl, same_rd s a, e2, by rw [e]; exact h2, by rw [e, sizeLine_eq]; exact h4, by rw [e]; exact h3, ?_⟩
        rw [e]
        exact q _ F H (Ext.refl s) (.str _)
      | _ => cases h1
/-- small texts can be shown -/
theorem okR_str {z : Str} (h : z.length ≤ 100000) (hc : ∀ c ∈ z.cps.toList, c < 1114112) : okR (.str z) = true := by
  have := PySem.StrLaws.reprText_len z (fun c m => Nat.lt_trans (hc c m) (by decide))
  unfold okR shownD plain toPy
  simp only [PyData.showable, PyData.depth, PyData.shown]
  have : (reprText z).length ≤ 16777216 := by omega
  simp [this]
theorem shown_list1 (p : PyData) : (PyData.list [p]).shown.length = p.shown.length + 2 := PyProof.Rows.shownLen_list1 p
theorem shown_tuple1 (p : PyData) : (PyData.tuple [p]).shown.length = p.shown.length + 3 := PyProof.Rows.shownLen_tuple1 p
theorem okR_one {z : Str} (h : z.length ≤ 100000) (hc : ∀ c ∈ z.cps.toList, c < 1114112) : okR (.lst [.str z]) = true ∧ okR (.tup [.str z]) = true := by
  have := PySem.StrLaws.reprText_len z (fun c m => Nat.lt_trans (hc c m) (by decide))
  have e1 : (PyData.list [.str z]).shown.length ≤ 16777216 := by rw [shown_list1]; simp only [PyData.shown]; omega
  have e2 : (PyData.tuple [.str z]).shown.length ≤ 16777216 := by rw [shown_tuple1]; simp only [PyData.shown]; omega
  constructor
  · unfold okR shownD
    simp only [plain, plainL, toPy, toPyL, PyData.showable, PyData.showableAll, PyData.depth, PyData.depthAll]
    simp [e1]
  · unfold okR shownD
    simp only [plain, plainL, toPy, toPyL, PyData.showable, PyData.showableAll, PyData.depth, PyData.depthAll]
    simp [e2]

/-! ### dicts that are written -/
variable {σ : L2.St} {te tk tv : TE}
theorem ev_dnew : EvD K tDNewK σ F (.dic []) := fun H s Q q p hp => q _ _ _ (Ext.new s hp) (.dic (.inl upd_same) .nil)
theorem ev_disp1 {x : Str} {d : D} {v : V} (hd : ∀ F, Den K F v d) : EvD K (tDisp [(tC (.str x), tC v)]) σ F (.dic [(.inr x, d)]) := fun H s Q q p hp => by
  refine ⟨upd_same, [(.inr x, v)], rfl, by simp, ?_⟩
  rw [upd_upd]
  exact q _ _ _ (Ext.new s hp) (.dic (.inl upd_same) (.cons (hd _) .nil))

/-! ### drawing -/
def preTake : List D → Prop
  | [.int m] => 0 < m ∧ m < 1073741824
  | _ => False
def postTake : List D → D → Prop
  | [.int m], .int r => 0 ≤ r ∧ r < m
  | _, _ => False
abbrev spTake (K : PySem.W.Frag) : Sp := spB K 1 1 preTake postTake
theorem spB_len {m c : Nat} {pre : List D → Prop} {post : List D → D → Prop} {vs : List V} {H : Hp} {Q : VK} {E : XK} (h : spB K m c pre post vs H Q E) : vs.length = m + 1 := by
  obtain ⟨F, b, n, ws, ds, rfl, _, _, l, e, _⟩ := h
  rw [List.length_cons, l.length, e]
def spBag (K : PySem.W.Frag) : Sp := fun vs H Q _ => ∃ (F : Hp) (a : Addr) (ns : List Int) (i : Int), vs = [.ref a, .int i] ∧ Same F H ∧ SqL K F a (ns.map V.int) ∧ 0 ≤ i ∧ i ≤ 1000 ∧ ∀ b H', H b = none → Ext [] F H F H' → BagAt F H' b 1000000000 → Q (.ref b) H'
theorem spBag_len {vs : List V} {H : Hp} {Q : VK} {E : XK} (h : spBag K vs H Q E) : vs.length = 2 := by
  obtain ⟨F, a, ns, i, rfl, _⟩ := h
  rfl
variable {r : List Sl} {i : Nat} {b : Addr} {E : XK} {tm ta : TE}
theorem eb_take {m : Nat} (EV : EnvD K F r σ) (hi : r[i]? = some (.v (.ref b))) (hm : EvD K tm σ F (.int (m : Nat))) (h0 : 0 < m) (h1 : m < 1073741824) :
    EvB K b 1 (tCall (spTake K) [] E (tCons (tVar i) (tCons tm tNil))) σ F (fun d => ∃ k : Nat, d = .int (k : Nat) ∧ k < m) := by
  have := eb_call (c1 := 0) (c2 := 1) (m := 1) (pre := preTake) (post := postTake) (E := E) (R := fun d => ∃ k : Nat, d = .int (k : Nat) ∧ k < m) EV hi (ea_ofB (ea_cons hm ea_nil)) (fun ds e => ?_) (fun ds d e p => ?_)
  · exact this
  · subst e; exact ⟨rfl, by omega, by omega⟩
  · subst e
    cases d with
    | int k =>
      obtain ⟨p1, p2⟩ := p
      exact ⟨k.toNat, by rw [Int.toNat_of_nonneg p1], by omega⟩
    | _ => exact p.elim
/-- a sign of a text, drawn -/
theorem eb_pick_str {z : Str} {m : Nat} (EV : EnvD K F r σ) (hi : r[i]? = some (.v (.ref b))) (ha : EvD K ta σ F (.str z)) (hm : EvD K tm σ F (.int (m : Nat))) (h0 : 0 < m) (hz : m = z.length) (hz2 : z.length ≤ 100000) :
    EvB K b 1 (tOp (rIxA K) ta (tCall (spTake K) [] E (tCons (tVar i) (tCons tm tNil)))) σ F (fun d => ∃ c, d = .str ⟨#[c]⟩ ∧ c ∈ z.cps.toList) := by
  refine eb_weak (eb_op (R := fun d => ∃ c, d = .str ⟨#[c]⟩ ∧ c ∈ z.cps.toList) (eb_of ha) (eb_take EV hi hm h0 (by omega)) ?_) (by decide) (fun _ h => h)
  rintro x y rfl ⟨k, rfl, hk⟩
  have hk' : k < z.cps.toList.length := by
    have : z.length = z.cps.toList.length := by simp [Str.length]
    omega
  exact ⟨_, rv_ix_str (by rw [sizeLine_eq]; omega) (atI_nat (List.getElem?_eq_getElem hk')), _, rfl, List.getElem_mem hk'⟩
theorem eb_pick_lst {ds : List D} {m : Nat} (EV : EnvD K F r σ) (hi : r[i]? = some (.v (.ref b))) (ha : EvD K ta σ F (.lst ds)) (hm : EvD K tm σ F (.int (m : Nat))) (h0 : 0 < m) (hz : m = ds.length) (hz2 : m ≤ 100000) :
    EvB K b 1 (tOp (rIxA K) ta (tCall (spTake K) [] E (tCons (tVar i) (tCons tm tNil)))) σ F (fun d => d ∈ ds) := by
  refine eb_weak (eb_op (R := fun d => d ∈ ds) (eb_of ha) (eb_take EV hi hm h0 (by omega)) ?_) (by decide) (fun _ h => h)
  rintro x y rfl ⟨k, rfl, hk⟩
  exact ⟨_, rv_ix_lst (atI_nat (List.getElem?_eq_getElem (by omega))), List.getElem_mem _⟩
/-! ### more -/
theorem ru_neg {i : Int} : RuD K (rU fun i => .int (-i)) (.int i) (.int (-i)) := fun F H x s hx Q q => by
  cases hx
  exact ⟨i, rfl, q _ F H (Ext.refl s) (.int _)⟩
theorem ev_chainU {ra rb : L2.R2} {tb tc : TE} {x y z : D} {p q : Bool} (ha : EvD K ta σ F x) (hb : EvD K tb σ F y) (hr : RvD K ra x y (.bl p)) (hc : EvD K tc σ F z) (hr' : RvD K rb y z (.bl q)) : EvD K (tChain ra rb ta tb tc) σ F (.bl (p && q)) :=
  ev_chain ha hb hr (fun _ => hc) fun _ => hr'
theorem Ext.forget {F1 H1 F2 H2 : Hp} (x : Ext [] F H F1 H1) (y : Ext [b] F1 H1 F2 H2) (hb : H b = none) : Ext [] F H F2 H2 :=
  Ext.of (x.f.trans y.f) (fun a o h => y.h a o (by
    intro z
    have : a = b := by simpa using z
    rw [this, hb] at h; cases h) (x.same a o h)) y.s (fun a h k => y.n a (x.n a h k) (x.k a k))
theorem joinL_nil : ∀ ps : List (List Nat), TL.joinL [] ps = ps.flatten
  | [] => rfl
  | [p] => by simp [TL.joinL]
  | p :: q :: r => by
    have := joinL_nil (q :: r)
    simp [TL.joinL, this]
theorem join_toList (ys : List Str) : (Txt.join Str.empty ys).cps.toList = (ys.map fun y => y.cps.toList).flatten := by
  have h := TL.tl_join Str.empty ys
  rw [← TL.join_eq] at h
  have e : TL.tl Str.empty = [] := rfl
  rw [e, joinL_nil] at h
  exact h
/-- a for whose body draws; what is walked may be drawn too -/
theorem s_forB {DE : Ends} {tb : TS} {I : List D → Prop} {wi : TI} {j n ci : Nat} (Pv : List D → Nat → Hp → Hp → List Sl → Prop) (S : Same F H) (EV : EnvD K F r σ) (w : BagAt F H b (n + ci)) (hi : EvBI K b ci wi σ F I)
    (h0 : ∀ items F' H', I items → Ext [b] F H F' H' → BagAt F' H' b n → Pv items 0 F' H' r)
    (hs : ∀ items i d F1 H1 F2 H2 r' σ' (N : L2.St → Hp → Prop), I items → items[i]? = some d → Ext [b] F H F1 H1 → Pv items i F1 H1 r' → Ext [] F1 H1 F2 H2 → EnvD K F2 (r'.set j (.d d)) σ' →
      (∀ F3 H3 r3 σ3, Ext [b] F2 H2 F3 H3 → EnvD K F3 r3 σ3 → Pv items (i + 1) F3 H3 r3 → N σ3 H3) → tb { DE with nx := N, ct := N, bk := DE.nx } σ' H2)
    (hd : ∀ items F' H' r' σ', I items → Ext [b] F H F' H' → EnvD K F' r' σ' → Pv items items.length F' H' r' → DE.nx σ' H') : tFor wi (gName j) tb DE σ H :=
  hi H n S w _ fun J items F1 H1 x1 w1 i1 W1 => by
    obtain ⟨G, Y, wk, hg, hy⟩ := W1
    refine ⟨fun i m σ3 H3 => m = items.length - i ∧ i ≤ items.length ∧ ∃ F3 r3, Ext [b] F H F3 H3 ∧ Same F1 F3 ∧ EnvD K F3 r3 σ3 ∧ Pv items i F3 H3 r3, ⟨items.length, by simp, Nat.zero_le _, F1, r, x1, Same.refl _, EV.up x1.f, h0 items F1 H1 i1 x1 w1⟩, ?_⟩
    rintro i m σ3 H3 ⟨rfl, hle, F3, r3, x, e, E3, p⟩
    have hG := hg H3 (e.trans x.s)
    by_cases hlt : i < items.length
    · refine .inr ⟨wk.goes i H3 hlt hG, fun σ' H' => ∃ F4 r4, Ext [b] F H F4 H' ∧ Same F1 F4 ∧ EnvD K F4 r4 σ' ∧ Pv items (i + 1) F4 H' r4, fun σ' H' q => ⟨items.length - (i + 1), by omega, rfl, hlt, q⟩, fun v H4 y => ?_⟩
      obtain ⟨d, F2, h1, h2, h3⟩ := hy i H3 v H4 hlt (e.trans x.s) (wk.yields i H3 v H4 hlt hG y)
      have x2 := Ext.uni e x.s h2
      have h3' : Den K (uni F3 F2) v d := h3.up (uni_r (x.s.trans h2.same) h2.s)
      exact hs items i d F3 H3 _ H4 r3 _ _ i1 h1 x p x2 (EnvD.set j (E3.up x2.f) ⟨v, rfl, h3'⟩) fun F5 H5 r5 σ5 x5 E5 p5 => ⟨F5, r5, (x.tl x2).trans x5, (e.trans x2.f).trans x5.f, E5, p5⟩
    · have ei : i = items.length := by omega
      subst ei
      exact .inl ⟨wk.stops H3 hG, hd items F3 H3 r3 σ3 i1 x E3 p⟩
/-- bag = _law_bag(script, at) -/
theorem q_bag {DE : Ends} {tz : TS} {a : Addr} {ns : List Int} {i0 j0 t m : Nat} (S : Same F H) (EV : EnvD K F r σ) (hi : r[i0]? = some (.v (.ref a))) (hj : r[j0]? = some (.d (.int (m : Nat)))) (hm : m ≤ 1000) (sq : SqL K F a (ns.map V.int))
    (k : ∀ b H' σ', H b = none → Ext [] F H F H' → BagAt F H' b 1000000000 → EnvD K F (r.set t (.v (.ref b))) σ' → tz DE σ' H') : tSeq (tAsg (tCall (spBag K) [] E (tCons (tVar i0) (tCons (tVar j0) tNil))) (gName t)) tz DE σ H := by
  obtain ⟨o, g1, g2⟩ := EV.get hi
  have g2 : o = some (.ref a) := g2
  subst g2
  obtain ⟨o, g3, v, g4, g5⟩ := EV.get hj
  subst g4
  cases g5
  exact ⟨.ref a, g1, .int (m : Nat), g3, F, a, ns, m, rfl, S, sq, by omega, by omega, fun b H' hb x w => k b H' _ hb x w (EnvD.set t EV rfl)⟩
end
end Nm

set_option Elab.async false
set_option linter.all false
set_option maxRecDepth 100000
set_option maxHeartbeats 4000000
namespace Nm
open PySem PySem.Spec L2 PyProof.Rows
def top (i : Nat) : Stmt := PySem.Challenge.pw_namesone_k01_signs_words_names.main.body.getD i (.Pass ⟨0, 0, 0, 0⟩)
abbrev s_is_sign : Stmt := top 6
abbrev N_is_sign : List Str := ["thing"]
abbrev P_is_sign : List Str := ["thing"]
theorem sc_is_sign : FnScope N_is_sign P_is_sign (defScope s_is_sign) := ⟨rfl, rfl, rfl, by decide +kernel, rfl, by decide +kernel, by decide +kernel⟩
abbrev s_has_signs : Stmt := top 7
abbrev N_has_signs : List Str := ["thing", "most", "sign"]
abbrev P_has_signs : List Str := ["thing", "most"]
theorem sc_has_signs : FnScope N_has_signs P_has_signs (defScope s_has_signs) := ⟨rfl, rfl, rfl, by decide +kernel, rfl, by decide +kernel, by decide +kernel⟩
abbrev s_is_word : Stmt := top 8
abbrev N_is_word : List Str := ["thing"]
abbrev P_is_word : List Str := ["thing"]
theorem sc_is_word : FnScope N_is_word P_is_word (defScope s_is_word) := ⟨rfl, rfl, rfl, by decide +kernel, rfl, by decide +kernel, by decide +kernel⟩
abbrev s_is_name : Stmt := top 9
abbrev N_is_name : List Str := ["thing"]
abbrev P_is_name : List Str := ["thing"]
theorem sc_is_name : FnScope N_is_name P_is_name (defScope s_is_name) := ⟨rfl, rfl, rfl, by decide +kernel, rfl, by decide +kernel, by decide +kernel⟩
abbrev s_law_bag : Stmt := top 11
abbrev N_law_bag : List Str := ["_law_script", "_law_at", "_law_cell", "_law_digits"]
abbrev P_law_bag : List Str := ["_law_script", "_law_at"]
theorem sc_law_bag : FnScope N_law_bag P_law_bag (defScope s_law_bag) := ⟨rfl, rfl, rfl, by decide +kernel, rfl, by decide +kernel, by decide +kernel⟩
abbrev s_law_take : Stmt := top 12
abbrev N_law_take : List Str := ["_law_bag_here", "_law_many", "_law_mixed", "_law_digit"]
abbrev P_law_take : List Str := ["_law_bag_here", "_law_many"]
theorem sc_law_take : FnScope N_law_take P_law_take (defScope s_law_take) := ⟨rfl, rfl, rfl, by decide +kernel, rfl, by decide +kernel, by decide +kernel⟩
abbrev s_law_any : Stmt := top 13
abbrev N_law_any : List Str := ["_law_bag_here", "_law_some"]
abbrev P_law_any : List Str := ["_law_bag_here"]
theorem sc_law_any : FnScope N_law_any P_law_any (defScope s_law_any) := ⟨rfl, rfl, rfl, by decide +kernel, rfl, by decide +kernel, by decide +kernel⟩
abbrev s_law_right : Stmt := top 14
abbrev N_law_right : List Str := ["_law_thing", "_law_known", "_law_many", "_law_due", "_law_one"]
abbrev P_law_right : List Str := ["_law_thing", "_law_known"]
theorem sc_law_right : FnScope N_law_right P_law_right (defScope s_law_right) := ⟨rfl, rfl, rfl, by decide +kernel, rfl, by decide +kernel, by decide +kernel⟩
abbrev s_law : Stmt := top 15
abbrev N_law : List Str := ["_law_script", "_law_known", "_law_others", "_law_at", "_law_bag_here", "_law_many", "_law_word", "_law_spot", "_law_bent", "_law_thing", "_law_text", "_law_sign", "_law_k"]
abbrev P_law : List Str := ["_law_script"]
theorem sc_law : FnScope N_law P_law (defScope s_law) := ⟨rfl, rfl, rfl, by decide +kernel, rfl, by decide +kernel, by decide +kernel⟩
/-- what the top has left -/
structure Txt (K : PySem.W.Frag) (mg : Str → Option Value) where
  a_is_sign : Addr
  fd_is_sign : FuncData
  g_is_sign : mg "is_sign" = some (.ref a_is_sign)
  k_is_sign : PySem.W.keepIn K (.ref a_is_sign) = true
  F_is_sign : Fun K "is_sign" "is_sign" s_is_sign a_is_sign fd_is_sign
  b_is_sign : Binds K fd_is_sign P_is_sign []
  a_has_signs : Addr
  fd_has_signs : FuncData
  g_has_signs : mg "has_signs" = some (.ref a_has_signs)
  k_has_signs : PySem.W.keepIn K (.ref a_has_signs) = true
  F_has_signs : Fun K "has_signs" "has_signs" s_has_signs a_has_signs fd_has_signs
  b_has_signs : Binds K fd_has_signs P_has_signs []
  a_is_word : Addr
  fd_is_word : FuncData
  g_is_word : mg "is_word" = some (.ref a_is_word)
  k_is_word : PySem.W.keepIn K (.ref a_is_word) = true
  F_is_word : Fun K "is_word" "is_word" s_is_word a_is_word fd_is_word
  b_is_word : Binds K fd_is_word P_is_word []
  a_is_name : Addr
  fd_is_name : FuncData
  g_is_name : mg "is_name" = some (.ref a_is_name)
  k_is_name : PySem.W.keepIn K (.ref a_is_name) = true
  F_is_name : Fun K "is_name" "is_name" s_is_name a_is_name fd_is_name
  b_is_name : Binds K fd_is_name P_is_name []
  a_law_bag : Addr
  fd_law_bag : FuncData
  g_law_bag : mg "_law_bag" = some (.ref a_law_bag)
  k_law_bag : PySem.W.keepIn K (.ref a_law_bag) = true
  F_law_bag : Fun K "_law_bag" "_law_bag" s_law_bag a_law_bag fd_law_bag
  b_law_bag : Binds K fd_law_bag P_law_bag []
  a_law_take : Addr
  fd_law_take : FuncData
  g_law_take : mg "_law_take" = some (.ref a_law_take)
  k_law_take : PySem.W.keepIn K (.ref a_law_take) = true
  F_law_take : Fun K "_law_take" "_law_take" s_law_take a_law_take fd_law_take
  b_law_take : Binds K fd_law_take P_law_take []
  a_law_any : Addr
  fd_law_any : FuncData
  g_law_any : mg "_law_any" = some (.ref a_law_any)
  k_law_any : PySem.W.keepIn K (.ref a_law_any) = true
  F_law_any : Fun K "_law_any" "_law_any" s_law_any a_law_any fd_law_any
  b_law_any : Binds K fd_law_any P_law_any []
  a_law_right : Addr
  fd_law_right : FuncData
  g_law_right : mg "_law_right" = some (.ref a_law_right)
  k_law_right : PySem.W.keepIn K (.ref a_law_right) = true
  F_law_right : Fun K "_law_right" "_law_right" s_law_right a_law_right fd_law_right
  b_law_right : Binds K fd_law_right P_law_right []
  a_law : Addr
  fd_law : FuncData
  g_law : mg "law" = some (.ref a_law)
  k_law : PySem.W.keepIn K (.ref a_law) = true
  F_law : Fun K "law" "law" s_law a_law fd_law
  b_law : Binds K fd_law P_law []
  u_LETTERS : Value
  g_LETTERS : mg "LETTERS" = some u_LETTERS
  r_LETTERS : RelV (.str "abcdefghijklmnopqrstuvwxyz") u_LETTERS
  u_CAPITALS : Value
  g_CAPITALS : mg "CAPITALS" = some u_CAPITALS
  r_CAPITALS : RelV (.str "ABCDEFGHIJKLMNOPQRSTUVWXYZ") u_CAPITALS
  u_OTHERS : Value
  g_OTHERS : mg "OTHERS" = some u_OTHERS
  r_OTHERS : RelV (.str "0123456789'-.:^_~") u_OTHERS
  u_MOST_NAME : Value
  g_MOST_NAME : mg "MOST_NAME" = some u_MOST_NAME
  r_MOST_NAME : RelV (.int 12) u_MOST_NAME
  u_MOST_WORD : Value
  g_MOST_WORD : mg "MOST_WORD" = some u_MOST_WORD
  r_MOST_WORD : RelV (.int 40) u_MOST_WORD
  n_abs : mg "abs" = none
  n_all : mg "all" = none
  n_isinstance : mg "isinstance" = none
  n_len : mg "len" = none
  n_max : mg "max" = none
  n_min : mg "min" = none
  n_range : mg "range" = none
  n_repr : mg "repr" = none
  n_str : mg "str" = none
section
variable {P : Program} {w : World} {K : PySem.W.Frag} {mg : Str → Option Value} {base : Heap}
def t_is_sign (K : PySem.W.Frag)  : TS :=
    (tRet (tAndV (tCB (rIsiA K) (tCons (tVar 0) (tCons (tC (.ty "str")) tNil))) (tAndV (tOp (rEqA K) (tCB (rLenA K) (tCons (tVar 0) tNil)) (tC (.int 1))) (tOp (rInA K) (tVar 0) (tOp (rAddA K) (tOp (rAddA K) (tC (.str "abcdefghijklmnopqrstuvwxyz")) (tC (.str "ABCDEFGHIJKLMNOPQRSTUVWXYZ"))) (tC (.str "0123456789'-.:^_~")))))))
theorem d_is_sign (T : Txt K mg) {cdv : Value} {A : Around} {outer : List Env} {s : Shared} {H : Hp} {E : XK} (hr : Room 0 (A.deeper (envOfC "is_sign" (defScope s_is_sign) s.heap.objs.size T.a_is_sign cdv)))  :
    PSs (cxOf CX0 P w K mg base N_is_sign "is_sign" (defScope s_is_sign) T.a_is_sign cdv A outer s H E).nox (defBody s_is_sign) (t_is_sign K ) :=
    (pss_one (ps_ret (pe_and (pe_callB c_isi (by rfl) T.n_isinstance (by decide +kernel) (pa_cons (pv 0) (pa_cons (pe_bltn (by rfl) T.n_str (by decide +kernel) rfl) pa_nil))) (pe_and (pe_cmpR (o_eq (hu4 hr)) (pe_callB c_len (by rfl) T.n_len (by decide +kernel) (pa_cons (pv 0) pa_nil)) pe_int (nomark _)) (pe_one (pe_cmpR (o_in (hu_of hr)) (pv 0) (pe_op o_add (pe_op o_add (pe_glob rfl T.g_LETTERS T.r_LETTERS) (pe_glob rfl T.g_CAPITALS T.r_CAPITALS)) (pe_glob rfl T.g_OTHERS T.r_OTHERS)) (by rfl)))))))
def t_has_signs (K : PySem.W.Frag) (sp_is_sign : Sp) : TS :=
    (tRet (tAndV (tCB (rIsiA K) (tCons (tVar 0) (tCons (tC (.ty "str")) tNil))) (tAndV (tChain (rLeA K) (rLeA K) (tC (.int 1)) (tCB (rLenA K) (tCons (tVar 0) tNil)) (tVar 1)) (tCB (rAll K) (tCons (tLc (iSeq K (tVar 0)) (gName 2) tYes (tCall sp_is_sign [] E0 (tCons (tVar 2) tNil)) [2]) tNil)))))
theorem d_has_signs (T : Txt K mg) {cdv : Value} {A : Around} {outer : List Env} {s : Shared} {H : Hp} {E : XK} (hr : Room 1 (A.deeper (envOfC "has_signs" (defScope s_has_signs) s.heap.objs.size T.a_has_signs cdv))) {sp_is_sign : Sp} (G_is_sign : FnOk P w K mg base CX0 1 T.a_is_sign T.fd_is_sign P_is_sign sp_is_sign) :
    PSs (cxOf CX0 P w K mg base N_has_signs "has_signs" (defScope s_has_signs) T.a_has_signs cdv A outer s H E).nox (defBody s_has_signs) (t_has_signs K sp_is_sign) :=
    (pss_one (ps_ret (pe_and (pe_callB c_isi (by rfl) T.n_isinstance (by decide +kernel) (pa_cons (pv 0) (pa_cons (pe_bltn (by rfl) T.n_str (by decide +kernel) rfl) pa_nil))) (pe_and (pe_chain (x_le hr.units0) (x_le hr.units0) pe_int (pe_callB c_len (by rfl) T.n_len (by decide +kernel) (pa_cons (pv 0) pa_nil)) (pv 1)) (pe_one (pe_callB (cr_all rfl) (by rfl) T.n_all (by decide +kernel) (pa_cons (pe_lc (own := [("sign", 2)]) rfl sc_has_signs.nd (pi_seq (pv 0)) (blkOk_by (own := [("sign", 2)]) (N := N_has_signs) (sc := defScope s_has_signs) (by decide +kernel)) (fun _ _ _ _ _ => (pg_name (i := 2) sc_has_signs.nd rfl (Or.inl rfl))) (fun _ _ _ _ _ => pts_nil) (fun _ _ _ _ _ => (pe_call G_is_sign (hr.mono (by decide)) rfl T.g_is_sign T.k_is_sign T.b_is_sign .nil pass0 (pa_cons (pv 2) pa_nil)))) pa_nil)))))))
def t_is_word (K : PySem.W.Frag) (sp_has_signs : Sp) : TS :=
    (tRet (tCall sp_has_signs [] E0 (tCons (tVar 0) (tCons (tC (.int 40)) tNil))))
theorem d_is_word (T : Txt K mg) {cdv : Value} {A : Around} {outer : List Env} {s : Shared} {H : Hp} {E : XK} (hr : Room 2 (A.deeper (envOfC "is_word" (defScope s_is_word) s.heap.objs.size T.a_is_word cdv))) {sp_has_signs : Sp} (G_has_signs : FnOk P w K mg base CX0 2 T.a_has_signs T.fd_has_signs P_has_signs sp_has_signs) :
    PSs (cxOf CX0 P w K mg base N_is_word "is_word" (defScope s_is_word) T.a_is_word cdv A outer s H E).nox (defBody s_is_word) (t_is_word K sp_has_signs) :=
    (pss_one (ps_ret (pe_call G_has_signs (hr.mono (by decide)) rfl T.g_has_signs T.k_has_signs T.b_has_signs .nil pass0 (pa_cons (pv 0) (pa_cons (pe_glob rfl T.g_MOST_WORD T.r_MOST_WORD) pa_nil)))))
def t_is_name (K : PySem.W.Frag) (sp_has_signs : Sp) : TS :=
    (tRet (tCall sp_has_signs [] E0 (tCons (tVar 0) (tCons (tC (.int 12)) tNil))))
theorem d_is_name (T : Txt K mg) {cdv : Value} {A : Around} {outer : List Env} {s : Shared} {H : Hp} {E : XK} (hr : Room 2 (A.deeper (envOfC "is_name" (defScope s_is_name) s.heap.objs.size T.a_is_name cdv))) {sp_has_signs : Sp} (G_has_signs : FnOk P w K mg base CX0 2 T.a_has_signs T.fd_has_signs P_has_signs sp_has_signs) :
    PSs (cxOf CX0 P w K mg base N_is_name "is_name" (defScope s_is_name) T.a_is_name cdv A outer s H E).nox (defBody s_is_name) (t_is_name K sp_has_signs) :=
    (pss_one (ps_ret (pe_call G_has_signs (hr.mono (by decide)) rfl T.g_has_signs T.k_has_signs T.b_has_signs .nil pass0 (pa_cons (pv 0) (pa_cons (pe_glob rfl T.g_MOST_NAME T.r_MOST_NAME) pa_nil)))))
def t_law_bag (K : PySem.W.Frag)  : TS :=
    (tSeq (tAsg (tIf (tTest (tOp (rLtA K) (tVar 1) (tCB (rLenA K) (tCons (tVar 0) tNil)))) (tOp (rIxA K) (tVar 0) (tVar 1)) (tC (.int 0))) (gName 2))
    (tSeq (tAsg (tIf (tTest (tOp (rGeA K) (tCB rAbs (tCons (tVar 2) tNil)) (tOp (rI CPow fun i j => V.int (i ^ j.toNat)) (tC (.int 10)) (tC (.int 18))))) (tCB rAbs (tCons (tVar 2) tNil)) (tC (.int 0))) (gName 3))
    (tRet (tLst (tCons (tVar 3) (tCons (tOp (rI (fun _ j => 0 < j) fun i j => V.int (i % j)) (tOp (rMulA K) (tOp (rAddA K) (tOp (rAddA K) (tOp (rI (fun _ j => 0 < j) fun i j => V.int (i % j)) (tVar 2) (tC (.int 2305843009213693951))) (tOp (rMulA K) (tC (.int 6211)) (tVar 1))) (tC (.int 17))) (tC (.int 92821993))) (tC (.int 2305843009213693951))) (tCons (tC (.int 0)) tNil)))))))
theorem d_law_bag (T : Txt K mg) {cdv : Value} {A : Around} {outer : List Env} {s : Shared} {H : Hp} {E : XK} (hr : Room 0 (A.deeper (envOfC "_law_bag" (defScope s_law_bag) s.heap.objs.size T.a_law_bag cdv)))  :
    PSs (cxOf CX0 P w K mg base N_law_bag "_law_bag" (defScope s_law_bag) T.a_law_bag cdv A outer s H E).nox (defBody s_law_bag) (t_law_bag K ) :=
    (pss_cons (ps_set (i := 2) sc_law_bag.nd rfl (Or.inl rfl) (pe_ifExp (pt_cmpR (x_lt hr.units0) (pv 1) (pe_callB c_len (by rfl) T.n_len (by decide +kernel) (pa_cons (pv 0) pa_nil)) (nomark _)) (pe_ix (ix_any (hu_of hr)) (pv 0) (pv 1) (fun _ _ => rfl)) pe_int))
    (pss_cons (ps_set (i := 3) sc_law_bag.nd rfl (Or.inl rfl) (pe_ifExp (pt_cmpR (x_ge hr.units0) (pe_callB call_abs (by rfl) T.n_abs (by decide +kernel) (pa_cons (pv 2) pa_nil)) (pe_op op_pow pe_int pe_int) (nomark _)) (pe_callB call_abs (by rfl) T.n_abs (by decide +kernel) (pa_cons (pv 2) pa_nil)) pe_int))
    (pss_one (ps_ret (pe_lst (pa_cons (pv 3) (pa_cons (pe_op op_mod (pe_op o_mul (pe_op o_add (pe_op o_add (pe_op op_mod (pv 2) pe_int) (pe_op o_mul pe_int (pv 1))) pe_int) pe_int) pe_int) (pa_cons pe_int pa_nil))))))))
def t_law_take (K : PySem.W.Frag)  : TS :=
    (tSeq (tIfS (tTest (tOp (rGtA K) (tOp (rIxA K) (tVar 0) (tC (.int 0))) (tC (.int 0)))) (tSeq (tAsg (tOp (rI (fun _ j => 0 < j) fun i j => V.int (i % j)) (tOp (rIxA K) (tVar 0) (tC (.int 0))) (tVar 1)) (gName 3))
    (tSeq (tAsg (tOp (rI CDiv fun i j => V.int (i / j)) (tOp (rIxA K) (tVar 0) (tC (.int 0))) (tVar 1)) (gSub (tVar 0) (tC (.int 0)) rSetL))
    (tRet (tVar 3)))) tNext)
    (tSeq (tAsg (tOp (rAddA K) (tOp (rIxA K) (tVar 0) (tC (.int 2))) (tC (.int 1))) (gSub (tVar 0) (tC (.int 2)) rSetL))
    (tSeq (tAsg (tOp (rI (fun _ j => 0 < j) fun i j => V.int (i % j)) (tOp (rI CPow fun i j => V.int (i ^ j.toNat)) (tOp (rAddA K) (tOp (rIxA K) (tVar 0) (tC (.int 1))) (tOp (rMulA K) (tC (.int 5000011)) (tOp (rIxA K) (tVar 0) (tC (.int 2))))) (tC (.int 3))) (tC (.int 2305843009213693921))) (gName 2))
    (tSeq (tAsg (tOp (rI (fun _ j => 0 < j) fun i j => V.int (i % j)) (tOp (rI CPow fun i j => V.int (i ^ j.toNat)) (tOp (rAddA K) (tVar 2) (tOp (rMulA K) (tC (.int 71993051)) (tOp (rIxA K) (tVar 0) (tC (.int 2))))) (tC (.int 2))) (tC (.int 2305843009213693951))) (gName 2))
    (tRet (tOp (rI (fun _ j => 0 < j) fun i j => V.int (i % j)) (tOp (rI CDiv fun i j => V.int (i / j)) (tVar 2) (tC (.int 2048))) (tVar 1)))))))
theorem d_law_take (T : Txt K mg) {cdv : Value} {A : Around} {outer : List Env} {s : Shared} {H : Hp} {E : XK} (hr : Room 0 (A.deeper (envOfC "_law_take" (defScope s_law_take) s.heap.objs.size T.a_law_take cdv)))  :
    PSs (cxOf CX0 P w K mg base N_law_take "_law_take" (defScope s_law_take) T.a_law_take cdv A outer s H E).nox (defBody s_law_take) (t_law_take K ) :=
    (pss_cons (ps_if (pt_cmpR (x_gt hr.units0) (pe_ix (ix_any (hu_of hr)) (pv 0) pe_int (fun _ _ => rfl)) pe_int (nomark _)) (pss_cons (ps_set (i := 3) sc_law_take.nd rfl (Or.inl rfl) (pe_op op_mod (pe_ix (ix_any (hu_of hr)) (pv 0) pe_int (fun _ _ => rfl)) (pv 1)))
    (pss_cons (ps_asg (pe_op op_fdiv (pe_ix (ix_any (hu_of hr)) (pv 0) pe_int (fun _ _ => rfl)) (pv 1)) (pg_sub (pv 0) pe_int set_list))
    (pss_one (ps_ret (pv 3))))) pss_nil)
    (pss_cons (ps_asg (pe_op o_add (pe_ix (ix_any (hu_of hr)) (pv 0) pe_int (fun _ _ => rfl)) pe_int) (pg_sub (pv 0) pe_int set_list))
    (pss_cons (ps_set (i := 2) sc_law_take.nd rfl (Or.inl rfl) (pe_op op_mod (pe_op op_pow (pe_op o_add (pe_ix (ix_any (hu_of hr)) (pv 0) pe_int (fun _ _ => rfl)) (pe_op o_mul pe_int (pe_ix (ix_any (hu_of hr)) (pv 0) pe_int (fun _ _ => rfl)))) pe_int) pe_int))
    (pss_cons (ps_set (i := 2) sc_law_take.nd rfl (Or.inl rfl) (pe_op op_mod (pe_op op_pow (pe_op o_add (pv 2) (pe_op o_mul pe_int (pe_ix (ix_any (hu_of hr)) (pv 0) pe_int (fun _ _ => rfl)))) pe_int) pe_int))
    (pss_one (ps_ret (pe_op op_mod (pe_op op_fdiv (pv 2) pe_int) (pv 1))))))))
def t_law_any (K : PySem.W.Frag) (sp_law_take : Sp) : TS :=
    (tSeq (tAsg (tLst (tCons (tC .non) (tCons (tC (.bl true)) (tCons (tC (.int 0)) (tCons (tOp (rI CPow fun i j => V.int (i ^ j.toNat)) (tC (.int 10)) (tC (.int 30))) (tCons (tLst tNil) (tCons (tLst (tCons (tC (.str "a")) tNil)) (tCons (tTup (tCons (tC (.str "a")) tNil)) (tCons (tTup (tCons (tC (.str "a")) (tCons (tC (.str "b")) tNil))) (tCons tDNewK (tCons (tDisp (((tC (.str "a")), (tC (.str "b"))) :: [])) (tCons (tTup tNil) (tCons (tLst (tCons (tC .non) tNil)) (tCons (tUn (rU fun i => V.int (-i)) (tC (.int 1))) (tCons (tC (.int 1)) (tCons (tC (.bl false)) (tCons (tLst (tCons (tLst (tCons (tC (.str "a")) tNil)) tNil)) tNil))))))))))))))))) (gName 1))
    (tRet (tOp (rIxA K) (tVar 1) (tCall sp_law_take [] E0 (tCons (tVar 0) (tCons (tC (.int 16)) tNil))))))
theorem d_law_any (T : Txt K mg) {cdv : Value} {A : Around} {outer : List Env} {s : Shared} {H : Hp} {E : XK} (hr : Room 1 (A.deeper (envOfC "_law_any" (defScope s_law_any) s.heap.objs.size T.a_law_any cdv))) {sp_law_take : Sp} (G_law_take : FnOk P w K mg base CX0 1 T.a_law_take T.fd_law_take P_law_take sp_law_take) :
    PSs (cxOf CX0 P w K mg base N_law_any "_law_any" (defScope s_law_any) T.a_law_any cdv A outer s H E).nox (defBody s_law_any) (t_law_any K sp_law_take) :=
    (pss_cons (ps_set (i := 1) sc_law_any.nd rfl (Or.inl rfl) (pe_lst (pa_cons pe_non (pa_cons pe_bl (pa_cons pe_int (pa_cons (pe_op op_pow pe_int pe_int) (pa_cons (pe_lst pa_nil) (pa_cons (pe_lst (pa_cons pe_str pa_nil)) (pa_cons (pe_tup (pa_cons pe_str pa_nil)) (pa_cons (pe_tup (pa_cons pe_str (pa_cons pe_str pa_nil))) (pa_cons pe_dnewK (pa_cons (pe_disp (pps_cons pe_str pe_str pps_nil) (by rfl) (by rfl) (fun z => by cases z) (by decide)) (pa_cons (pe_tup pa_nil) (pa_cons (pe_lst (pa_cons pe_non pa_nil)) (pa_cons (pe_un un_neg pe_int) (pa_cons pe_int (pa_cons pe_bl (pa_cons (pe_lst (pa_cons (pe_lst (pa_cons pe_str pa_nil)) pa_nil)) pa_nil))))))))))))))))))
    (pss_one (ps_ret (pe_ix (ix_any (hu_of hr)) (pv 1) (pe_call G_law_take (hr.mono (by decide)) rfl T.g_law_take T.k_law_take T.b_law_take .nil pass0 (pa_cons (pv 0) (pa_cons pe_int pa_nil))) (fun _ _ => rfl)))))
def t_law_right (K : PySem.W.Frag) (sp_is_name : Sp) (sp_is_word : Sp) (sp_is_sign : Sp) : TS :=
    (tSeq (tAsg (tIf (tAnd (tB (tCB (rIsiA K) (tCons (tVar 0) (tCons (tC (.ty "str")) tNil)))) (tB (tCB (rAll K) (tCons (tLc (iSeq K (tVar 0)) (gName 4) tYes (tOp (rInA K) (tVar 4) (tVar 1)) [4]) tNil)))) (tCB (rLenA K) (tCons (tVar 0) tNil)) (tC (.int 0))) (gName 2))
    (tSeq (tAsg (tLst (tCons (tOp (rEqA K) (tVar 2) (tC (.int 1))) (tCons (tChain (rLeA K) (rLeA K) (tC (.int 1)) (tVar 2) (tC (.int 40))) (tCons (tChain (rLeA K) (rLeA K) (tC (.int 1)) (tVar 2) (tC (.int 12))) tNil)))) (gName 3))
    (tRet (tOp (rEqA K) (tCB (rReprA K) (tCons (tLst (tCons (tCall sp_is_sign [] E0 (tCons (tVar 0) tNil)) (tCons (tCall sp_is_word [] E0 (tCons (tVar 0) tNil)) (tCons (tCall sp_is_name [] E0 (tCons (tVar 0) tNil)) tNil)))) tNil)) (tCB (rReprA K) (tCons (tVar 3) tNil))))))
theorem d_law_right (T : Txt K mg) {cdv : Value} {A : Around} {outer : List Env} {s : Shared} {H : Hp} {E : XK} (hr : Room 3 (A.deeper (envOfC "_law_right" (defScope s_law_right) s.heap.objs.size T.a_law_right cdv))) (hg : A.guards = some []) {sp_is_name : Sp} (G_is_name : FnOk P w K mg base CX0 3 T.a_is_name T.fd_is_name P_is_name sp_is_name) {sp_is_word : Sp} (G_is_word : FnOk P w K mg base CX0 3 T.a_is_word T.fd_is_word P_is_word sp_is_word) {sp_is_sign : Sp} (G_is_sign : FnOk P w K mg base CX0 1 T.a_is_sign T.fd_is_sign P_is_sign sp_is_sign) :
    PSs (cxOf CX0 P w K mg base N_law_right "_law_right" (defScope s_law_right) T.a_law_right cdv A outer s H E).nox (defBody s_law_right) (t_law_right K sp_is_name sp_is_word sp_is_sign) :=
    (pss_cons (ps_set (i := 2) sc_law_right.nd rfl (Or.inl rfl) (pe_ifExp (PW.pt (pw_and (pt_val (pe_callB c_isi (by rfl) T.n_isinstance (by decide +kernel) (pa_cons (pv 0) (pa_cons (pe_bltn (by rfl) T.n_str (by decide +kernel) rfl) pa_nil)))) (pw_and1 (pt_val (pe_callB (cr_all rfl) (by rfl) T.n_all (by decide +kernel) (pa_cons (pe_lc (own := [("_law_one", 4)]) rfl sc_law_right.nd (pi_seq (pv 0)) (blkOk_by (own := [("_law_one", 4)]) (N := N_law_right) (sc := defScope s_law_right) (by decide +kernel)) (fun _ _ _ _ _ => (pg_name (i := 4) sc_law_right.nd rfl (Or.inl rfl))) (fun _ _ _ _ _ => pts_nil) (fun _ _ _ _ _ => (pe_cmpR (o_in (hu_of hr)) (pv 4) (pv 1) (by rfl)))) pa_nil)))))) (pe_callB c_len (by rfl) T.n_len (by decide +kernel) (pa_cons (pv 0) pa_nil)) pe_int))
    (pss_cons (ps_set (i := 3) sc_law_right.nd rfl (Or.inl rfl) (pe_lst (pa_cons (pe_cmpR (o_eq (hu4 hr)) (pv 2) pe_int (nomark _)) (pa_cons (pe_chain (x_le hr.units0) (x_le hr.units0) pe_int (pv 2) pe_int) (pa_cons (pe_chain (x_le hr.units0) (x_le hr.units0) pe_int (pv 2) pe_int) pa_nil)))))
    (pss_one (ps_ret (pe_cmpR (o_eq (hu4 hr)) (pe_callB (c_repr hg (hu4 hr)) (by rfl) T.n_repr (by decide +kernel) (pa_cons (pe_lst (pa_cons (pe_call G_is_sign (hr.mono (by decide)) rfl T.g_is_sign T.k_is_sign T.b_is_sign .nil pass0 (pa_cons (pv 0) pa_nil)) (pa_cons (pe_call G_is_word (hr.mono (by decide)) rfl T.g_is_word T.k_is_word T.b_is_word .nil pass0 (pa_cons (pv 0) pa_nil)) (pa_cons (pe_call G_is_name (hr.mono (by decide)) rfl T.g_is_name T.k_is_name T.b_is_name .nil pass0 (pa_cons (pv 0) pa_nil)) pa_nil)))) pa_nil)) (pe_callB (c_repr hg (hu4 hr)) (by rfl) T.n_repr (by decide +kernel) (pa_cons (pv 3) pa_nil)) (nomark _))))))
def t_law (K : PySem.W.Frag) (sp_law_take : Sp) (sp_law_any : Sp) (sp_law_right : Sp) (sp_law_bag : Sp) : TS :=
    (tSeq (tAsg (tC (.str "'-.0123456789:ABCDEFGHIJKLMNOPQRSTUVWXYZ^_abcdefghijklmnopqrstuvwxyz~")) (gName 1))
    (tSeq (tAsg (tC (.str " !\"#$&()*+,/;<=>?\x40[\\]`{|}\n")) (gName 2))
    (tSeq (tIfS (tOr (tTest (tOp (rNeA K) (tCB (rLenA K) (tCons (tVar 1) tNil)) (tC (.int 69)))) (tNot (tB (tCB (rAll K) (tCons (tLc (iSeq K (tOp (rAddA K) (tOp (rAddA K) (tVar 1) (tVar 2)) (tC (.str "")))) (gName 11) tYes (tCall sp_law_right [] E0 (tCons (tVar 11) (tCons (tVar 1) tNil))) [11]) tNil))))) (tRet (tC (.bl false))) tNext)
    (tSeq (tFor (iRng1 (tCons (tCB rMax2 (tCons (tC (.int 2)) (tCons (tCB rMin2 (tCons (tC (.int 6)) (tCons (tCB (rLenA K) (tCons (tVar 0) tNil)) tNil))) tNil))) tNil)) (gName 3) (tSeq (tAsg (tCall sp_law_bag [] E0 (tCons (tVar 0) (tCons (tVar 3) tNil))) (gName 4))
    (tFor (iSeq K (tTup (tCons (tC (.int 12)) (tCons (tC (.int 13)) (tCons (tC (.int 40)) (tCons (tC (.int 41)) (tCons (tCall sp_law_take [] E0 (tCons (tVar 4) (tCons (tC (.int 60)) tNil))) tNil))))))) (gName 5) (tSeq (tAsg (tM1 (rJoin K) (tC (.str "")) (tLc (iRng1 (tCons (tVar 5) tNil)) (gName 12) tYes (tOp (rIxA K) (tVar 1) (tCall sp_law_take [] E0 (tCons (tVar 4) (tCons (tC (.int 69)) tNil)))) [12])) (gName 6))
    (tSeq (tAsg (tCall sp_law_take [] E0 (tCons (tVar 4) (tCons (tOp (rAddA K) (tCB (rLenA K) (tCons (tVar 6) tNil)) (tC (.int 1))) tNil))) (gName 7))
    (tSeq (tAsg (tOp (rAddA K) (tOp (rAddA K) (L2.tSl (rSlAny K) (tVar 6) tNo (tSome (tVar 7))) (tOp (rIxA K) (tVar 2) (tCall sp_law_take [] E0 (tCons (tVar 4) (tCons (tCB (rLenA K) (tCons (tVar 2) tNil)) tNil))))) (L2.tSl (rSlAny K) (tVar 6) (tSome (tVar 7)) tNo)) (gName 8))
    (tFor (iSeq K (tTup (tCons (tVar 6) (tCons (tVar 8) (tCons (L2.tSl (rSlAny K) (tVar 6) tNo (tSome (tVar 7))) (tCons (L2.tSl (rSlAny K) (tVar 6) (tSome (tVar 7)) tNo) (tCons (tLst (tCons (tVar 6) tNil)) (tCons (tTup (tCons (tVar 6) tNil)) (tCons (tCall sp_law_any [] E0 (tCons (tVar 4) tNil)) tNil))))))))) (gName 9) (tSeq (tAsg (tCB (rReprA K) (tCons (tVar 9) tNil)) (gName 10))
    (tIfS (tOr (tNot (tB (tCall sp_law_right [] E0 (tCons (tVar 9) (tCons (tVar 1) tNil))))) (tTest (tOp (rNeA K) (tCB (rReprA K) (tCons (tVar 9) tNil)) (tVar 10)))) (tRet (tC (.bl false))) tNext)))))))))
    (tRet (tC (.bl true)))))))
theorem d_law (T : Txt K mg) {cdv : Value} {A : Around} {outer : List Env} {s : Shared} {H : Hp} {E : XK} (hr : Room 4 (A.deeper (envOfC "law" (defScope s_law) s.heap.objs.size T.a_law cdv))) (hg : A.guards = some []) {sp_law_take : Sp} (G_law_take : FnOk P w K mg base CX0 1 T.a_law_take T.fd_law_take P_law_take sp_law_take) {sp_law_any : Sp} (G_law_any : FnOk P w K mg base CX0 2 T.a_law_any T.fd_law_any P_law_any sp_law_any) {sp_law_right : Sp} (G_law_right : FnOkG P w K mg base CX0 4 T.a_law_right T.fd_law_right P_law_right sp_law_right) {sp_law_bag : Sp} (G_law_bag : FnOk P w K mg base CX0 1 T.a_law_bag T.fd_law_bag P_law_bag sp_law_bag) :
    PSs (cxOf CX0 P w K mg base N_law "law" (defScope s_law) T.a_law cdv A outer s H E).nox (defBody s_law) (t_law K sp_law_take sp_law_any sp_law_right sp_law_bag) :=
    (pss_cons (ps_set (i := 1) sc_law.nd rfl (Or.inr rfl) pe_str)
    (pss_cons (ps_set (i := 2) sc_law.nd rfl (Or.inl rfl) pe_str)
    (pss_cons (ps_if (PW.pt (pw_or (pt_cmpR (o_ne (hu4 hr)) (pe_callB c_len (by rfl) T.n_len (by decide +kernel) (pa_cons (pv 1) pa_nil)) pe_int (nomark _)) (pw_or1 (pt_not (pt_val (pe_callB (cr_all rfl) (by rfl) T.n_all (by decide +kernel) (pa_cons (pe_lc (own := [("_law_sign", 11)]) rfl sc_law.nd (pi_seq (pe_op o_add (pe_op o_add (pv 1) (pv 2)) pe_str)) (blkOk_by (own := [("_law_sign", 11)]) (N := N_law) (sc := defScope s_law) (by decide +kernel)) (fun _ _ _ _ _ => (pg_name (i := 11) sc_law.nd rfl (Or.inl rfl))) (fun _ _ _ _ _ => pts_nil) (fun _ _ _ _ _ => (pe_callG G_law_right (hr.mono (by decide)) hg rfl T.g_law_right T.k_law_right T.b_law_right .nil pass0 (pa_cons (pv 11) (pa_cons (pv 1) pa_nil))))) pa_nil))))))) (pss_one (ps_ret pe_bl)) pss_nil)
    (pss_cons (ps_for PassesOwn.never rfl (pi_range1 rfl T.n_range (pa_cons (pe_callB (call_max2 rfl) (by rfl) T.n_max (by decide +kernel) (pa_cons pe_int (pa_cons (pe_callB (call_min2 rfl) (by rfl) T.n_min (by decide +kernel) (pa_cons pe_int (pa_cons (pe_callB c_len (by rfl) T.n_len (by decide +kernel) (pa_cons (pv 0) pa_nil)) pa_nil))) pa_nil))) pa_nil)) (pg_name (i := 3) sc_law.nd rfl (Or.inl rfl)) (pss_cons (ps_set (i := 4) sc_law.nd rfl (Or.inr rfl) (pe_call G_law_bag (hr.mono (by decide)) rfl T.g_law_bag T.k_law_bag T.b_law_bag .nil pass0 (pa_cons (pv 0) (pa_cons (pv 3) pa_nil))))
    (pss_one (ps_for PassesOwn.never rfl (pi_seq (pe_tup (pa_cons pe_int (pa_cons pe_int (pa_cons pe_int (pa_cons pe_int (pa_cons (pe_call G_law_take (hr.mono (by decide)) rfl T.g_law_take T.k_law_take T.b_law_take .nil pass0 (pa_cons (pv 4) (pa_cons pe_int pa_nil))) pa_nil))))))) (pg_name (i := 5) sc_law.nd rfl (Or.inl rfl)) (pss_cons (ps_set (i := 6) sc_law.nd rfl (Or.inl rfl) (pe_join pe_str (pe_lc (own := [("_law_k", 12)]) rfl sc_law.nd (pi_range1 rfl T.n_range (pa_cons (pv 5) pa_nil)) (blkOk_by (own := [("_law_k", 12)]) (N := N_law) (sc := defScope s_law) (by decide +kernel)) (fun _ _ _ _ _ => (pg_name (i := 12) sc_law.nd rfl (Or.inl rfl))) (fun _ _ _ _ _ => pts_nil) (fun _ _ _ _ _ => (pe_ix (ix_any (hu_of hr)) (pv 1) (pe_call G_law_take (hr.mono (by decide)) rfl T.g_law_take T.k_law_take T.b_law_take .nil pass0 (pa_cons (pv 4) (pa_cons pe_int pa_nil))) (fun _ _ => rfl))))))
    (pss_cons (ps_set (i := 7) sc_law.nd rfl (Or.inl rfl) (pe_call G_law_take (hr.mono (by decide)) rfl T.g_law_take T.k_law_take T.b_law_take .nil pass0 (pa_cons (pv 4) (pa_cons (pe_op o_add (pe_callB c_len (by rfl) T.n_len (by decide +kernel) (pa_cons (pv 6) pa_nil)) pe_int) pa_nil))))
    (pss_cons (ps_set (i := 8) sc_law.nd rfl (Or.inl rfl) (pe_op o_add (pe_op o_add (pe_slice sl_any (pv 6) po_none (po_some (pv 7))) (pe_ix (ix_any (hu_of hr)) (pv 2) (pe_call G_law_take (hr.mono (by decide)) rfl T.g_law_take T.k_law_take T.b_law_take .nil pass0 (pa_cons (pv 4) (pa_cons (pe_callB c_len (by rfl) T.n_len (by decide +kernel) (pa_cons (pv 2) pa_nil)) pa_nil))) (fun _ _ => rfl))) (pe_slice sl_any (pv 6) (po_some (pv 7)) po_none)))
    (pss_one (ps_for PassesOwn.never rfl (pi_seq (pe_tup (pa_cons (pv 6) (pa_cons (pv 8) (pa_cons (pe_slice sl_any (pv 6) po_none (po_some (pv 7))) (pa_cons (pe_slice sl_any (pv 6) (po_some (pv 7)) po_none) (pa_cons (pe_lst (pa_cons (pv 6) pa_nil)) (pa_cons (pe_tup (pa_cons (pv 6) pa_nil)) (pa_cons (pe_call G_law_any (hr.mono (by decide)) rfl T.g_law_any T.k_law_any T.b_law_any .nil pass0 (pa_cons (pv 4) pa_nil)) pa_nil))))))))) (pg_name (i := 9) sc_law.nd rfl (Or.inl rfl)) (pss_cons (ps_set (i := 10) sc_law.nd rfl (Or.inl rfl) (pe_callB (c_repr hg (hu4 hr)) (by rfl) T.n_repr (by decide +kernel) (pa_cons (pv 9) pa_nil)))
    (pss_one (ps_if (PW.pt (pw_or (pt_not (pt_val (pe_callG G_law_right (hr.mono (by decide)) hg rfl T.g_law_right T.k_law_right T.b_law_right .nil pass0 (pa_cons (pv 9) (pa_cons (pv 1) pa_nil))))) (pw_or1 (pt_cmpR (o_ne (hu4 hr)) (pe_callB (c_repr hg (hu4 hr)) (by rfl) T.n_repr (by decide +kernel) (pa_cons (pv 9) pa_nil)) (pv 10) (nomark _))))) (pss_one (ps_ret pe_bl)) pss_nil))))))))))))
    (pss_one (ps_ret pe_bl))))))
end
end Nm

set_option Elab.async false
set_option linter.all false
set_option maxRecDepth 100000
set_option maxHeartbeats 400000
namespace Nm
open PySem PySem.Spec L2
local macro_rules | `(tactic| walk_at "ev") => `(tactic| first
  | (with_reducible apply ev_var; assumption; with_unfolding_all rfl)
  | (with_reducible apply ev_c; first | with_reducible exact Den.int _ | with_reducible exact Den.str _ | with_reducible exact Den.bl _ | with_reducible exact Den.non | with_reducible exact Den.ty _)
  | with_reducible exact ea_nil
  | (with_reducible apply ea_cons; walk_at "ev"; walk_at "ev")
  | (with_reducible apply ev_op; walk_at "ev"; walk_at "ev"; walk_at "rv")
  | (with_reducible apply ev_cb; walk_at "ev"; walk_at "rv")
  | (with_reducible apply ev_lst; walk_at "ev"; walk_at "sz")
  | (with_reducible apply ev_tup; walk_at "ev"; walk_at "sz")
  | (with_reducible apply ev_un; walk_at "ev"; walk_at "rv")
  | (with_reducible apply et_test; walk_at "ev")
  | (with_reducible apply et_B; walk_at "ev")
  | (with_reducible apply et_not; walk_at "ev")
  | (with_reducible apply ev_not; walk_at "ev")
  | (with_reducible apply ev_sl_str; walk_at "ev"; walk_at "ev"; walk_at "ev"; walk_at "sz")
  | (with_reducible apply eo_some; walk_at "ev")
  | with_reducible exact eo_none)
local macro_rules | `(tactic| walk_at "rv") => `(tactic| first
  | with_reducible exact rv_add_int | (with_reducible apply rv_add_str; walk_at "sz") | (with_reducible apply rv_add_lst; walk_at "sz")
  | with_reducible exact rv_lt_int | with_reducible exact rv_le_int | with_reducible exact rv_gt_int | with_reducible exact rv_ge_int
  | with_reducible exact rvA_eq_int | with_reducible exact rvA_eq_str | with_reducible exact rvA_ne_int | with_reducible exact rvA_ne_str
  | (with_reducible apply rv_mul_int; walk_at "mul")
  | with_reducible exact rv_in_sign | (with_reducible apply rc_len_str; walk_at "sz") | with_reducible exact rc_len_lst | with_reducible exact rc_len_tup
  | with_reducible exact rc_abs | with_reducible exact rc_max2 | with_reducible exact rc_min2
  | with_reducible exact rc_all | with_reducible exact rc_any
  | (with_reducible apply rc_isiA; with_unfolding_all rfl; decide +kernel)
  | (with_reducible apply rv_ix_lst; with_unfolding_all rfl) | (with_reducible apply rv_ix_tup; with_unfolding_all rfl)
  | (with_reducible apply rv_I; walk_at "sd"))
local macro_rules | `(tactic| walk_at "sz") => `(tactic| first | assumption | (rw [sizeLine_eq]; omega) | (rw [sizeLine_eq]; decide) | (simp [sizeLine_eq]; done))
local macro_rules | `(tactic| walk_at "sd") => `(tactic| first | assumption | omega | decide)
local macro_rules | `(tactic| walk_at "mul") => `(tactic| first | exact Or.inl ⟨by omega, by omega⟩ | exact Or.inr ⟨by omega, by omega⟩)
/-! ### signs, words, names -/
def allS : Str := (("abcdefghijklmnopqrstuvwxyz" : Str) ++ ("ABCDEFGHIJKLMNOPQRSTUVWXYZ" : Str)) ++ ("0123456789'-.:^_~" : Str)
def isSignC (c : Nat) : Bool := decide (c ∈ allS.cps.toList)
def isSignL (l : List Nat) : Bool := match l with | [c] => isSignC c | _ => false
def isSign : D → Bool
  | .str s => isSignL s.cps.toList
  | _ => false
/-- plain data, its texts not too long -/
def okA : D → Bool
  | .str s => decide (s.length ≤ 1000000)
  | d => (tyD d).isSome
def f_is_sign : List D → Option D
  | [d] => if okA d then some (.bl (isSign d)) else none
  | _ => none
def hasSigns (d : D) (m : Int) : Bool := match d with
  | .str s => decide (1 ≤ (s.length : Int)) && decide ((s.length : Int) ≤ m) && s.cps.toList.all isSignC
  | _ => false
def f_has_signs : List D → Option D
  | [d, .int m] => if okA d then some (.bl (hasSigns d m)) else none
  | _ => none
def f_is_word : List D → Option D
  | [d] => if okA d then some (.bl (hasSigns d 40)) else none
  | _ => none
def f_is_name : List D → Option D
  | [d] => if okA d then some (.bl (hasSigns d 12)) else none
  | _ => none
section
variable {K : PySem.W.Frag} {vs : List V} {H : Hp} {Q : VK} {E : XK}
def isStrD : D → Bool | .str _ => true | _ => false
/-- isinstance(thing, str), whatever the thing -/
theorem ev_isStr {te : TE} {σ : L2.St} {F : Hp} {d : D} (h : EvD K te σ F d) (ok : okA d = true) : EvD K (tCB (rIsiA K) (tCons te (tCons (tC (.ty "str")) tNil))) σ F (.bl (isStrD d)) := by
  have go : ∀ {t : String} {b : Bool}, tyD d = some t → kitB t "str" = some b → EvD K (tCB (rIsiA K) (tCons te (tCons (tC (.ty "str")) tNil))) σ F (.bl b) := fun h1 h2 => ev_cb (ea_cons h (by walk_at "ev")) (rc_isiA h1 h2)
  cases d with
  | non => exact go (b := false) rfl (by decide +kernel)
  | bl b => exact go (b := false) rfl (by decide +kernel)
  | int b => exact go (b := false) rfl (by decide +kernel)
  | lst b => exact go (b := false) rfl (by decide +kernel)
  | tup b => exact go (b := false) rfl (by decide +kernel)
  | dic b => exact go (b := false) rfl (by decide +kernel)
  | str b => exact go (b := true) rfl (by decide +kernel)
  | obj C b => cases ok
  | ty C => cases ok
  | cls C => cases ok
theorem lenL (z : Str) : z.length = z.cps.toList.length := by simp [Str.length]
theorem rd_is_sign (h : spP K 1 f_is_sign vs H Q E) : t_is_sign K { nx := fun _ H' => Q .non H', rt := Q } (start N_is_sign vs) H := by
  obtain ⟨F, v, x, d, rfl, S, hv, hf, k⟩ := spP1 h
  have E1 : EnvD K F [.d x] (start N_is_sign [v]) := .cons ⟨v, rfl, hv⟩ .nil
  obtain ⟨ok, rfl⟩ := if_some hf
  refine s_ret S ?_ k
  have h0 := ev_isStr (ev_var (i := 0) E1 rfl) ok
  cases x with
  | str z =>
    have hz : z.length ≤ 1000000 := by simpa [okA] using ok
    refine ev_is (ev_andT h0 (ev_and (b := isSign (.str z)) (by walk_at "ev") fun h1 => ?_)) ?_
    · have h1 : z.length = 1 := by have := of_decide_eq_true h1; omega
      obtain ⟨c, hc⟩ : ∃ c, z.cps.toList = [c] := List.length_eq_one_iff.mp (by rw [← lenL]; exact h1)
      have e : z = ⟨#[c]⟩ := str_ext hc
      subst e
      apply ev_is
      · walk_at "ev"
      · rfl
    · have e : ∀ l : List Nat, ((l.length : Int) = 1) ∨ isSignL l = false := by
        intro l
        match l with
        | [] => exact .inr rfl
        | [c] => exact .inl rfl
        | _ :: _ :: _ => exact .inr rfl
      rcases e z.cps.toList with h | h
      · rw [lenL, decide_eq_true h]; rfl
      · have : isSign (.str z) = false := h
        rw [this]; simp
  | non => exact ev_andF h0
  | bl b => exact ev_andF h0
  | int b => exact ev_andF h0
  | lst b => exact ev_andF h0
  | tup b => exact ev_andF h0
  | dic b => exact ev_andF h0
  | obj C b => cases ok
  | ty C => cases ok
  | cls C => cases ok
theorem rd_has_signs (h : spP K 2 f_has_signs vs H Q E) : t_has_signs K (spP K 1 f_is_sign) { nx := fun _ H' => Q .non H', rt := Q } (start N_has_signs vs) H := by
  obtain ⟨F, v, w, x, y, d, rfl, S, hv, hw, hf, k⟩ := spP2 h
  have E1 : EnvD K F [.d x, .d y, .u] (start N_has_signs [v, w]) := .cons ⟨v, rfl, hv⟩ (.cons ⟨w, rfl, hw⟩ (.cons trivial .nil))
  cases y with
  | int m =>
    obtain ⟨ok, rfl⟩ := if_some hf
    refine s_ret S ?_ k
    have h0 := ev_isStr (ev_var (i := 0) E1 rfl) ok
    cases x with
    | str z =>
      have hz : z.length ≤ 1000000 := by simpa [okA] using ok
      refine ev_andT h0 (ev_and (ev_chain (q := decide ((z.length : Int) ≤ m)) (by walk_at "ev") (by walk_at "ev") (by walk_at "rv") (fun _ => by walk_at "ev") fun _ => by walk_at "rv") fun _ => ?_)
      refine ev_is (ev_cb (ea_cons (ev_is (ev_lc (f := fun d => .bl (isSign d)) E1 (ei_str (by walk_at "ev")) ?_ (wipe1 2) fun d F' σ' hd _ E' => ?_) ?_) ea_nil) (rc_all (bs := z.cps.toList.map isSignC))) ?_
      · unfold signs; rw [List.length_map, ← lenL, sizeLine_eq]; omega
      · obtain ⟨c, _, rfl⟩ := List.mem_map.mp hd
        exact ev_call (by walk_at "ev") rfl rfl
      · unfold signs; rw [List.map_map, List.map_map]; rfl
      · rw [List.all_map]; rfl
    | non => exact ev_andF h0
    | bl b => exact ev_andF h0
    | int b => exact ev_andF h0
    | lst b => exact ev_andF h0
    | tup b => exact ev_andF h0
    | dic b => exact ev_andF h0
    | obj C b => cases ok
    | ty C => cases ok
    | cls C => cases ok
  | _ => cases hf
theorem rd_is_word (h : spP K 1 f_is_word vs H Q E) : t_is_word K (spP K 2 f_has_signs) { nx := fun _ H' => Q .non H', rt := Q } (start N_is_word vs) H := by
  obtain ⟨F, v, x, d, rfl, S, hv, hf, k⟩ := spP1 h
  have E1 : EnvD K F [.d x] (start N_is_word [v]) := .cons ⟨v, rfl, hv⟩ .nil
  exact s_ret S (ev_call (ds := [x, .int 40]) (by walk_at "ev") hf rfl) k
theorem rd_is_name (h : spP K 1 f_is_name vs H Q E) : t_is_name K (spP K 2 f_has_signs) { nx := fun _ H' => Q .non H', rt := Q } (start N_is_name vs) H := by
  obtain ⟨F, v, x, d, rfl, S, hv, hf, k⟩ := spP1 h
  have E1 : EnvD K F [.d x] (start N_is_name [v]) := .cons ⟨v, rfl, hv⟩ .nil
  exact s_ret S (ev_call (ds := [x, .int 12]) (by walk_at "ev") hf rfl) k
end
end Nm

set_option Elab.async false
set_option linter.all false
set_option maxRecDepth 100000
set_option maxHeartbeats 400000
namespace Nm
open PySem PySem.Spec L2
local macro_rules | `(tactic| walk_at "ev") => `(tactic| first
  | (with_reducible apply ev_var; assumption; with_unfolding_all rfl)
  | (with_reducible apply ev_c; first | with_reducible exact Den.int _ | with_reducible exact Den.str _ | with_reducible exact Den.bl _ | with_reducible exact Den.non | with_reducible exact Den.ty _)
  | with_reducible exact ea_nil
  | (with_reducible apply ea_cons; walk_at "ev"; walk_at "ev")
  | (with_reducible apply ev_op; walk_at "ev"; walk_at "ev"; walk_at "rv")
  | (with_reducible apply ev_cb; walk_at "ev"; walk_at "rv")
  | (with_reducible apply ev_lst; walk_at "ev"; walk_at "sz")
  | (with_reducible apply ev_tup; walk_at "ev"; walk_at "sz")
  | (with_reducible apply ev_un; walk_at "ev"; walk_at "rv")
  | (with_reducible apply ev_chainU; walk_at "ev"; walk_at "ev"; walk_at "rv"; walk_at "ev"; walk_at "rv")
  | with_reducible exact ev_dnew
  | with_reducible exact ev_disp1 (fun _ => Den.str _)
  | (with_reducible apply et_test; walk_at "ev")
  | (with_reducible apply et_B; walk_at "ev")
  | (with_reducible apply et_not; walk_at "ev")
  | (with_reducible apply ev_not; walk_at "ev")
  | (with_reducible apply ev_sl_str; walk_at "ev"; walk_at "ev"; walk_at "ev"; walk_at "sz")
  | (with_reducible apply eo_some; walk_at "ev")
  | with_reducible exact eo_none)
local macro_rules | `(tactic| walk_at "rv") => `(tactic| first
  | with_reducible exact rv_add_int | (with_reducible apply rv_add_str; walk_at "sz") | (with_reducible apply rv_add_lst; walk_at "sz")
  | with_reducible exact rv_lt_int | with_reducible exact rv_le_int | with_reducible exact rv_gt_int | with_reducible exact rv_ge_int
  | with_reducible exact rvA_eq_int | with_reducible exact rvA_eq_str | with_reducible exact rvA_ne_int | with_reducible exact rvA_ne_str
  | (with_reducible apply rv_mul_int; walk_at "mul")
  | with_reducible exact rv_in_sign | (with_reducible apply rc_len_str; walk_at "sz") | with_reducible exact rc_len_lst | with_reducible exact rc_len_tup
  | with_reducible exact rc_abs | with_reducible exact rc_max2 | with_reducible exact rc_min2
  | with_reducible exact rc_all | with_reducible exact rc_any | with_reducible exact ru_neg
  | (with_reducible apply rc_isiA; with_unfolding_all rfl; decide +kernel)
  | (with_reducible apply rv_ix_lst; with_unfolding_all rfl) | (with_reducible apply rv_ix_tup; with_unfolding_all rfl)
  | (with_reducible apply rv_I; first | walk_at "sd" | (unfold CPow; decide) | (unfold CDiv; first | decide | omega)))
local macro_rules | `(tactic| walk_at "sz") => `(tactic| first | assumption | (rw [sizeLine_eq]; omega) | (rw [sizeLine_eq]; decide) | (simp [sizeLine_eq]; done))
local macro_rules | `(tactic| walk_at "sd") => `(tactic| first | assumption | omega | decide)
local macro_rules | `(tactic| walk_at "mul") => `(tactic| first | exact Or.inl ⟨by omega, by omega⟩ | exact Or.inr ⟨by omega, by omega⟩)
/-! ### the bag -/
section
variable {K : PySem.W.Frag} {vs : List V} {H : Hp} {Q : VK} {E : XK}
theorem mix_small {y z : Int} {m : Nat} (hy : 0 ≤ y) (hy2 : y < 2305843009213693951) (hz : 0 ≤ z) (hz2 : z ≤ 1000000000) (c : Int) (hc : 0 ≤ c) (hc2 : c ≤ 1000000000) : (y + c * z).natAbs < 2 ^ 64 := by
  have h1 : 0 ≤ c * z := Int.mul_nonneg hc hz
  have h2 : c * z ≤ 1000000000 * 1000000000 := Int.mul_le_mul hc2 hz2 hz (by decide)
  omega
theorem rd_law_take (h : spTake K vs H Q E) : t_law_take K { nx := fun _ H' => Q .non H', rt := Q } (start N_law_take vs) H := by
  obtain ⟨F, b, n, ws, ds, rfl, S, ⟨x, y, z, o, hx, hy, hy2, hz, hz2⟩, l, e, pre, k⟩ := h
  match ds, l, e, pre, k with
  | [.int m], .cons (.int _) .nil, _, ⟨m0, m1⟩, k =>
  refine ⟨.ref b, rfl, .inl (.inl ⟨b, _, 0, _, rfl, rfl, SqL.of o.h, rfl, .inl ⟨x, 0, rfl, rfl, _, rfl, ?_⟩⟩)⟩
  refine ite2 (fun hp => ?_) (fun hp => ?_)
  · have hp := of_decide_eq_true hp
    refine ⟨.ref b, rfl, .inl (.inl ⟨b, _, 0, _, rfl, rfl, SqL.of o.h, rfl, .int m, rfl, x, m, rfl, rfl, m0, ?_⟩)⟩
    refine ⟨.ref b, rfl, .inl (.inl ⟨b, _, 0, _, rfl, rfl, SqL.of o.h, rfl, .int m, rfl, x, m, rfl, rfl, ⟨m0, m1⟩, ?_⟩)⟩
    refine ⟨.ref b, rfl, b, _, 0, 0, rfl, rfl, o.h, rfl, .int (x % m), rfl, ?_⟩
    refine k _ (.int (x % m)) F _ (o.set S) ⟨x / m, y, z, ⟨o.f, upd_same⟩, Int.ediv_nonneg hx (by omega), hy, hy2, hz, by omega⟩ ⟨Int.emod_nonneg _ (by omega), Int.emod_lt_of_pos _ m0⟩ (.int _)
  · -- bag[2] = bag[2] + 1
    refine ⟨.ref b, rfl, .inl (.inl ⟨b, _, 2, _, rfl, rfl, SqL.of o.h, rfl, .inl ⟨z, 1, rfl, rfl, ?_⟩⟩)⟩
    refine ⟨.ref b, rfl, b, _, 2, 2, rfl, rfl, o.h, rfl, ?_⟩
    have o2 : Own F (upd H b (.lst [.int x, .int y, .int (z + 1)])) b (.lst [.int x, .int y, .int (z + 1)]) := ⟨o.f, upd_same⟩
    -- the first mixing
    refine ⟨.ref b, rfl, .inl (.inl ⟨b, _, 1, _, rfl, rfl, SqL.of o2.h, rfl, .ref b, rfl, .inl (.inl ⟨b, _, 2, _, rfl, rfl, SqL.of o2.h, rfl, .inl ⟨_, z + 1, rfl, rfl, .inl ⟨by decide, by decide⟩, .inl ⟨_, _, rfl, rfl, _, _, rfl, rfl, ⟨by decide, by decide, mix_small (m := 0) hy hy2 (by omega) (by omega) _ (by decide) (by decide)⟩, _, _, rfl, rfl, (show (0 : Int) < 2305843009213693921 by decide), ?_⟩⟩⟩)⟩)⟩
    have m3 := Int.emod_nonneg ((y + 5000011 * (z + 1)) ^ (3 : Int).toNat) (show (2305843009213693921 : Int) ≠ 0 by decide)
    have m4 := Int.emod_lt_of_pos ((y + 5000011 * (z + 1)) ^ (3 : Int).toNat) (show (0 : Int) < 2305843009213693921 by decide)
    -- the second one
    refine ⟨_, rfl, .ref b, rfl, .inl (.inl ⟨b, _, 2, _, rfl, rfl, SqL.of o2.h, rfl, .inl ⟨_, z + 1, rfl, rfl, .inl ⟨by decide, by decide⟩, .inl ⟨_, _, rfl, rfl, _, _, rfl, rfl, ⟨by decide, by decide, mix_small (m := 0) m3 (by omega) (by omega) (by omega) _ (by decide) (by decide)⟩, _, _, rfl, rfl, (show (0 : Int) < 2305843009213693951 by decide), ?_⟩⟩⟩)⟩
    refine ⟨_, rfl, _, _, rfl, rfl, ⟨by decide, by decide⟩, .int m, rfl, _, m, rfl, rfl, m0, ?_⟩
    refine k _ (.int _) F _ (o.set S) ⟨x, y, z + 1, o2, hx, hy, hy2, by omega, by omega⟩ ⟨Int.emod_nonneg _ (by omega), Int.emod_lt_of_pos _ m0⟩ (.int _)
end
section
variable {K : PySem.W.Frag} {vs : List V} {H : Hp} {Q : VK} {E : XK}
theorem rd_law_bag (h : spBag K vs H Q E) : t_law_bag K { nx := fun _ H' => Q .non H', rt := Q } (start N_law_bag vs) H := by
  obtain ⟨F, a, ns, i, rfl, S, hs, h0, h1, k⟩ := h
  have hs' := same_l S hs
  -- whatever the cell is
  have rest : ∀ c : Int, tSeq (tAsg (tIf (tTest (tOp (rGeA K) (tCB rAbs (tCons (tVar 2) tNil)) (tOp (rI CPow fun i j => V.int (i ^ j.toNat)) (tC (.int 10)) (tC (.int 18))))) (tCB rAbs (tCons (tVar 2) tNil)) (tC (.int 0))) (gName 3))
      (tRet (tLst (tCons (tVar 3) (tCons (tOp (rI (fun _ j => 0 < j) fun i j => V.int (i % j)) (tOp (rMulA K) (tOp (rAddA K) (tOp (rAddA K) (tOp (rI (fun _ j => 0 < j) fun i j => V.int (i % j)) (tVar 2) (tC (.int 2305843009213693951))) (tOp (rMulA K) (tC (.int 6211)) (tVar 1))) (tC (.int 17))) (tC (.int 92821993))) (tC (.int 2305843009213693951))) (tCons (tC (.int 0)) tNil))))) { nx := fun _ H' => Q .non H', rt := Q } [some (.ref a), some (.int i), some (.int c), none] H := by
    intro c
    have fin : ∀ x : Int, 0 ≤ x → tRet (tLst (tCons (tVar 3) (tCons (tOp (rI (fun _ j => 0 < j) fun i j => V.int (i % j)) (tOp (rMulA K) (tOp (rAddA K) (tOp (rAddA K) (tOp (rI (fun _ j => 0 < j) fun i j => V.int (i % j)) (tVar 2) (tC (.int 2305843009213693951))) (tOp (rMulA K) (tC (.int 6211)) (tVar 1))) (tC (.int 17))) (tC (.int 92821993))) (tC (.int 2305843009213693951))) (tCons (tC (.int 0)) tNil)))) { nx := fun _ H' => Q .non H', rt := Q } [some (.ref a), some (.int i), some (.int c), some (.int x)] H := by
      intro x hx
      have c0 := Int.emod_nonneg c (show (2305843009213693951 : Int) ≠ 0 by decide)
      have c1 := Int.emod_lt_of_pos c (show (0 : Int) < 2305843009213693951 by decide)
      refine ⟨_, rfl, _, rfl, _, _, rfl, rfl, (show (0 : Int) < 2305843009213693951 by decide), _, rfl, .inl ⟨_, i, rfl, rfl, .inl ⟨by decide, by decide⟩, .inl ⟨_, _, rfl, rfl, .inl ⟨_, _, rfl, rfl, .inl ⟨_, _, rfl, rfl, .inl ⟨by omega, by omega⟩, _, _, rfl, rfl, (show (0 : Int) < 2305843009213693951 by decide), ?_⟩⟩⟩⟩⟩
      refine ⟨by show 3 ≤ sizeLine; decide, fun p hp => k p _ hp (Ext.newM S hp) ⟨_, _, 0, ⟨S.free hp, upd_same⟩, hx, Int.emod_nonneg _ (by decide), Int.emod_lt_of_pos _ (by decide), Int.le_refl _, by decide⟩⟩
    refine ⟨_, rfl, c, rfl, _, _, rfl, rfl, ⟨by decide, by decide, by decide⟩, .inl ⟨_, _, rfl, rfl, _, rfl, ?_⟩⟩
    refine ite2 (fun _ => ?_) (fun _ => ?_)
    · refine ⟨_, rfl, c, rfl, fin _ ?_⟩
      split <;> omega
    · exact fin 0 (Int.le_refl _)
  refine ⟨.int i, rfl, .ref a, rfl, .inl ⟨a, _, rfl, .inl hs', .inl ⟨i, _, rfl, rfl, _, rfl, ?_⟩⟩⟩
  refine ite2 (fun hp => ?_) (fun hp => ?_)
  · have hp := of_decide_eq_true hp
    rw [List.length_map] at hp
    obtain ⟨j, rfl⟩ : ∃ j : Nat, i = (j : Int) := ⟨i.toNat, by omega⟩
    have hj : j < ns.length := by omega
    refine ⟨.ref a, rfl, .int j, rfl, .inl (.inl ⟨a, _, _, .int ns[j], rfl, rfl, hs', ?_, rest ns[j]⟩)⟩
    exact atI_nat (by rw [List.getElem?_map, List.getElem?_eq_getElem hj]; rfl)
  · exact rest 0
end
end Nm

set_option Elab.async false
set_option linter.all false
set_option maxRecDepth 100000
set_option maxHeartbeats 400000
namespace Nm
open PySem PySem.Spec L2
local macro_rules | `(tactic| walk_at "ev") => `(tactic| first
  | (with_reducible apply ev_var; assumption; with_unfolding_all rfl)
  | (with_reducible apply ev_c; first | with_reducible exact Den.int _ | with_reducible exact Den.str _ | with_reducible exact Den.bl _ | with_reducible exact Den.non | with_reducible exact Den.ty _)
  | with_reducible exact ea_nil
  | (with_reducible apply ea_cons; walk_at "ev"; walk_at "ev")
  | (with_reducible apply ev_op; walk_at "ev"; walk_at "ev"; walk_at "rv")
  | (with_reducible apply ev_cb; walk_at "ev"; walk_at "rv")
  | (with_reducible apply ev_lst; walk_at "ev"; walk_at "sz")
  | (with_reducible apply ev_tup; walk_at "ev"; walk_at "sz")
  | (with_reducible apply ev_un; walk_at "ev"; walk_at "rv")
  | (with_reducible apply ev_chainU; walk_at "ev"; walk_at "ev"; walk_at "rv"; walk_at "ev"; walk_at "rv")
  | with_reducible exact ev_dnew
  | with_reducible exact ev_disp1 (fun _ => Den.str _)
  | (with_reducible apply et_test; walk_at "ev")
  | (with_reducible apply et_B; walk_at "ev")
  | (with_reducible apply et_not; walk_at "ev")
  | (with_reducible apply ev_not; walk_at "ev")
  | (with_reducible apply ev_sl_str; walk_at "ev"; walk_at "ev"; walk_at "ev"; walk_at "sz")
  | (with_reducible apply eo_some; walk_at "ev")
  | with_reducible exact eo_none)
local macro_rules | `(tactic| walk_at "rv") => `(tactic| first
  | with_reducible exact rv_add_int | (with_reducible apply rv_add_str; walk_at "sz") | (with_reducible apply rv_add_lst; walk_at "sz")
  | with_reducible exact rv_lt_int | with_reducible exact rv_le_int | with_reducible exact rv_gt_int | with_reducible exact rv_ge_int
  | with_reducible exact rvA_eq_int | with_reducible exact rvA_eq_str | with_reducible exact rvA_ne_int | with_reducible exact rvA_ne_str
  | (with_reducible apply rv_mul_int; walk_at "mul")
  | with_reducible exact rv_in_sign | (with_reducible apply rc_len_str; walk_at "sz") | with_reducible exact rc_len_lst | with_reducible exact rc_len_tup
  | with_reducible exact rc_abs | with_reducible exact rc_max2 | with_reducible exact rc_min2
  | with_reducible exact rc_all | with_reducible exact rc_any | with_reducible exact ru_neg
  | (with_reducible apply rc_isiA; with_unfolding_all rfl; decide +kernel)
  | (with_reducible apply rv_ix_lst; with_unfolding_all rfl) | (with_reducible apply rv_ix_tup; with_unfolding_all rfl)
  | (with_reducible apply rv_I; first | walk_at "sd" | (unfold CPow; decide) | (unfold CDiv; first | decide | omega)))
local macro_rules | `(tactic| walk_at "sz") => `(tactic| first | assumption | (rw [sizeLine_eq]; omega) | (rw [sizeLine_eq]; decide) | (simp [sizeLine_eq]; done))
local macro_rules | `(tactic| walk_at "sd") => `(tactic| first | assumption | omega | decide)
local macro_rules | `(tactic| walk_at "mul") => `(tactic| first | exact Or.inl ⟨by omega, by omega⟩ | exact Or.inr ⟨by omega, by omega⟩)
def anyD : List D := [.non, .bl true, .int 0, .int (10 ^ 30), .lst [], .lst [.str "a"], .tup [.str "a"], .tup [.str "a", .str "b"], .dic [], .dic [(.inr "a", .str "b")], .tup [], .lst [.non], .int (-1), .int 1, .bl false, .lst [.lst [.str "a"]]]
abbrev spAny (K : PySem.W.Frag) : Sp := spB K 0 1 (fun _ => True) (fun _ d => d ∈ anyD)
def known : Str := "'-.0123456789:ABCDEFGHIJKLMNOPQRSTUVWXYZ^_abcdefghijklmnopqrstuvwxyz~"
def others : Str := " !\"#$&()*+,/;<=>?\x40[\\]`{|}\n"
def f_right : List D → Option D
  | [d, .str z] => if okA d && decide (z = known) then some (.bl true) else none
  | _ => none
def manyD : D → Int
  | .str z => if z.cps.toList.all (fun c => decide (c ∈ known.cps.toList)) then z.length else 0
  | _ => 0
theorem known_iff (c : Nat) : decide (c ∈ known.cps.toList) = isSignC c := by
  have h1 : ∀ c ∈ known.cps.toList, c ∈ allS.cps.toList := by decide +kernel
  have h2 : ∀ c ∈ allS.cps.toList, c ∈ known.cps.toList := by decide +kernel
  unfold isSignC
  by_cases h : c ∈ known.cps.toList
  · rw [decide_eq_true h, decide_eq_true (h1 c h)]
  · rw [decide_eq_false h, decide_eq_false (fun z => h (h2 c z))]
theorem three (d : D) : isSign d = decide (manyD d = 1) ∧ ∀ m : Int, 0 ≤ m → hasSigns d m = (decide (1 ≤ manyD d) && decide (manyD d ≤ m)) := by
  cases d with
  | str z =>
    have e : z.cps.toList.all (fun c => decide (c ∈ known.cps.toList)) = z.cps.toList.all isSignC := by
      congr 1; funext c; exact known_iff c
    have hm : manyD (.str z) = if z.cps.toList.all isSignC = true then (z.cps.toList.length : Int) else 0 := by
      rw [← e, ← lenL]; rfl
    have hh : ∀ m, hasSigns (.str z) m = (decide (1 ≤ (z.cps.toList.length : Int)) && decide ((z.cps.toList.length : Int) ≤ m) && z.cps.toList.all isSignC) := fun m => by rw [← lenL]; rfl
    simp only [hh, hm, show isSign (.str z) = isSignL z.cps.toList from rfl]
    generalize z.cps.toList = l
    cases h : l.all isSignC with
    | true =>
      simp only [if_true, Bool.and_true]
      refine ⟨?_, fun m hm => by simp⟩
      match l, h with
      | [], _ => rfl
      | [c], h => simp at h; simp [isSignL, h]
      | _ :: _ :: _, _ => simp [isSignL]; omega
    | false =>
      simp only [if_false, Bool.and_false, Bool.false_eq_true]
      refine ⟨?_, fun m hm => by simp⟩
      match l, h with
      | [], _ => rfl
      | [c], h => simp at h; simp [isSignL, h]
      | _ :: _ :: _, _ => simp [isSignL]
  | _ => exact ⟨rfl, fun m hm => by simp [hasSigns, manyD]⟩
theorem ok_bools (a b c : Bool) : okR (.lst [.bl a, .bl b, .bl c]) = true := by
  revert a b c; decide +kernel
section
variable {K : PySem.W.Frag} {vs : List V} {H : Hp} {Q : VK} {E : XK}
theorem rd_law_any (h : spAny K vs H Q E) : t_law_any K (spTake K) { nx := fun _ H' => Q .non H', rt := Q } (start N_law_any vs) H := by
  obtain ⟨F, b, n, ws, ds, rfl, S, w, l, e, _, k⟩ := h
  match ds, l, e with
  | [], .nil, _ =>
  have E1 : EnvD K F [.v (.ref b), .u] (start N_law_any [.ref b]) := .cons rfl (.cons trivial .nil)
  refine q_asg (d := .lst anyD) S E1 (by apply ev_is; (· walk_at "ev"); rfl) fun F1 H1 σ1 x1 E2 => ?_
  have E2 : EnvD K F1 [.v (.ref b), .d (.lst anyD)] σ1 := E2
  exact s_retB x1.s (w.ext0 x1) (eb_pick_lst (m := 16) E2 rfl (ev_var E2 rfl) (ev_c (.int 16)) (by decide) rfl (by decide)) fun v d F2 H2 hd x2 w2 dv => k v d F2 H2 (x1.tr x2) w2 hd dv
theorem rd_law_right (h : spP K 2 f_right vs H Q E) : t_law_right K (spP K 1 f_is_name) (spP K 1 f_is_word) (spP K 1 f_is_sign) { nx := fun _ H' => Q .non H', rt := Q } (start N_law_right vs) H := by
  obtain ⟨F, v, w, x, y, d, rfl, S, hv, hw, hf, k⟩ := spP2 h
  cases y with
  | str z =>
    obtain ⟨ok, rfl⟩ := if_some hf
    rw [Bool.and_eq_true, decide_eq_true_eq] at ok
    obtain ⟨ok, rfl⟩ := ok
    have E1 : EnvD K F [.d x, .d (.str known), .u, .u, .u] (start N_law_right [v, w]) := .cons ⟨v, rfl, hv⟩ (.cons ⟨w, rfl, hw⟩ (.cons trivial (.cons trivial (.cons trivial .nil))))
    have h0 := ev_isStr (ev_var (i := 0) E1 rfl) ok
    have h1 : EvD K (tIf (tAnd (tB (tCB (rIsiA K) (tCons (tVar 0) (tCons (tC (.ty "str")) tNil)))) (tB (tCB (rAll K) (tCons (tLc (iSeq K (tVar 0)) (gName 4) tYes (tOp (rInA K) (tVar 4) (tVar 1)) [4]) tNil)))) (tCB (rLenA K) (tCons (tVar 0) tNil)) (tC (.int 0))) (start N_law_right [v, w]) F (.int (manyD x)) := by
      cases x with
      | str z =>
        have hz : z.length ≤ 1000000 := by simpa [okA] using ok
        refine ev_if (et_and (et_B h0) fun _ => et_B (ev_cb (ea_cons (ev_is (ev_lc (f := fun d => match d with | .str s => .bl (match s.cps.toList with | [c] => decide (c ∈ known.cps.toList) | _ => false) | _ => .non) E1 (ei_str (by walk_at "ev")) ?_ (wipe1 4) fun d F' σ' hd _ E' => ?_) ?_) ea_nil) (rc_all (bs := z.cps.toList.map fun c => decide (c ∈ known.cps.toList))))) (fun hb => ev_is (by walk_at "ev") ?_) (fun hb => ev_is (by walk_at "ev") ?_)
        · unfold signs; rw [List.length_map, ← lenL, sizeLine_eq]; omega
        · obtain ⟨c, _, rfl⟩ := List.mem_map.mp hd
          exact ev_op (by walk_at "ev") (by walk_at "ev") rv_in_sign
        · unfold signs; rw [List.map_map, List.map_map]; rfl
        · have hb : z.cps.toList.all (fun c => decide (c ∈ known.cps.toList)) = true := by rw [List.all_map] at hb; simpa [isStrD] using hb
          unfold manyD; dsimp only; rw [if_pos hb]
        · have hb : z.cps.toList.all (fun c => decide (c ∈ known.cps.toList)) = false := by rw [List.all_map] at hb; simpa [isStrD] using hb
          unfold manyD; dsimp only; rw [hb]; rfl
      | obj C b => cases ok
      | ty C => cases ok
      | cls C => cases ok
      | _ => exact ev_if (et_andF (et_B h0)) (fun z => nomatch z) fun _ => ev_c (Den.int 0)
    refine q_asg S E1 h1 fun F1 H1 σ1 x1 E2 => ?_
    have E2 : EnvD K F1 [.d x, .d (.str known), .d (.int (manyD x)), .u, .u] σ1 := E2
    refine q_asg x1.s E2 (by walk_at "ev") fun F2 H2 σ2 x2 E3 => ?_
    obtain ⟨t1, t2⟩ := three x
    rw [← t1, ← t2 40 (by decide), ← t2 12 (by decide)] at E3
    have E3 : EnvD K F2 [.d x, .d (.str known), .d (.int (manyD x)), .d (.lst [.bl (isSign x), .bl (hasSigns x 40), .bl (hasSigns x 12)]), .u] σ2 := E3
    have fs : f_is_sign [x] = some (.bl (isSign x)) := if_pos ok
    have fw : f_is_word [x] = some (.bl (hasSigns x 40)) := if_pos ok
    have fn : f_is_name [x] = some (.bl (hasSigns x 12)) := if_pos ok
    refine s_ret x2.s (ev_is (ev_op (ev_cb (ea_cons (ev_lst (ea_cons (ev_call (ds := [x]) (by walk_at "ev") fs rfl) (ea_cons (ev_call (ds := [x]) (by walk_at "ev") fw rfl) (ea_cons (ev_call (ds := [x]) (by walk_at "ev") fn rfl) ea_nil))) (by simp [sizeLine_eq])) ea_nil) (rc_repr (ok_bools _ _ _))) (ev_cb (by walk_at "ev") (rc_repr (ok_bools _ _ _))) rvA_eq_str) ?_) fun v F3 H3 x3 d3 => k v F3 H3 ((x1.tr x2).tr x3) d3
    rw [decide_eq_true rfl]
  | _ => cases hf
end
end Nm

set_option Elab.async false
set_option linter.all false
set_option maxRecDepth 100000
set_option maxHeartbeats 400000
namespace Nm
open PySem PySem.Spec L2
local macro_rules | `(tactic| walk_at "ev") => `(tactic| first
  | (with_reducible apply ev_var; assumption; with_unfolding_all rfl)
  | (with_reducible apply ev_c; first | with_reducible exact Den.int _ | with_reducible exact Den.str _ | with_reducible exact Den.bl _ | with_reducible exact Den.non | with_reducible exact Den.ty _)
  | with_reducible exact ea_nil
  | (with_reducible apply ea_cons; walk_at "ev"; walk_at "ev")
  | (with_reducible apply ev_op; walk_at "ev"; walk_at "ev"; walk_at "rv")
  | (with_reducible apply ev_cb; walk_at "ev"; walk_at "rv")
  | (with_reducible apply ev_lst; walk_at "ev"; walk_at "sz")
  | (with_reducible apply ev_tup; walk_at "ev"; walk_at "sz")
  | (with_reducible apply ev_un; walk_at "ev"; walk_at "rv")
  | (with_reducible apply ev_chainU; walk_at "ev"; walk_at "ev"; walk_at "rv"; walk_at "ev"; walk_at "rv")
  | with_reducible exact ev_dnew
  | with_reducible exact ev_disp1 (fun _ => Den.str _)
  | (with_reducible apply et_test; walk_at "ev")
  | (with_reducible apply et_B; walk_at "ev")
  | (with_reducible apply et_not; walk_at "ev")
  | (with_reducible apply ev_not; walk_at "ev")
  | (with_reducible apply ev_sl_str; walk_at "ev"; walk_at "ev"; walk_at "ev"; walk_at "sz")
  | (with_reducible apply eo_some; walk_at "ev")
  | with_reducible exact eo_none)
local macro_rules | `(tactic| walk_at "rv") => `(tactic| first
  | with_reducible exact rv_add_int | (with_reducible apply rv_add_str; walk_at "sz") | (with_reducible apply rv_add_lst; walk_at "sz")
  | with_reducible exact rv_lt_int | with_reducible exact rv_le_int | with_reducible exact rv_gt_int | with_reducible exact rv_ge_int
  | with_reducible exact rvA_eq_int | with_reducible exact rvA_eq_str | with_reducible exact rvA_ne_int | with_reducible exact rvA_ne_str
  | (with_reducible apply rv_mul_int; walk_at "mul")
  | with_reducible exact rv_in_sign | (with_reducible apply rc_len_str; walk_at "sz") | with_reducible exact rc_len_lst | with_reducible exact rc_len_tup
  | with_reducible exact rc_abs | with_reducible exact rc_max2 | with_reducible exact rc_min2
  | with_reducible exact rc_all | with_reducible exact rc_any | with_reducible exact ru_neg
  | (with_reducible apply rc_isiA; with_unfolding_all rfl; decide +kernel)
  | (with_reducible apply rv_ix_lst; with_unfolding_all rfl) | (with_reducible apply rv_ix_tup; with_unfolding_all rfl)
  | (with_reducible apply rv_I; first | walk_at "sd" | (unfold CPow; decide) | (unfold CDiv; first | decide | omega)))
local macro_rules | `(tactic| walk_at "sz") => `(tactic| first | assumption | (rw [sizeLine_eq]; omega) | (rw [sizeLine_eq]; decide) | (simp [sizeLine_eq]; done))
local macro_rules | `(tactic| walk_at "sd") => `(tactic| first | assumption | omega | decide)
local macro_rules | `(tactic| walk_at "mul") => `(tactic| first | exact Or.inl ⟨by omega, by omega⟩ | exact Or.inr ⟨by omega, by omega⟩)
def spLaw (K : PySem.W.Frag) : Sp := fun vs H Q _ => ∃ (a : Addr) (ns : List Int), vs = [.ref a] ∧ SqL K H a (ns.map V.int) ∧ ns.length ≤ 63 ∧ ∀ H', Q (.bl true) H'
theorem spLaw_len {K : PySem.W.Frag} {vs : List V} {H : Hp} {Q : VK} {E : XK} (h : spLaw K vs H Q E) : vs.length = 1 := by
  obtain ⟨a, ns, rfl, _⟩ := h
  rfl
def okI (d : D) : Prop := okA d = true ∧ okR d = true
theorem any_ok : ∀ d ∈ anyD, okI d := by
  intro d hd
  simp only [anyD, List.mem_cons, List.not_mem_nil, or_false] at hd
  rcases hd with rfl | rfl | rfl | rfl | rfl | rfl | rfl | rfl | rfl | rfl | rfl | rfl | rfl | rfl | rfl | rfl <;> exact ⟨by decide +kernel, by decide +kernel⟩
theorem ok_small {z : Str} (h : z.length ≤ 100000) (hc : ∀ c ∈ z.cps.toList, c < 1114112) : okI (.str z) ∧ okI (.lst [.str z]) ∧ okI (.tup [.str z]) := by
  obtain ⟨h1, h2⟩ := okR_one h hc
  exact ⟨⟨decide_eq_true (by omega), okR_str h hc⟩, ⟨rfl, h1⟩, ⟨rfl, h2⟩⟩
theorem cut_mem {z : Str} {lo hi : Option Int} {c : Nat} (h : c ∈ (cutS z lo hi).cps.toList) : c ∈ z.cps.toList := List.mem_of_mem_drop (List.mem_of_mem_take h)
theorem cut_len (z : Str) (lo hi : Option Int) : (cutS z lo hi).length ≤ z.length := by
  rw [lenL, lenL]
  unfold cutS
  simp only [List.length_take, List.length_drop]
  omega
theorem known_small : ∀ c ∈ known.cps.toList, c < 1114112 := by decide +kernel
theorem others_small : ∀ c ∈ others.cps.toList, c < 1114112 := by decide +kernel
theorem app_mem {a b : Str} {c : Nat} : c ∈ (a ++ b).cps.toList ↔ c ∈ a.cps.toList ∨ c ∈ b.cps.toList := by
  show c ∈ (a.cps ++ b.cps).toList ↔ _
  rw [Array.toList_append, List.mem_append]
theorem app_len (a b : Str) : (a ++ b).length = a.length + b.length := by
  rw [lenL, lenL, lenL]
  show (a.cps ++ b.cps).toList.length = _
  rw [Array.toList_append, List.length_append]
/-- texts of single signs, joined -/
theorem ones {es : List D} {m : Nat} {z : Str} (hl : es.length = m) (h : ∀ e ∈ es, ∃ c, e = .str ⟨#[c]⟩ ∧ c ∈ z.cps.toList) : ∃ ys : List Str, es = ys.map D.str ∧ (ys.map (·.length)).sum + ys.length * Str.empty.length ≤ m + m * 0 ∧ (Txt.join Str.empty ys).length = m ∧ ∀ c ∈ (Txt.join Str.empty ys).cps.toList, c ∈ z.cps.toList := by
  have key : ∀ es : List D, (∀ e ∈ es, ∃ c, e = .str ⟨#[c]⟩ ∧ c ∈ z.cps.toList) → ∃ cs : List Nat, es = cs.map (fun c => .str ⟨#[c]⟩) ∧ ∀ c ∈ cs, c ∈ z.cps.toList := by
    intro es
    induction es with
    | nil => intro _; exact ⟨[], rfl, fun _ h => nomatch h⟩
    | cons e es ih =>
      intro h
      obtain ⟨c, rfl, hc⟩ := h e List.mem_cons_self
      obtain ⟨cs, rfl, hcs⟩ := ih fun e he => h e (List.mem_cons_of_mem _ he)
      refine ⟨c :: cs, rfl, fun d hd => ?_⟩
      rcases List.mem_cons.mp hd with rfl | hd
      · exact hc
      · exact hcs d hd
  obtain ⟨cs, rfl, hcs⟩ := key es h
  have tl : (Txt.join Str.empty (cs.map fun c => (⟨#[c]⟩ : Str))).cps.toList = cs := by
    rw [join_toList, List.map_map]
    clear hl h hcs
    induction cs with
    | nil => rfl
    | cons c cs ih => rw [List.map_cons, List.flatten_cons, ih]; rfl
  refine ⟨cs.map fun c => ⟨#[c]⟩, by rw [List.map_map]; rfl, ?_, by rw [lenL, tl, ← hl, List.length_map], by rw [tl]; exact hcs⟩
  rw [List.length_map] at hl
  have : ((cs.map fun c => (⟨#[c]⟩ : Str)).map (·.length)).sum = cs.length := by
    clear hl h hcs tl
    induction cs with
    | nil => rfl
    | cons c cs ih => rw [List.map_cons, List.map_cons, List.sum_cons, ih, List.length_cons]; show 1 + _ = _; omega
  rw [this, List.length_map, hl]
  exact Nat.le_refl _
section
variable {K : PySem.W.Frag} {vs : List V} {H : Hp} {Q : VK} {E : XK}
theorem rd_law (h : spLaw K vs H Q E) : t_law K (spTake K) (spAny K) (spP K 2 f_right) (spBag K) { nx := fun _ H' => Q .non H', rt := Q } (start N_law vs) H := by
  obtain ⟨a, ns, rfl, hs, hlen, k⟩ := h
  have S0 : Same H H := Same.refl H
  have E0 : EnvD K H [.v (.ref a), .u, .u, .u, .u, .u, .u, .u, .u, .u, .u, .u, .u] (start N_law [.ref a]) :=
    .cons rfl (.cons trivial (.cons trivial (.cons trivial (.cons trivial (.cons trivial (.cons trivial (.cons trivial (.cons trivial (.cons trivial (.cons trivial (.cons trivial (.cons trivial .nil))))))))))))
  refine q_asg (d := .str known) S0 E0 (ev_c (.str _)) fun F1 H1 σ1 x1 E1 => ?_
  refine q_asg (d := .str others) x1.s E1 (ev_c (.str _)) fun F2 H2 σ2 x2 E2 => ?_
  have E2 : EnvD K F2 [.v (.ref a), .d (.str known), .d (.str others), .u, .u, .u, .u, .u, .u, .u, .u, .u, .u] σ2 := E2
  have kl : known.length = 69 := by decide +kernel
  have ol : others.length = 26 := by decide +kernel
  -- the single signs
  refine q_if (K := K) (b := false) x2.s ?_ (fun z => nomatch z) fun _ F3 H3 x3 => ?_
  · refine et_is (et_or (a := false) (b := false) (et_is (et_test (ev_op (ev_cb (by walk_at "ev") (rc_len_str (by rw [sizeLine_eq]; omega))) (by walk_at "ev") rvA_ne_int)) (by rw [kl]; rfl)) fun _ => et_is (et_not (et_B (ev_cb (ea_cons (ev_is (ev_lc (f := fun _ => .bl true) E2 (ei_str (by walk_at "ev")) ?_ (wipe1 11) fun d F' σ' hd _ E' => ?_) ?_) ea_nil) (rc_all (bs := (signs ((known ++ others) ++ "")).map fun _ => true))))) ?_) rfl
    · decide +kernel
    · obtain ⟨c, _, rfl⟩ := List.mem_map.mp hd
      exact ev_call (ds := [_, .str known]) (by walk_at "ev") rfl rfl
    · rw [List.map_map]; rfl
    · decide +kernel
  · have E3 := E2.up x3.f
    have sq3 : SqL K F3 a (ns.map V.int) := same_l ((x1.f.trans x2.f).trans x3.f) hs
    -- each cell
    have rng : EvI K (iRng1 (tCons (tCB rMax2 (tCons (tC (.int 2)) (tCons (tCB rMin2 (tCons (tC (.int 6)) (tCons (tCB (rLenA K) (tCons (tVar 0) tNil)) tNil))) tNil))) tNil)) σ2 F3 ((List.range (if (if (ns.length : Int) < 6 then (ns.length : Int) else 6) > 2 then (if (ns.length : Int) < 6 then (ns.length : Int) else 6) else 2).toNat).map fun i => .int (i : Nat)) := by
      have lenS : EvD K (tCB (rLenA K) (tCons (tVar 0) tNil)) σ2 F3 (.int (ns.length : Int)) := fun H4 s4 Q4 q4 => by
        obtain ⟨o, g1, g2⟩ := E3.get (i := 0) rfl
        have g2 : o = some (.ref a) := g2
        subst g2
        exact ⟨.ref a, g1, .inl ⟨a, _, rfl, .inl (same_l s4 sq3), by rw [List.length_map]; exact q4 _ F3 H4 (Ext.refl s4) (.int _)⟩⟩
      refine ei_rng1 (ea_cons (ev_cb (ea_cons (by walk_at "ev") (ea_cons (ev_cb (ea_cons (by walk_at "ev") (ea_cons lenS ea_nil)) rc_min2) ea_nil)) rc_max2) ea_nil) ?_ ?_ <;> split <;> split <;> omega
    refine s_for (DE := { nx := _, rt := Q }) [] (fun _ F' H' r' => ∃ s3 s4 s5 s6 s7 s8 s9 s10 s11 s12, r' = [.v (.ref a), .d (.str known), .d (.str others), s3, s4, s5, s6, s7, s8, s9, s10, s11, s12]) x3.s E3 rng (fun _ _ _ => ⟨_, _, _, _, _, _, _, _, _, _, rfl⟩) ?_ (fun F' H' r' σ' x E' p => k H')
    rintro i d F4 H4 F5 H5 r' σ' N hd x4 ⟨s3, s4, s5, s6, s7, s8, s9, s10, s11, s12, rfl⟩ x5 E5 kN
    obtain ⟨j, rfl, hj⟩ : ∃ j : Nat, d = .int (j : Nat) ∧ j ≤ 1000 := by
      rw [List.getElem?_map] at hd
      obtain ⟨j, h1, h2⟩ := Option.map_eq_some_iff.mp hd
      have := (List.getElem?_eq_some_iff.mp h1).1
      have e := (List.getElem?_eq_some_iff.mp h1).2
      rw [List.getElem_range] at e
      rw [List.length_range] at this
      refine ⟨j, h2.symm, ?_⟩
      have : (if (if (ns.length : Int) < 6 then (ns.length : Int) else 6) > 2 then (if (ns.length : Int) < 6 then (ns.length : Int) else 6) else 2) ≤ 6 := by split <;> split <;> omega
      omega
    have E5 : EnvD K F5 [.v (.ref a), .d (.str known), .d (.str others), .d (.int (j : Nat)), s4, s5, s6, s7, s8, s9, s10, s11, s12] σ' := E5
    refine q_bag x5.s E5 rfl rfl hj (same_l (x4.f.trans x5.f) sq3) fun b H6 σ6 hb x6 w6 E6 => ?_
    have E6 : EnvD K F5 [.v (.ref a), .d (.str known), .d (.str others), .d (.int (j : Nat)), .v (.ref b), s5, s6, s7, s8, s9, s10, s11, s12] σ6 := E6
    -- the sizes
    refine s_forB (n := 5000) (I := fun items => items.length = 5 ∧ ∀ d ∈ items, ∃ m : Nat, d = .int (m : Nat) ∧ m ≤ 60)
      (fun items i F' H' r' => BagAt F' H' b ((5 - i) * 1000) ∧ ∃ s5 s6 s7 s8 s9 s10 s11 s12, r' = [.v (.ref a), .d (.str known), .d (.str others), .d (.int (j : Nat)), .v (.ref b), s5, s6, s7, s8, s9, s10, s11, s12])
      x6.s E6 (w6.less (by decide)) (ebi_seq_tup (R := fun d => ∃ k : Nat, k < 60 ∧ d = .tup [.int 12, .int 13, .int 40, .int 41, .int (k : Nat)]) (eb_tup (S := fun ds => ∃ k : Nat, k < 60 ∧ ds = [.int 12, .int 13, .int 40, .int 41, .int (k : Nat)])
        (eb_cons (T := fun ds => ∃ k : Nat, k < 60 ∧ ds = [.int 12, .int 13, .int 40, .int 41, .int (k : Nat)]) (eb_of (ev_c (.int 12))) (eb_cons (T := fun ds => ∃ k : Nat, k < 60 ∧ ds = [.int 13, .int 40, .int 41, .int (k : Nat)]) (eb_of (ev_c (.int 13))) (eb_cons (T := fun ds => ∃ k : Nat, k < 60 ∧ ds = [.int 40, .int 41, .int (k : Nat)]) (eb_of (ev_c (.int 40)))
          (eb_cons (T := fun ds => ∃ k : Nat, k < 60 ∧ ds = [.int 41, .int (k : Nat)]) (eb_of (ev_c (.int 41))) (eb_cons (T := fun ds => ∃ k : Nat, k < 60 ∧ ds = [.int (k : Nat)]) (eb_take (m := 60) E6 rfl (ev_c (.int 60)) (by decide) (by decide)) eb_nil ?_) ?_) ?_) ?_) ?_) ?_ ?_) ?_) ?_ ?_ ?_
    · rintro x xs ⟨k, rfl, hk⟩ rfl; exact ⟨k, hk, rfl⟩
    · rintro x xs rfl ⟨k, hk, rfl⟩; exact ⟨k, hk, rfl⟩
    · rintro x xs rfl ⟨k, hk, rfl⟩; exact ⟨k, hk, rfl⟩
    · rintro x xs rfl ⟨k, hk, rfl⟩; exact ⟨k, hk, rfl⟩
    · rintro x xs rfl ⟨k, hk, rfl⟩; exact ⟨k, hk, rfl⟩
    · rintro ds ⟨k, hk, rfl⟩; rw [sizeLine_eq]; show 5 ≤ _; decide
    · rintro ds ⟨k, hk, rfl⟩; exact ⟨k, hk, rfl⟩
    · rintro d ⟨k, hk, rfl⟩
      refine ⟨_, rfl, rfl, fun d hd => ?_⟩
      simp only [List.mem_cons, List.not_mem_nil, or_false] at hd
      rcases hd with rfl | rfl | rfl | rfl | rfl
      · exact ⟨12, rfl, by decide⟩
      · exact ⟨13, rfl, by decide⟩
      · exact ⟨40, rfl, by decide⟩
      · exact ⟨41, rfl, by decide⟩
      · exact ⟨k, rfl, by omega⟩
    · intro items F' H' _ _ w
      exact ⟨w.less (by decide), _, _, _, _, _, _, _, _, rfl⟩
    · rintro items i d F7 H7 F8 H8 r' σ8 N8 ⟨hl, hI⟩ hd x7 ⟨w7, s5, s6, s7, s8, s9, s10, s11, s12, rfl⟩ x8 E8 kN8
      obtain ⟨m, rfl, hm⟩ := hI d (List.mem_of_getElem? hd)
      have hi5 : i < 5 := by rw [← hl]; exact (List.getElem?_eq_some_iff.mp hd).1
      have E8 : EnvD K F8 [.v (.ref a), .d (.str known), .d (.str others), .d (.int (j : Nat)), .v (.ref b), .d (.int (m : Nat)), s6, s7, s8, s9, s10, s11, s12] σ8 := E8
      have w8 := w7.ext0 x8
      -- the word
      refine q_asgB (n := (5 - (i + 1)) * 1000 + 900) (c := 0 + 60 * 1) (R := fun d => ∃ z : Str, d = .str z ∧ z.length = m ∧ ∀ c ∈ z.cps.toList, c ∈ known.cps.toList) x8.s E8 (w8.less (by omega)) (eb_join (RA := fun d => ∃ es, d = .lst es ∧ es.length = m ∧ ∀ e ∈ es, ∃ c, e = .str ⟨#[c]⟩ ∧ c ∈ known.cps.toList) (ev_c (.str _))
        (eb_lc (I := fun ds => ds.length = m) (RE := fun _ d => ∃ c, d = .str ⟨#[c]⟩ ∧ c ∈ known.cps.toList) E8 (ebi_rng1 (c := 0) (S := fun ds => ds = [.int (m : Nat)]) (ea_ofB (by walk_at "ev")) ?_) ?_ ?_ (wipe1 12) ?_ ?_) ?_) ?_
      · rintro ds rfl; exact ⟨m, rfl, by omega, by simp⟩
      · intro ds hds; omega
      · rw [sizeLine_eq]; decide
      · intro ds d F' σ' hds _ s' E'
        exact eb_pick_str (m := 69) E' rfl (ev_var E' rfl) (ev_c (.int 69)) (by decide) kl.symm (by omega)
      · intro ds es hds hes h
        refine ⟨es, rfl, by omega, fun e he => ?_⟩
        obtain ⟨q, hq, rfl⟩ := List.getElem_of_mem he
        exact h q (ds[q]'(by omega)) _ (List.getElem?_eq_getElem _) (List.getElem?_eq_getElem _)
      · rintro d ⟨es, rfl, hes, h⟩
        obtain ⟨ys, e1, e2, e3, e4⟩ := ones hes h
        exact ⟨ys, by rw [e1], Nat.le_trans e2 (by omega), _, rfl, e3, e4⟩
      · rintro d F9 H9 σ9 ⟨z, rfl, hz, hzc⟩ x9 w9 E9
        have E9 : EnvD K F9 [.v (.ref a), .d (.str known), .d (.str others), .d (.int (j : Nat)), .v (.ref b), .d (.int (m : Nat)), .d (.str z), s7, s8, s9, s10, s11, s12] σ9 := E9
        have hz60 : z.length ≤ 60 := by omega
        -- the spot
        refine q_asgB (n := (5 - (i + 1)) * 1000 + 800) (c := 1) x9.s E9 (w9.less (by omega)) (eb_take (m := z.length + 1) E9 rfl (by apply ev_is; (· walk_at "ev"); rfl) (by omega) (by omega)) ?_
        rintro d F10 H10 σ10 ⟨sp, rfl, hsp⟩ x10 w10 E10
        have E10 : EnvD K F10 [.v (.ref a), .d (.str known), .d (.str others), .d (.int (j : Nat)), .v (.ref b), .d (.int (m : Nat)), .d (.str z), .d (.int (sp : Nat)), s8, s9, s10, s11, s12] σ10 := E10
        -- the bent word
        refine q_asgB (n := (5 - (i + 1)) * 1000 + 700) (c := 0 + 1 + 0) (R := fun d => ∃ y : Str, d = .str y ∧ y.length ≤ 200 ∧ ∀ c ∈ y.cps.toList, c < 1114112) x10.s E10 (w10.less (by omega)) (eb_op (RB := fun d => d = .str (cutS z (some (sp : Nat)) none)) (RA := fun d => ∃ c, d = .str (cutS z none (some (sp : Nat)) ++ ⟨#[c]⟩) ∧ c ∈ others.cps.toList)
          (eb_op (RA := fun d => d = .str (cutS z none (some (sp : Nat)))) (RB := fun d => ∃ c, d = .str ⟨#[c]⟩ ∧ c ∈ others.cps.toList) (eb_of (by walk_at "ev")) (eb_pick_str (m := others.length) E10 rfl (ev_var E10 rfl) (ev_cb (ea_cons (ev_var E10 rfl) ea_nil) (rc_len_str (by rw [sizeLine_eq]; omega))) (by omega) rfl (by omega)) ?_) (eb_of (by walk_at "ev")) ?_) ?_
        · rintro x y rfl ⟨c, rfl, hc⟩
          have := cut_len z none (some (sp : Nat))
          have one : (⟨#[c]⟩ : Str).length = 1 := rfl
          exact ⟨_, rv_add_str (by rw [sizeLine_eq, one]; omega), c, rfl, hc⟩
        · rintro x y ⟨c, rfl, hc⟩ rfl
          have h1 := cut_len z none (some (sp : Nat))
          have h2 := cut_len z (some (sp : Nat)) none
          have h3 : (cutS z none (some (sp : Nat)) ++ (⟨#[c]⟩ : Str)).length ≤ 61 := by rw [app_len]; show _ + 1 ≤ _; omega
          refine ⟨_, rv_add_str (by rw [sizeLine_eq]; omega), _, rfl, by rw [app_len]; omega, fun e he => ?_⟩
          rcases app_mem.mp he with he | he
          · rcases app_mem.mp he with he | he
            · exact known_small e (hzc e (cut_mem he))
            · have : e = c := by simpa using he
              subst this
              exact others_small e hc
          · exact known_small e (hzc e (cut_mem he))
        · rintro d F11 H11 σ11 ⟨y, rfl, hy, hyc⟩ x11 w11 E11
          have E11 : EnvD K F11 [.v (.ref a), .d (.str known), .d (.str others), .d (.int (j : Nat)), .v (.ref b), .d (.int (m : Nat)), .d (.str z), .d (.int (sp : Nat)), .d (.str y), s9, s10, s11, s12] σ11 := E11
          have zs : ∀ c ∈ z.cps.toList, c < 1114112 := fun c hc => known_small c (hzc c hc)
          obtain ⟨o1, o2, o3⟩ := ok_small (z := z) (by omega) zs
          have o4 := (ok_small (z := y) (by omega) hyc).1
          have o5 := (ok_small (z := cutS z none (some (sp : Nat))) (by have := cut_len z none (some (sp : Nat)); omega) fun c hc => zs c (cut_mem hc)).1
          have o6 := (ok_small (z := cutS z (some (sp : Nat)) none) (by have := cut_len z (some (sp : Nat)) none; omega) fun c hc => zs c (cut_mem hc)).1
          have one : ∀ {d : D} {xs : List D}, okI d → (∀ e ∈ xs, okI e) → ∀ e ∈ d :: xs, okI e := fun {d xs} h1 h2 e he => by
            rcases List.mem_cons.mp he with rfl | he
            · exact h1
            · exact h2 e he
          -- the things
          refine s_forB (n := (5 - (i + 1)) * 1000 + 600) (ci := 0 + (0 + (0 + (0 + (0 + (0 + (1 + 0))))))) (I := fun items => items.length = 7 ∧ ∀ d ∈ items, okI d)
            (fun items _ F' H' r' => BagAt F' H' b ((5 - (i + 1)) * 1000 + 600) ∧ ∃ s9 s10 s11 s12, r' = [.v (.ref a), .d (.str known), .d (.str others), .d (.int (j : Nat)), .v (.ref b), .d (.int (m : Nat)), .d (.str z), .d (.int (sp : Nat)), .d (.str y), s9, s10, s11, s12])
            x11.s E11 (w11.less (by omega)) (ebi_seq_tup (R := fun d => ∃ ds, d = .tup ds ∧ ds.length = 7 ∧ ∀ e ∈ ds, okI e) (eb_tup (S := fun ds => ds.length = 7 ∧ ∀ e ∈ ds, okI e)
              (eb_cons (T := fun ds => ds.length = 7 ∧ ∀ e ∈ ds, okI e) (eb_of (ev_var E11 rfl)) (eb_cons (T := fun ds => ds.length = 6 ∧ ∀ e ∈ ds, okI e) (eb_of (ev_var E11 rfl)) (eb_cons (T := fun ds => ds.length = 5 ∧ ∀ e ∈ ds, okI e) (eb_of (by walk_at "ev")) (eb_cons (T := fun ds => ds.length = 4 ∧ ∀ e ∈ ds, okI e) (eb_of (by walk_at "ev"))
                (eb_cons (T := fun ds => ds.length = 3 ∧ ∀ e ∈ ds, okI e) (eb_of (by walk_at "ev")) (eb_cons (T := fun ds => ds.length = 2 ∧ ∀ e ∈ ds, okI e) (eb_of (by walk_at "ev")) (eb_cons (T := fun ds => ds.length = 1 ∧ ∀ e ∈ ds, okI e) (eb_call (R := okI) (c1 := 0) (c2 := 1) (m := 0) (pre := fun _ => True) (post := fun _ d => d ∈ anyD) E11 rfl eb_nil ?_ ?_) eb_nil ?_) ?_) ?_) ?_) ?_) ?_) ?_) ?_ ?_) ?_) ?_ ?_ ?_
          · rintro ds rfl; exact ⟨rfl, trivial⟩
          · rintro ds d rfl hd; exact any_ok d hd
          · rintro x xs hx rfl; exact ⟨rfl, one hx (fun e he => nomatch he)⟩
          · rintro x xs rfl ⟨h1, h2⟩; exact ⟨by simp [h1], one o3 h2⟩
          · rintro x xs rfl ⟨h1, h2⟩; exact ⟨by simp [h1], one o2 h2⟩
          · rintro x xs rfl ⟨h1, h2⟩; exact ⟨by simp [h1], one o6 h2⟩
          · rintro x xs rfl ⟨h1, h2⟩; exact ⟨by simp [h1], one o5 h2⟩
          · rintro x xs rfl ⟨h1, h2⟩; exact ⟨by simp [h1], one o4 h2⟩
          · rintro x xs rfl ⟨h1, h2⟩; exact ⟨by simp [h1], one o1 h2⟩
          · rintro ds ⟨h1, _⟩; rw [h1, sizeLine_eq]; decide
          · rintro ds h; exact ⟨ds, rfl, h⟩
          · rintro d ⟨ds, rfl, h⟩; exact ⟨ds, rfl, h⟩
          · intro items F' H' _ _ w; exact ⟨w, _, _, _, _, rfl⟩
          · rintro items q d F12 H12 F13 H13 r' σ13 N13 ⟨_, hok⟩ hd x12 ⟨w12, s9, s10, s11, s12, rfl⟩ x13 E13 kN13
            obtain ⟨ok1, ok2⟩ := hok d (List.mem_of_getElem? hd)
            have E13 : EnvD K F13 [.v (.ref a), .d (.str known), .d (.str others), .d (.int (j : Nat)), .v (.ref b), .d (.int (m : Nat)), .d (.str z), .d (.int (sp : Nat)), .d (.str y), .d d, s10, s11, s12] σ13 := E13
            refine q_asg x13.s E13 (ev_cb (ea_cons (ev_var E13 rfl) ea_nil) (rc_repr ok2)) fun F14 H14 σ14 x14 E14 => ?_
            have E14 : EnvD K F14 [.v (.ref a), .d (.str known), .d (.str others), .d (.int (j : Nat)), .v (.ref b), .d (.int (m : Nat)), .d (.str z), .d (.int (sp : Nat)), .d (.str y), .d d, .d (.str (shownD d)), s11, s12] σ14 := E14
            have fr : f_right [d, .str known] = some (.bl true) := by
              show (if (okA d && decide (known = known)) = true then _ else _) = _
              rw [ok1, decide_eq_true rfl]; rfl
            refine s_if (K := K) (b := false) x14.s (et_is (et_or (a := false) (b := false) (et_is (et_not (et_B (ev_call (ds := [d, .str known]) (by walk_at "ev") fr rfl))) rfl) fun _ => et_is (et_test (ev_op (ev_cb (ea_cons (ev_var E14 rfl) ea_nil) (rc_repr ok2)) (ev_var E14 rfl) rvA_ne_str)) (by rw [decide_eq_true rfl]; rfl)) rfl) (fun z => nomatch z) fun _ F15 H15 x15 => ?_
            exact kN13 F15 H15 _ σ14 ((x14.tr x15).wide (by simp)) (E14.up x15.f) ⟨((w12.ext0 x13).ext0 x14).ext0 x15, _, _, _, _, rfl⟩
          · rintro items F' H' r' σ' _ x E' ⟨w', s9, s10, s11, s12, rfl⟩
            exact kN8 F' H' _ σ' (((x9.trans x10).trans x11).trans x) E' ⟨w'.less (by omega), _, _, _, _, _, _, _, _, rfl⟩
    · rintro items F' H' r' σ' _ x E' ⟨w', s5, s6, s7, s8, s9, s10, s11, s12, rfl⟩
      exact kN F' H' _ σ' (Ext.forget x6 x hb) E' ⟨_, _, _, _, _, _, _, _, _, _, rfl⟩
end
end Nm

set_option Elab.async false
set_option linter.all false
set_option maxRecDepth 100000
set_option maxHeartbeats 4000000
namespace Nm
open PySem PySem.Spec L2 PyProof.Rows
section
variable {P : Program} {w : World} {K : PySem.W.Frag} {mg : Str → Option Value} {base : Heap}
theorem ok_is_sign (T : Txt K mg) : FnOk P w K mg base CX0 1 T.a_is_sign T.fd_is_sign P_is_sign (spP K 1 f_is_sign) :=
  T.F_is_sign.ok sc_is_sign (fun vs H Q E h => spP_len h) fun cdv A outer s H vs Q E hr h => ⟨_, d_is_sign T hr , rd_is_sign h⟩
theorem ok_law_bag (T : Txt K mg) : FnOk P w K mg base CX0 1 T.a_law_bag T.fd_law_bag P_law_bag (spBag K) :=
  T.F_law_bag.ok sc_law_bag (fun vs H Q E h => spBag_len h) fun cdv A outer s H vs Q E hr h => ⟨_, d_law_bag T hr , rd_law_bag h⟩
theorem ok_law_take (T : Txt K mg) : FnOk P w K mg base CX0 1 T.a_law_take T.fd_law_take P_law_take (spTake K) :=
  T.F_law_take.ok sc_law_take (fun vs H Q E h => spB_len h) fun cdv A outer s H vs Q E hr h => ⟨_, d_law_take T hr , rd_law_take h⟩
theorem ok_has_signs (T : Txt K mg) : FnOk P w K mg base CX0 2 T.a_has_signs T.fd_has_signs P_has_signs (spP K 2 f_has_signs) :=
  T.F_has_signs.ok sc_has_signs (fun vs H Q E h => spP_len h) fun cdv A outer s H vs Q E hr h => ⟨_, d_has_signs T hr (ok_is_sign T), rd_has_signs h⟩
theorem ok_law_any (T : Txt K mg) : FnOk P w K mg base CX0 2 T.a_law_any T.fd_law_any P_law_any (spAny K) :=
  T.F_law_any.ok sc_law_any (fun vs H Q E h => spB_len h) fun cdv A outer s H vs Q E hr h => ⟨_, d_law_any T hr (ok_law_take T), rd_law_any h⟩
theorem ok_is_word (T : Txt K mg) : FnOk P w K mg base CX0 3 T.a_is_word T.fd_is_word P_is_word (spP K 1 f_is_word) :=
  T.F_is_word.ok sc_is_word (fun vs H Q E h => spP_len h) fun cdv A outer s H vs Q E hr h => ⟨_, d_is_word T hr (ok_has_signs T), rd_is_word h⟩
theorem ok_is_name (T : Txt K mg) : FnOk P w K mg base CX0 3 T.a_is_name T.fd_is_name P_is_name (spP K 1 f_is_name) :=
  T.F_is_name.ok sc_is_name (fun vs H Q E h => spP_len h) fun cdv A outer s H vs Q E hr h => ⟨_, d_is_name T hr (ok_has_signs T), rd_is_name h⟩
theorem ok_law_right (T : Txt K mg) : FnOkG P w K mg base CX0 4 T.a_law_right T.fd_law_right P_law_right (spP K 2 f_right) :=
  fnG0 T.F_law_right sc_law_right (fun vs H Q E h => spP_len h) fun cdv A outer s H vs Q E g hr h => ⟨_, d_law_right T hr g (ok_is_name T) (ok_is_word T) (ok_is_sign T), rd_law_right h⟩
theorem ok_law (T : Txt K mg) : FnOkG P w K mg base CX0 5 T.a_law T.fd_law P_law (spLaw K) :=
  fnG0 T.F_law sc_law (fun vs H Q E h => spLaw_len h) fun cdv A outer s H vs Q E g hr h => ⟨_, d_law T hr g (ok_law_take T) (ok_law_any T) (ok_law_right T) (ok_law_bag T), rd_law h⟩
end
theorem fin {l : PySem.W.OpenLaw} {w : World} {K : PySem.W.Frag} {h : Heap} {mg : Str → Option Value} {fa : Addr} (X : K.In h) (G : h.Ns mainGlobals mg) (hfa : mg "law" = some (.ref fa))
    {f0 : Addr} {oc0 kV0 dc0 pm0 cd0 ct0 : Value} {od0 an0 : Option Addr} {sl0 : Array (Option Value)} (a0 : PySem.W.nsIn K mainGlobals "is_sign" = some (some (.ref f0))) (l0 : K.lookup f0 = some ⟨oc0, od0, .func (PySem.W.fnOf "is_sign" "is_sign" (defArgs s_is_sign) (defBody s_is_sign) (defScope s_is_sign) .none kV0 dc0 pm0 an0 cd0 ct0), sl0⟩) (c0 : PySem.W.codeIn K cd0 "is_sign" = true) (k0 : PySem.W.keepIn K (.ref f0) = true)
    {f1 : Addr} {oc1 kV1 dc1 pm1 cd1 ct1 : Value} {od1 an1 : Option Addr} {sl1 : Array (Option Value)} (a1 : PySem.W.nsIn K mainGlobals "has_signs" = some (some (.ref f1))) (l1 : K.lookup f1 = some ⟨oc1, od1, .func (PySem.W.fnOf "has_signs" "has_signs" (defArgs s_has_signs) (defBody s_has_signs) (defScope s_has_signs) .none kV1 dc1 pm1 an1 cd1 ct1), sl1⟩) (c1 : PySem.W.codeIn K cd1 "has_signs" = true) (k1 : PySem.W.keepIn K (.ref f1) = true)
    {f2 : Addr} {oc2 kV2 dc2 pm2 cd2 ct2 : Value} {od2 an2 : Option Addr} {sl2 : Array (Option Value)} (a2 : PySem.W.nsIn K mainGlobals "is_word" = some (some (.ref f2))) (l2 : K.lookup f2 = some ⟨oc2, od2, .func (PySem.W.fnOf "is_word" "is_word" (defArgs s_is_word) (defBody s_is_word) (defScope s_is_word) .none kV2 dc2 pm2 an2 cd2 ct2), sl2⟩) (c2 : PySem.W.codeIn K cd2 "is_word" = true) (k2 : PySem.W.keepIn K (.ref f2) = true)
    {f3 : Addr} {oc3 kV3 dc3 pm3 cd3 ct3 : Value} {od3 an3 : Option Addr} {sl3 : Array (Option Value)} (a3 : PySem.W.nsIn K mainGlobals "is_name" = some (some (.ref f3))) (l3 : K.lookup f3 = some ⟨oc3, od3, .func (PySem.W.fnOf "is_name" "is_name" (defArgs s_is_name) (defBody s_is_name) (defScope s_is_name) .none kV3 dc3 pm3 an3 cd3 ct3), sl3⟩) (c3 : PySem.W.codeIn K cd3 "is_name" = true) (k3 : PySem.W.keepIn K (.ref f3) = true)
    {f4 : Addr} {oc4 kV4 dc4 pm4 cd4 ct4 : Value} {od4 an4 : Option Addr} {sl4 : Array (Option Value)} (a4 : PySem.W.nsIn K mainGlobals "_law_bag" = some (some (.ref f4))) (l4 : K.lookup f4 = some ⟨oc4, od4, .func (PySem.W.fnOf "_law_bag" "_law_bag" (defArgs s_law_bag) (defBody s_law_bag) (defScope s_law_bag) .none kV4 dc4 pm4 an4 cd4 ct4), sl4⟩) (c4 : PySem.W.codeIn K cd4 "_law_bag" = true) (k4 : PySem.W.keepIn K (.ref f4) = true)
    {f5 : Addr} {oc5 kV5 dc5 pm5 cd5 ct5 : Value} {od5 an5 : Option Addr} {sl5 : Array (Option Value)} (a5 : PySem.W.nsIn K mainGlobals "_law_take" = some (some (.ref f5))) (l5 : K.lookup f5 = some ⟨oc5, od5, .func (PySem.W.fnOf "_law_take" "_law_take" (defArgs s_law_take) (defBody s_law_take) (defScope s_law_take) .none kV5 dc5 pm5 an5 cd5 ct5), sl5⟩) (c5 : PySem.W.codeIn K cd5 "_law_take" = true) (k5 : PySem.W.keepIn K (.ref f5) = true)
    {f6 : Addr} {oc6 kV6 dc6 pm6 cd6 ct6 : Value} {od6 an6 : Option Addr} {sl6 : Array (Option Value)} (a6 : PySem.W.nsIn K mainGlobals "_law_any" = some (some (.ref f6))) (l6 : K.lookup f6 = some ⟨oc6, od6, .func (PySem.W.fnOf "_law_any" "_law_any" (defArgs s_law_any) (defBody s_law_any) (defScope s_law_any) .none kV6 dc6 pm6 an6 cd6 ct6), sl6⟩) (c6 : PySem.W.codeIn K cd6 "_law_any" = true) (k6 : PySem.W.keepIn K (.ref f6) = true)
    {f7 : Addr} {oc7 kV7 dc7 pm7 cd7 ct7 : Value} {od7 an7 : Option Addr} {sl7 : Array (Option Value)} (a7 : PySem.W.nsIn K mainGlobals "_law_right" = some (some (.ref f7))) (l7 : K.lookup f7 = some ⟨oc7, od7, .func (PySem.W.fnOf "_law_right" "_law_right" (defArgs s_law_right) (defBody s_law_right) (defScope s_law_right) .none kV7 dc7 pm7 an7 cd7 ct7), sl7⟩) (c7 : PySem.W.codeIn K cd7 "_law_right" = true) (k7 : PySem.W.keepIn K (.ref f7) = true)
    {f8 : Addr} {oc8 kV8 dc8 pm8 cd8 ct8 : Value} {od8 an8 : Option Addr} {sl8 : Array (Option Value)} (a8 : PySem.W.nsIn K mainGlobals "law" = some (some (.ref f8))) (l8 : K.lookup f8 = some ⟨oc8, od8, .func (PySem.W.fnOf "law" "law" (defArgs s_law) (defBody s_law) (defScope s_law) .none kV8 dc8 pm8 an8 cd8 ct8), sl8⟩) (c8 : PySem.W.codeIn K cd8 "law" = true) (k8 : PySem.W.keepIn K (.ref f8) = true)
    {u0 : Value} (v0 : PySem.W.nsIn K mainGlobals "LETTERS" = some (some u0)) (r0 : RelV (.str "abcdefghijklmnopqrstuvwxyz") u0)
    {u1 : Value} (v1 : PySem.W.nsIn K mainGlobals "CAPITALS" = some (some u1)) (r1 : RelV (.str "ABCDEFGHIJKLMNOPQRSTUVWXYZ") u1)
    {u2 : Value} (v2 : PySem.W.nsIn K mainGlobals "OTHERS" = some (some u2)) (r2 : RelV (.str "0123456789'-.:^_~") u2)
    {u3 : Value} (v3 : PySem.W.nsIn K mainGlobals "MOST_NAME" = some (some u3)) (r3 : RelV (.int 12) u3)
    {u4 : Value} (v4 : PySem.W.nsIn K mainGlobals "MOST_WORD" = some (some u4)) (r4 : RelV (.int 40) u4)
    (z0 : PySem.W.nsIn K mainGlobals "abs" = some none)
    (z1 : PySem.W.nsIn K mainGlobals "all" = some none)
    (z2 : PySem.W.nsIn K mainGlobals "isinstance" = some none)
    (z3 : PySem.W.nsIn K mainGlobals "len" = some none)
    (z4 : PySem.W.nsIn K mainGlobals "max" = some none)
    (z5 : PySem.W.nsIn K mainGlobals "min" = some none)
    (z6 : PySem.W.nsIn K mainGlobals "range" = some none)
    (z7 : PySem.W.nsIn K mainGlobals "repr" = some none)
    (z8 : PySem.W.nsIn K mainGlobals "str" = some none) :
    ∃ fd : FuncData, (∀ (s : Shared) (v : Value), BindsTo s fd ⟨[v], []⟩ [("_law_script", v)]) ∧ ∀ base : Heap, K.In base → base.Ns mainGlobals mg → FnOkG l.prog w K mg base CX0 5 fa fd ["_law_script"] (spLaw K) := by
  have e := hfa.symm.trans (PySem.W.mg_of X G a8)
  cases e
  let T : Txt K mg := {
    a_is_sign := f0
    fd_is_sign := _
    g_is_sign := PySem.W.mg_of X G a0
    k_is_sign := k0
    F_is_sign := fun_mk (st := s_is_sign) l0 c0 k0
    b_is_sign := (fun_mk (st := s_is_sign) l0 c0 k0).binds (ps := P_is_sign) fun _ _ _ _ _ _ us hl => match us, hl with | [_], _ => rfl
    a_has_signs := f1
    fd_has_signs := _
    g_has_signs := PySem.W.mg_of X G a1
    k_has_signs := k1
    F_has_signs := fun_mk (st := s_has_signs) l1 c1 k1
    b_has_signs := (fun_mk (st := s_has_signs) l1 c1 k1).binds (ps := P_has_signs) fun _ _ _ _ _ _ us hl => match us, hl with | [_, _], _ => rfl
    a_is_word := f2
    fd_is_word := _
    g_is_word := PySem.W.mg_of X G a2
    k_is_word := k2
    F_is_word := fun_mk (st := s_is_word) l2 c2 k2
    b_is_word := (fun_mk (st := s_is_word) l2 c2 k2).binds (ps := P_is_word) fun _ _ _ _ _ _ us hl => match us, hl with | [_], _ => rfl
    a_is_name := f3
    fd_is_name := _
    g_is_name := PySem.W.mg_of X G a3
    k_is_name := k3
    F_is_name := fun_mk (st := s_is_name) l3 c3 k3
    b_is_name := (fun_mk (st := s_is_name) l3 c3 k3).binds (ps := P_is_name) fun _ _ _ _ _ _ us hl => match us, hl with | [_], _ => rfl
    a_law_bag := f4
    fd_law_bag := _
    g_law_bag := PySem.W.mg_of X G a4
    k_law_bag := k4
    F_law_bag := fun_mk (st := s_law_bag) l4 c4 k4
    b_law_bag := (fun_mk (st := s_law_bag) l4 c4 k4).binds (ps := P_law_bag) fun _ _ _ _ _ _ us hl => match us, hl with | [_, _], _ => rfl
    a_law_take := f5
    fd_law_take := _
    g_law_take := PySem.W.mg_of X G a5
    k_law_take := k5
    F_law_take := fun_mk (st := s_law_take) l5 c5 k5
    b_law_take := (fun_mk (st := s_law_take) l5 c5 k5).binds (ps := P_law_take) fun _ _ _ _ _ _ us hl => match us, hl with | [_, _], _ => rfl
    a_law_any := f6
    fd_law_any := _
    g_law_any := PySem.W.mg_of X G a6
    k_law_any := k6
    F_law_any := fun_mk (st := s_law_any) l6 c6 k6
    b_law_any := (fun_mk (st := s_law_any) l6 c6 k6).binds (ps := P_law_any) fun _ _ _ _ _ _ us hl => match us, hl with | [_], _ => rfl
    a_law_right := f7
    fd_law_right := _
    g_law_right := PySem.W.mg_of X G a7
    k_law_right := k7
    F_law_right := fun_mk (st := s_law_right) l7 c7 k7
    b_law_right := (fun_mk (st := s_law_right) l7 c7 k7).binds (ps := P_law_right) fun _ _ _ _ _ _ us hl => match us, hl with | [_, _], _ => rfl
    a_law := fa
    fd_law := _
    g_law := PySem.W.mg_of X G a8
    k_law := k8
    F_law := fun_mk (st := s_law) l8 c8 k8
    b_law := (fun_mk (st := s_law) l8 c8 k8).binds (ps := P_law) fun _ _ _ _ _ _ us hl => match us, hl with | [_], _ => rfl
    u_LETTERS := u0
    g_LETTERS := PySem.W.mg_of X G v0
    r_LETTERS := r0
    u_CAPITALS := u1
    g_CAPITALS := PySem.W.mg_of X G v1
    r_CAPITALS := r1
    u_OTHERS := u2
    g_OTHERS := PySem.W.mg_of X G v2
    r_OTHERS := r2
    u_MOST_NAME := u3
    g_MOST_NAME := PySem.W.mg_of X G v3
    r_MOST_NAME := r3
    u_MOST_WORD := u4
    g_MOST_WORD := PySem.W.mg_of X G v4
    r_MOST_WORD := r4
    n_abs := PySem.W.mg_none_of X G z0
    n_all := PySem.W.mg_none_of X G z1
    n_isinstance := PySem.W.mg_none_of X G z2
    n_len := PySem.W.mg_none_of X G z3
    n_max := PySem.W.mg_none_of X G z4
    n_min := PySem.W.mg_none_of X G z5
    n_range := PySem.W.mg_none_of X G z6
    n_repr := PySem.W.mg_none_of X G z7
    n_str := PySem.W.mg_none_of X G z8 }
  exact ⟨T.fd_law, fun s v => .of_eq rfl, fun base _ _ => ok_law T⟩
end Nm
open PySem PySem.W PyProof.Rows
set_option maxRecDepth 100000 in
set_option maxHeartbeats 0 in
theorem PySem.Challenge.cw_namesone_k01_signs_words_names_holds : PySem.Challenge.rw_namesone_k01_signs_words_names.Holds := by
  w_on; o_law; k_head; (case hw => w_witness2)
  k_fill
  refine Nm.walkG (l := PySem.Challenge.rw_namesone_k01_signs_words_names) (n := 63) (k := 5) (x := "_law_script") (sp := Nm.spLaw) rfl (by decide) rfl ⟨rfl, by decide, by decide⟩ (fun w h Y => PySem.W.kIn_of Y) ?F (fun K H a ns hl _ hS => ⟨a, ns, rfl, hS, hl, fun _ => rfl⟩)
  case F =>
    intro w mg fa h KX G hmg
    refine' Nm.fin KX G hmg ?a0 ?l0 ?c0 ?k0 ?a1 ?l1 ?c1 ?k1 ?a2 ?l2 ?c2 ?k2 ?a3 ?l3 ?c3 ?k3 ?a4 ?l4 ?c4 ?k4 ?a5 ?l5 ?c5 ?k5 ?a6 ?l6 ?c6 ?k6 ?a7 ?l7 ?c7 ?k7 ?a8 ?l8 ?c8 ?k8 ?v0 ?r0 ?v1 ?r1 ?v2 ?r2 ?v3 ?r3 ?v4 ?r4 ?z0 ?z1 ?z2 ?z3 ?z4 ?z5 ?z6 ?z7 ?z8
    (case a0 => k_is)
    (case l0 => k_is)
    (case c0 => k_is)
    (case k0 => k_is)
    (case a1 => k_is)
    (case l1 => k_is)
    (case c1 => k_is)
    (case k1 => k_is)
    (case a2 => k_is)
    (case l2 => k_is)
    (case c2 => k_is)
    (case k2 => k_is)
    (case a3 => k_is)
    (case l3 => k_is)
    (case c3 => k_is)
    (case k3 => k_is)
    (case a4 => k_is)
    (case l4 => k_is)
    (case c4 => k_is)
    (case k4 => k_is)
    (case a5 => k_is)
    (case l5 => k_is)
    (case c5 => k_is)
    (case k5 => k_is)
    (case a6 => k_is)
    (case l6 => k_is)
    (case c6 => k_is)
    (case k6 => k_is)
    (case a7 => k_is)
    (case l7 => k_is)
    (case c7 => k_is)
    (case k7 => k_is)
    (case a8 => k_is)
    (case l8 => k_is)
    (case c8 => k_is)
    (case k8 => k_is)
    (case v0 => k_is)
    (case r0 => exact ⟨_, rfl⟩)
    (case v1 => k_is)
    (case r1 => exact ⟨_, rfl⟩)
    (case v2 => k_is)
    (case r2 => exact ⟨_, rfl⟩)
    (case v3 => k_is)
    (case r3 => exact ⟨_, rfl⟩)
    (case v4 => k_is)
    (case r4 => exact ⟨_, rfl⟩)
    (case z0 => k_is)
    (case z1 => k_is)
    (case z2 => k_is)
    (case z3 => k_is)
    (case z4 => k_is)
    (case z5 => k_is)
    (case z6 => k_is)
    (case z7 => k_is)
    (case z8 => k_is)
#print axioms PySem.Challenge.cw_namesone_k01_signs_words_names_holds

