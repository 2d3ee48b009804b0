import PyProof.Rows.All
import Wide.All
import OpenK.AllK
import Wide.FinOn
import HandS.GenYield
import HandS.GenList
import HandS.ForMost
import HandS.IsInst
import HandS.TupAny
import HandS.Walk
import HandS.Ends
import HandS.RaiseMore
import PyProof.StrLawsRepr
import HandS.Star
import HandS.More
import PyProof.ListStr
import HandS.ExcValue
import KE.KUnpackStar
import HandS.ExcOwn
import HandS.Evl
import PyProof.ReprLoop
import PyProof.P3Eq
import HandS.SetTxt0
import HandS.SetFor
import HandS.SortInts
import PyProof.Rows.SortKeyStr
import PyProof.Rows.SortShellAny
import PyProof.Draws
import PyProof.ZipIter
import PyProof.EnumMake
import PyProof.EnumFor
import HandS.Style
import HandS.Property
import PyProof.Rows.StrRev
import PyProof.Rows.RegReprOcc
import HandS.ExcInit
import HandS.ExcField
import HandS.ExcIs
import KE.KExcIs
import HandS.WordsExc
import KE.KDictList
import PyProof.SetRoads
import HandS.TupLe
import HandS.ClsMeth
import HandS.SlotsOwn
import KE.KCallOwn
import OpenK.KOps
import OpenK.KOwn
import PyProof.InstNe
import PyProof.InstEq
import HandS.DictEq
import HandS.FStr
import HandS.Finally
import KE.KEqNest
import PyProof.FString3
import KE.KeyNested
import HandS.DictTup
import HandS.Spec
import PyProof.NeKinds
import HandS.Defaults
import KE.SortKeyHeap
import HandS.SortKw
import HandS.SetKeys
import PyProof.ExcBaseAll.OverflowError
import HandS.TryOnly
import PyProof.Conv_int_bool
import HandS.Deep
import HandS.Flow
import PySem.Challenge.RW_namesone_k47_orders_of_programs
set_option Elab.async false
set_option linter.all false
set_option maxRecDepth 100000
set_option maxHeartbeats 2000000
/-! What code does while some generators sleep: those that sleep at the beginning and cannot be woken are as they were. -/
namespace Nm
open PySem
open Sem (wp)

/-- a sleeper that nobody can wake -/
def stk : GenState → GenState
  | .suspended _ l c p fs cl => .suspended (fun _ => .unsupported "") l c p fs cl
  | .fresh c => .fresh c
  | .running => .running
  | .finished => .finished
def slp : GenState → Bool
  | .suspended .. => true
  | _ => false
def okF (fs : List Frame) : Prop := ∀ f ∈ fs, ∀ g k l c p, f ≠ Frame.gen g k l c p
def okSt : GenState → Prop
  | .suspended _ _ _ _ fs _ => okF fs
  | _ => True
def okE : End → Prop
  | .susp _ _ _ _ _ _ fs => okF fs
  | .ret _ => True
def slpAt (G : Array GenState) (i : Nat) : Prop := ∃ y, G[i]? = some y ∧ slp y = true
structure Hid (G a : Array GenState) : Prop where
  sz : G.size ≤ a.size
  st : ∀ (i : Nat) y, G[i]? = some y → slp y = true → a[i]? = some (stk y)
  ok : ∀ (i : Nat) x, a[i]? = some x → ¬ slpAt G i → okSt x
/-- the true ones -/
def tru (G a : Array GenState) : Array GenState := a.mapIdx fun i x => match G[i]? with
  | some y => if slp y = true then y else x
  | none => x
theorem tru_size (G a : Array GenState) : (tru G a).size = a.size := by unfold tru; simp
theorem tru_get (G a : Array GenState) (i : Nat) : (tru G a)[i]? = (a[i]?).map fun x => match G[i]? with
    | some y => if slp y = true then y else x
    | none => x := by unfold tru; simp
theorem tru_not {G a : Array GenState} {i : Nat} (h : ¬ slpAt G i) : (tru G a)[i]? = a[i]? := by
  rw [tru_get]
  cases ha : a[i]? with
  | none => rfl
  | some x =>
    show some _ = some _
    congr 1
    cases hg : G[i]? with
    | none => rfl
    | some y =>
      dsimp only
      by_cases hs : slp y = true
      · exact absurd ⟨y, hg, hs⟩ h
      · rw [if_neg hs]
theorem tru_at {G a : Array GenState} {i : Nat} {y : GenState} (h : Hid G a) (hg : G[i]? = some y) (hs : slp y = true) : (tru G a)[i]? = some y := by
  rw [tru_get, h.st i y hg hs]
  show some _ = some _
  rw [hg]
  dsimp only
  rw [if_pos hs]
theorem arr_ext {a b : Array GenState} (h : ∀ i : Nat, a[i]? = b[i]?) : a = b := Array.ext_getElem? h
theorem tru_push (G a : Array GenState) (x : GenState) (h : G.size ≤ a.size) : tru G (a.push x) = (tru G a).push x := by
  refine arr_ext fun i => ?_
  rw [tru_get, Array.getElem?_push, Array.getElem?_push, tru_size]
  by_cases z : i = a.size
  · rw [if_pos z, if_pos z]
    have : G[i]? = none := Array.getElem?_eq_none_iff.mpr (by omega)
    rw [this]; rfl
  · rw [if_neg z, if_neg z, tru_get]
theorem tru_set {G a : Array GenState} {g : Nat} {x : GenState} (h : ¬ slpAt G g) : tru G (a.setIfInBounds g x) = (tru G a).setIfInBounds g x := by
  refine arr_ext fun i => ?_
  by_cases z : g = i
  · subst z
    rw [tru_not h, Array.getElem?_setIfInBounds_self, Array.getElem?_setIfInBounds_self, tru_size]
  · rw [tru_get, Array.getElem?_setIfInBounds_ne z, Array.getElem?_setIfInBounds_ne z, tru_get]
theorem Hid.push {G a : Array GenState} {c : Code} (h : Hid G a) : Hid G (a.push (.fresh c)) := by
  refine ⟨by rw [Array.size_push]; have := h.sz; omega, fun i y hg hs => ?_, fun i x hx hn => ?_⟩
  · have hi : i < G.size := (Array.getElem?_eq_some_iff.mp hg).1
    have := h.sz
    rw [Array.getElem?_push, if_neg (by omega)]
    exact h.st i y hg hs
  · rw [Array.getElem?_push] at hx
    split at hx
    · cases hx; trivial
    · exact h.ok i x hx hn
theorem Hid.set {G a : Array GenState} {g : Nat} {x : GenState} (h : Hid G a) (hn : ¬ slpAt G g) (hx : okSt x) : Hid G (a.setIfInBounds g x) := by
  refine ⟨by rw [Array.size_setIfInBounds]; exact h.sz, fun i y hg hs => ?_, fun i z hz hni => ?_⟩
  · have : g ≠ i := fun e => hn (by rw [e]; exact ⟨y, hg, hs⟩)
    rw [Array.getElem?_setIfInBounds_ne this]
    exact h.st i y hg hs
  · by_cases e : g = i
    · subst e
      rw [Array.getElem?_setIfInBounds_self] at hz
      split at hz
      · cases hz; exact hx
      · cases hz
    · rw [Array.getElem?_setIfInBounds_ne e] at hz
      exact h.ok i z hz hni
theorem okF_nil : okF [] := fun f hf => absurd hf (by simp)
theorem okF_app {a b : List Frame} (h1 : okF a) (h2 : okF b) : okF (a ++ b) := fun f hf => (List.mem_append.mp hf).elim (h1 f) (h2 f)
theorem okF_ret {k h g l c p kp} {fs : List Frame} (h2 : okF fs) : okF (.ret k h g l c p kp :: fs) := fun f hf => by
  rcases List.mem_cons.mp hf with rfl | hf
  · intro _ _ _ _ _ z; cases z
  · exact h2 f hf
theorem okF_tail {f : Frame} {fs : List Frame} (h : okF (f :: fs)) : okF fs := fun x hx => h x (List.mem_cons_of_mem _ hx)
theorem split_ok : ∀ {fs : List Frame}, okF fs → splitAtGen fs = none
  | [], _ => rfl
  | .ret .. :: fs, h => by
    show (splitAtGen fs).map _ = none
    rw [split_ok (okF_tail h)]; rfl
  | .gen .. :: fs, h => absurd rfl (h _ List.mem_cons_self _ _ _ _ _)
/-- the state as it truly is -/
def real (G : Array GenState) (s : Shared) : Shared := { s with gens := tru G s.gens }
theorem real_set {G : Array GenState} {s : Shared} {g : Nat} {x : GenState} (h : ¬ slpAt G g) : real G (s.setGen g x) = (real G s).setGen g x := by
  show ({ s with gens := tru G (s.gens.setIfInBounds g x) } : Shared) = { s with gens := (tru G s.gens).setIfInBounds g x }
  rw [tru_set h]
theorem seen_stk (y : GenState) : (stk y).seen = y.seen := by cases y <;> rfl
theorem stuck0 {M : Model} {Γ : Ctx} {p : Pos} {w : String} {s s' : Shared} {e : End} (h : Runs M Γ p (.unsupported w) [] s e s') : False := by cases h
theorem stuck {M : Model} {Γ : Ctx} {p : Pos} {w : String} {fs : List Frame} {s s' : Shared} {e : End} (h : Runs M Γ p (.unsupported w) fs s e s') : False := by
  cases h with
  | segRet h _ => exact stuck0 h
  | segGen h _ => exact stuck0 h
  | segSuspOut _ h => exact stuck0 h
  | segSuspGen _ h _ _ => exact stuck0 h
theorem end_ok {e : End} (h : okE e) : okSt e.genState := by
  cases e with
  | ret r => trivial
  | susp => exact h
section
variable {M : Model} {G : Array GenState}
theorem not_slp {a : Array GenState} {g : Nat} {x : GenState} (h : Hid G a) (ha : a[g]? = some x) (hx : slp x = false) : ¬ slpAt G g := fun ⟨y, hy, hs⟩ => by
  have := h.st g y hy hs
  rw [ha] at this
  cases this
  cases y <;> simp_all [slp, stk]
theorem stuck_at {a : Array GenState} {g : Nat} {k l c p fs cl} (h : Hid G a) (q : a[g]? = some (.suspended k l c p fs cl)) (hs : slpAt G g) {Γ : Ctx} {r : Resume} {fs' : List Frame} {p' : Pos} {s s' : Shared} {e : End} : ¬ Runs M Γ p' (k r) fs' s e s' := fun h1 => by
  obtain ⟨u, hu, hsu⟩ := hs
  have e1 := h.st g u hu hsu
  rw [q] at e1
  cases u with
  | suspended =>
    have e2 := Option.some.inj e1
    simp only [stk] at e2
    injection e2 with e3
    subst e3
    exact stuck h1
  | _ => cases hsu
theorem get_real {s : Shared} {g : Nat} {x : GenState} (hn : ¬ slpAt G g) (q : s.gens[g]? = some x) : (real G s).gens[g]? = some x := by
  show (tru G s.gens)[g]? = _
  rw [tru_not hn]; exact q
theorem seen_real {s : Shared} {g : Nat} {x : GenState} (a : Hid G s.gens) (q : s.gens[g]? = some x) : ∃ y, (real G s).gens[g]? = some y ∧ y.seen = x.seen := by
  by_cases hs : slpAt G g
  · obtain ⟨u, hu, hsu⟩ := hs
    have e1 := a.st g u hu hsu
    rw [q] at e1
    cases e1
    exact ⟨u, tru_at a hu hsu, (seen_stk u).symm⟩
  · exact ⟨x, get_real hs q, rfl⟩
theorem slp_or {s : Shared} {g : Nat} {x : GenState} (_ : s.gens[g]? = some x) : slpAt G g ∨ ¬ slpAt G g := Classical.em _
theorem size_real {s : Shared} : (real G s).gens.size = s.gens.size := tru_size _ _
theorem new_real {s : Shared} {c : Code} (a : Hid G s.gens) : real G { s with gens := s.gens.push (.fresh c) } = { real G s with gens := (real G s).gens.push (.fresh c) } := by
  show ({ s with gens := tru G (s.gens.push (.fresh c)) } : Shared) = { s with gens := (tru G s.gens).push (.fresh c) }
  rw [tru_push _ _ _ a.sz]
theorem runs_real {Γ : Ctx} {p : Pos} {t : Sem PySem.Fin} {fs : List Frame} {s s' : Shared} {e : End} (h : Runs M Γ p t fs s e s') : Hid G s.gens → okF fs → Hid G s'.gens ∧ okE e ∧ Runs M Γ p t fs (real G s) e (real G s') := by
  induction h with
  | done => exact fun a _ => ⟨a, trivial, .done⟩
  | raise => exact fun a _ => ⟨a, trivial, .raise⟩
  | again q _ ih => exact fun a _ => let ⟨x, y, z⟩ := ih a okF_nil; ⟨x, y, .again q z⟩
  | rule _ ih => exact fun a _ => let ⟨x, y, z⟩ := ih a okF_nil; ⟨x, y, .rule z⟩
  | «at» _ ih => exact fun a _ => let ⟨x, y, z⟩ := ih a okF_nil; ⟨x, y, .at z⟩
  | load q _ ih => exact fun a _ => let ⟨x, y, z⟩ := ih a okF_nil; ⟨x, y, .load q z⟩
  | update q _ ih => exact fun a _ => let ⟨x, y, z⟩ := ih a okF_nil; ⟨x, y, .update q z⟩
  | loadIfAlive _ ih => exact fun a _ => let ⟨x, y, z⟩ := ih a okF_nil; ⟨x, y, .loadIfAlive z⟩
  | point _ ih => exact fun a _ => let ⟨x, y, z⟩ := ih a okF_nil; ⟨x, y, .point z⟩
  | alloc _ ih => exact fun a _ => let ⟨x, y, z⟩ := ih a okF_nil; ⟨x, y, .alloc z⟩
  | fresh _ ih => exact fun a _ => let ⟨x, y, z⟩ := ih a okF_nil; ⟨x, y, .fresh z⟩
  | ask _ ih => exact fun a _ => let ⟨x, y, z⟩ := ih a okF_nil; ⟨x, y, .ask z⟩
  | choose q _ ih => exact fun a _ => let ⟨x, y, z⟩ := ih a okF_nil; ⟨x, y, .choose q z⟩
  | os _ ih => exact fun a _ => let ⟨x, y, z⟩ := ih a okF_nil; ⟨x, y, .os z⟩
  | handled _ ih => exact fun a _ => let ⟨x, y, z⟩ := ih a okF_nil; ⟨x, y, .handled z⟩
  | genState q _ ih =>
    intro a _
    obtain ⟨x, y, z⟩ := ih a okF_nil
    obtain ⟨u, hu, hs⟩ := seen_real a q
    rw [← hs] at z
    exact ⟨x, y, .genState hu z⟩
  | stack _ ih => exact fun a _ => let ⟨x, y, z⟩ := ih a okF_nil; ⟨x, y, .stack z⟩
  | thread _ ih => exact fun a _ => let ⟨x, y, z⟩ := ih a okF_nil; ⟨x, y, .thread z⟩
  | newGen _ ih =>
    intro a _
    obtain ⟨x, y, z⟩ := ih a.push okF_nil
    rw [(new_real a)] at z
    refine ⟨x, y, .newGen ?_⟩
    rw [size_real]
    exact z
  | call _ _ ih1 ih2 =>
    intro a _
    obtain ⟨x, _, z⟩ := ih1 a okF_nil
    obtain ⟨x2, y2, z2⟩ := ih2 x okF_nil
    exact ⟨x2, y2, .call z z2⟩
  | callSusp _ ih =>
    intro a _
    obtain ⟨x, y, z⟩ := ih a okF_nil
    exact ⟨x, okF_app y (okF_ret okF_nil), .callSusp z⟩
  | yield => exact fun a _ => ⟨a, okF_nil, .yield⟩
  | resumeFresh q _ hq _ ih1 ih2 =>
    intro a _
    have hn := not_slp a q rfl
    obtain ⟨x, y, z⟩ := ih1 (a.set hn trivial) okF_nil
    obtain ⟨x2, y2, z2⟩ := ih2 (x.set hn (end_ok y)) okF_nil
    rw [real_set hn] at z z2
    exact ⟨x2, y2, .resumeFresh (get_real hn q) z hq z2⟩
  | resumeSuspended q h1 hq _ ih1 ih2 =>
    intro a _
    rcases slp_or (G := G) q with hs | hs
    · exact absurd h1 (stuck_at a q hs)
    · obtain ⟨x, y, z⟩ := ih1 (a.set hs trivial) (a.ok _ _ q hs)
      obtain ⟨x2, y2, z2⟩ := ih2 (x.set hs (end_ok y)) okF_nil
      rw [real_set hs] at z z2
      exact ⟨x2, y2, .resumeSuspended (get_real hs q) z hq z2⟩
  | resumeJustStarted q hv _ ih =>
    intro a _
    obtain ⟨x, y, z⟩ := ih a okF_nil
    exact ⟨x, y, .resumeJustStarted (get_real (not_slp a q rfl) q) hv z⟩
  | resumeThrowFresh q _ ih =>
    intro a _
    have hn := not_slp a q rfl
    obtain ⟨x, y, z⟩ := ih (a.set hn trivial) okF_nil
    rw [real_set hn] at z
    exact ⟨x, y, .resumeThrowFresh (get_real hn q) z⟩
  | resumeRunning q _ ih =>
    intro a _
    obtain ⟨x, y, z⟩ := ih a okF_nil
    exact ⟨x, y, .resumeRunning (get_real (not_slp a q rfl) q) z⟩
  | resumeFinished q _ ih =>
    intro a _
    obtain ⟨x, y, z⟩ := ih a okF_nil
    exact ⟨x, y, .resumeFinished (get_real (not_slp a q rfl) q) z⟩
  | segRet _ _ ih1 ih2 =>
    intro a b
    obtain ⟨x, _, z⟩ := ih1 a okF_nil
    obtain ⟨x2, y2, z2⟩ := ih2 x (okF_tail b)
    exact ⟨x2, y2, .segRet z z2⟩
  | segGen _ _ _ _ => exact fun _ b => absurd rfl (b _ List.mem_cons_self _ _ _ _ _)
  | segSuspOut q _ ih =>
    intro a b
    obtain ⟨x, y, z⟩ := ih a okF_nil
    exact ⟨x, okF_app y b, .segSuspOut q z⟩
  | segSuspGen q _ _ _ _ _ =>
    intro a b
    rw [split_ok b] at q
    cases q
theorem wakes_real {Γ : Ctx} {p : Pos} {g : Nat} {r : Resume} {s s' : Shared} {res : GenResult} (h : Wakes M Γ p g r s res s') (a : Hid G s.gens) : Hid G s'.gens ∧ Wakes M Γ p g r (real G s) res (real G s') := by
  unfold Wakes at h ⊢
  have real_get : ¬ slpAt G g → (real G s).gens[g]? = s.gens[g]? := fun hn => tru_not hn
  split at h
  · exact h.elim
  · rename_i c q
    have hn := not_slp a q rfl
    rw [real_get hn, q]
    dsimp only
    split at h
    · obtain ⟨e₁, s₁, hr, hq, hres, rfl⟩ := h
      obtain ⟨x, y, z⟩ := runs_real hr (a.set hn trivial) okF_nil
      rw [real_set hn] at z
      exact ⟨x.set hn (end_ok y), e₁, real G s₁, z, hq, hres, by rw [real_set hn]⟩
    · obtain ⟨h1, rfl⟩ := h
      exact ⟨a, h1, rfl⟩
    · obtain ⟨h1, rfl⟩ := h
      exact ⟨a.set hn trivial, h1, by rw [real_set hn]⟩
  · rename_i k₀ l₀ c₀ p₀ fs cl q
    obtain ⟨e₁, s₁, hr, hq, hres, rfl⟩ := h
    by_cases hs : slpAt G g
    · exact absurd hr (stuck_at a q hs)
    · rw [real_get hs, q]
      dsimp only
      obtain ⟨x, y, z⟩ := runs_real hr (a.set hs trivial) (a.ok g _ q hs)
      rw [real_set hs] at z
      exact ⟨x.set hs (end_ok y), e₁, real G s₁, z, hq, hres, by rw [real_set hs]⟩
  · rename_i q
    have hn := not_slp a q rfl
    rw [real_get hn, q]
    obtain ⟨h1, rfl⟩ := h
    exact ⟨a, h1, rfl⟩
  · rename_i q
    have hn := not_slp a q rfl
    rw [real_get hn, q]
    obtain ⟨h1, rfl⟩ := h
    exact ⟨a, h1, rfl⟩
theorem wp_real {α : Type} (Γ : Ctx) (t : Sem α) : ∀ (Q : α → Pos → Shared → Prop) (E : Value → Pos → Shared → Prop) (p : Pos) (s : Shared), Hid G s.gens → wp M Γ t Q E p s →
    wp M Γ t (fun x p' s' => ∃ s1, s' = real G s1 ∧ Hid G s1.gens ∧ Q x p' s1) (fun x p' s' => ∃ s1, s' = real G s1 ∧ Hid G s1.gens ∧ E x p' s1) p (real G s) := by
  induction t with
  | pure a => exact fun Q E p s a h => ⟨s, rfl, a, h⟩
  | raise e => exact fun Q E p s a h => ⟨s, rfl, a, h⟩
  | unsupported _ => exact fun Q E p s _ h => h
  | finish _ => exact fun Q E p s _ h => h
  | rule _ k ih => exact fun Q E p s a h => ih () Q E p s a h
  | «at» p' k ih => exact fun Q E p s a h => ih () Q E p' s a h
  | load b _ k ih => exact fun Q E p s a ⟨o, ho, h⟩ => ⟨o, ho, ih o Q E p s a h⟩
  | update b _ f k ih => exact fun Q E p s a h => ⟨h.1, ih () Q E p { s with heap := s.heap.update b f } a h.2⟩
  | loadIfAlive b k ih => exact fun Q E p s a h => ih _ Q E p s a h
  | point _ k ih => exact fun Q E p s a h => ih () Q E p s a h
  | register _ _ => exact fun Q E p s _ h => h
  | alloc o k ih => exact fun Q E p s a h => ih s.heap.objs.size Q E p { s with heap := s.heap.push o } a h
  | fresh k ih => exact fun Q E p s a h => ih s.toks Q E p { s with toks := s.toks + 1 } a h
  | ask k ih => exact fun Q E p s a h => ih _ Q E p s a h
  | choose src m k ih => exact fun Q E p s a h => ⟨h.1, ih _ Q E p { s with drawn := s.drawn.bump src } a h.2⟩
  | os q _ k ih => exact fun Q E p s a h => ih _ Q E p { s with os := (Os.step s.os q).1 } a h
  | call c hd _ _ k ih =>
    intro Q E p s a h
    obtain ⟨r, s', hr, h⟩ := h
    obtain ⟨x, _, z⟩ := runs_real hr a okF_nil
    exact ⟨r, real G s', z, ih r Q E p s' x h⟩
  | handled own k ih => exact fun Q E p s a h => ih _ Q E p s a h
  | genState g k ih =>
    intro Q E p s a h
    obtain ⟨st, hs, h⟩ := h
    obtain ⟨u, hu, hse⟩ := seen_real a hs
    rw [← hse] at h
    exact ⟨u, hu, ih _ Q E p s a h⟩
  | newGen c k ih =>
    intro Q E p s a h
    have z := ih _ Q E p _ (a.push (c := c)) h
    rw [(new_real a)] at z
    show wp M Γ (k (real G s).gens.size) _ _ p _
    rw [size_real]
    exact z
  | resume g r _ k ih =>
    intro Q E p s a h
    obtain ⟨res, s', hw, h⟩ := h
    obtain ⟨x, z⟩ := wakes_real hw a
    exact ⟨res, real G s', z, ih res Q E p s' x h⟩
  | yield _ _ _ _ => exact fun Q E p s _ h => h
  | stack k ih => exact fun Q E p s a h => ih _ Q E p s a h
  | fork _ _ => exact fun Q E p s _ h => h
  | thread k ih => exact fun Q E p s a h => ih _ Q E p s a h
  | await _ _ _ _ _ => exact fun Q E p s _ h => h
end
theorem hid_self (G : Array GenState) : Hid G (G.map stk) := by
  refine ⟨by simp, fun i y hg _ => by simp [hg], fun i x hx hn => ?_⟩
  rw [Array.getElem?_map] at hx
  obtain ⟨y, hy, rfl⟩ := Option.map_eq_some_iff.mp hx
  cases y with
  | suspended => exact absurd ⟨_, hy, rfl⟩ hn
  | _ => trivial
theorem tru_self (G : Array GenState) : tru G (G.map stk) = G := by
  refine arr_ext fun i => ?_
  rw [tru_get, Array.getElem?_map]
  cases h : G[i]? with
  | none => rfl
  | some y =>
    show some _ = some _
    dsimp only
    cases y <;> rfl
/-- code that is run while generators sleep leaves the sleepers -/
theorem wpAny_sleepers {M : Model} {A : Around} {α : Type} {t : Sem α} {Q : α → Shared → Prop} {E : Value → Shared → Prop} {s : Shared} (h : wpAny M A t Q E { s with gens := s.gens.map stk }) :
    wpAny M A t (fun x s' => ∃ s1, s' = real s.gens s1 ∧ Hid s.gens s1.gens ∧ Q x s1) (fun x s' => ∃ s1, s' = real s.gens s1 ∧ Hid s.gens s1.gens ∧ E x s1) s := by
  intro Γ p hΓ
  have z := wp_real (G := s.gens) Γ t _ _ p _ (hid_self s.gens) (h Γ p hΓ)
  have e : real s.gens { s with gens := s.gens.map stk } = s := by
    show ({ s with gens := tru s.gens (s.gens.map stk) } : Shared) = s
    rw [tru_self]
  rw [e] at z
  exact z
theorem bare_stk {y : GenState} (h : y.bare = true) : (stk y).bare = true := by cases y <;> exact h
theorem allBare_map {G : Array GenState} (h : PyProof.Rows.AllBare G) : PyProof.Rows.AllBare (G.map stk) := fun y hy => by
  obtain ⟨x, hx, rfl⟩ := Array.mem_map.mp hy
  exact bare_stk (h x hx)
theorem allBare_tru {G a : Array GenState} (h : PyProof.Rows.AllBare G) (ha : PyProof.Rows.AllBare a) : PyProof.Rows.AllBare (tru G a) := fun y hy => by
  obtain ⟨i, hi⟩ := Array.getElem?_of_mem hy
  rw [tru_get] at hi
  obtain ⟨x, hx, e⟩ := Option.map_eq_some_iff.mp hi
  subst e
  cases hg : G[i]? with
  | none => exact ha x (Array.mem_of_getElem? hx)
  | some z =>
    dsimp only
    split
    · exact h z (Array.mem_of_getElem? hg)
    · exact ha x (Array.mem_of_getElem? hx)
end Nm

set_option Elab.async false
set_option linter.all false
set_option maxRecDepth 100000
set_option maxHeartbeats 2000000
/-! A generator def's body that is woken by a consumer who goes on with its own work: each waking is read as a call. -/
namespace Nm
open PySem PySem.Spec L2 PyProof.Rows GenW

/-! ### the first objects of a heap -/
def cutH (h : Heap) (L : Nat) : Heap := { h with objs := h.objs.extract 0 L }
theorem cutH_get {h : Heap} {L b : Nat} : (cutH h L).get? b = if b < L then h.get? b else none := by
  unfold cutH Heap.get?
  dsimp only
  by_cases hb : b < L
  · rw [if_pos hb]
    have : (h.objs.extract 0 L)[b]? = h.objs[b]? := by
      rw [Array.getElem?_extract]
      by_cases hs : b < h.objs.size
      · rw [if_pos (by omega)]; congr 1; omega
      · rw [if_neg (by omega), Array.getElem?_eq_none_iff.mpr (by omega)]
    rw [this]
  · rw [if_neg hb]
    have : (h.objs.extract 0 L)[b]? = none := by
      rw [Array.getElem?_extract, if_neg (by omega)]
    rw [this]
theorem cutH_lt {h : Heap} {L b : Nat} (hb : b < L) : (cutH h L).get? b = h.get? b := by rw [cutH_get, if_pos hb]
theorem of_cutH {h : Heap} {L b : Nat} {o : Obj} (e : (cutH h L).get? b = some o) : b < L ∧ h.get? b = some o := by
  rw [cutH_get] at e
  split at e
  · exact ⟨by assumption, e⟩
  · cases e
theorem cutH_size {h : Heap} {L : Nat} (hL : L ≤ h.objs.size) : (cutH h L).objs.size = L := by
  unfold cutH
  dsimp only
  rw [Array.size_extract]; omega

/-- the context behind a waking: what stood below the frame is as at the waking -/
abbrev reC (X : Cx) (s : Shared) (H : Hp) : Cx := { X with s_0 := { s with heap := cutH s.heap X.env.locals }, H_0 := H }
/-- the generator's own objects are as they were -/
def Kept (X : Cx) (s s2 : Shared) : Prop := ∀ b, (b = X.env.locals ∨ (∃ x, X.env.cells.lookup x = some b) ∨ ∃ p ∈ X.pn, p.1 = b) → ∀ o, s.heap.get? b = some o → s2.heap.get? b = some o
/-- .. and none of the consumer's -/
def Off (X : Cx) (H : Hp) : Prop := H X.env.locals = none ∧ (∀ x c, X.env.cells.lookup x = some c → H c = none) ∧ ∀ p ∈ X.pn, H p.1 = none
/-- what is known of the frame for good -/
structure GOk (X : Cx) : Prop where
  cells : ∀ x c, X.env.cells.lookup x = some c → X.env.locals ≤ c
  ex : X.ex = []
  calm : ∀ e s, ¬ X.xe e s
theorem inv_wake {X : Cx} {B : Around} {s₀ s s2 : Shared} {H₀ H1 H2 : Hp} {σ : L2.St} (g : GOk X) (I : Inv (reC X s₀ H₀) [] σ H1 s) (e0 : Env0 X.prog X.w X.K X.mg X.base B X.outer s2 H2) (hk : Kept X s s2) (ho : Off X H2) : Inv (reC X s2 H2) [] σ H2 s2 := by
  have ok := I.ok
  have noex : ∀ b : Addr, b ∉ X.ex := fun b hb => by rw [g.ex] at hb; cases hb
  have Lt : X.env.locals < s.heap.objs.size := I.lt
  have hL : s.heap.get? X.env.locals ≠ none := by
    obtain ⟨m, ⟨o, _, _, h, _⟩, _⟩ := I.loc
    have h : s.heap.get? X.env.locals = some o := h
    rw [h]; exact fun z => nomatch z
  obtain ⟨oL, heL⟩ := Option.ne_none_iff_exists'.mp hL
  have Lt2 : X.env.locals < s2.heap.objs.size := Heap.lt_size (hk _ (.inl rfl) _ heL)
  have sz2 : (cutH s2.heap X.env.locals).objs.size = X.env.locals := cutH_size (Nat.le_of_lt Lt2)
  have bL : X.base.objs.size ≤ X.env.locals := Nat.le_trans ok.bsz ok.above
  have frL : ∀ b ∈ frs X.outer, b < X.env.locals := fun b hb => by
    obtain ⟨_, o, h, _⟩ := ok.funs.mem hb
    exact (of_cutH h).1
  have funs : ∀ l : List Env, (∀ b ∈ frs l, b < X.env.locals) → s2.heap.FunFrames X.base l → (cutH s2.heap X.env.locals).FunFrames X.base l := by
    intro l
    induction l with
    | nil => intro _ _; trivial
    | cons e r ih =>
      intro hb hf
      obtain ⟨h1, ⟨L, o, h2, h3, h4, h5⟩, h6⟩ := hf
      have hLm : L ∈ frs (e :: r) := by unfold frs; rw [List.filterMap_cons, h2]; exact List.mem_cons_self
      refine ⟨h1, ⟨L, o, h2, h3, by rw [cutH_lt (hb L hLm)]; exact h4, h5⟩, ih (fun b hm => hb b ?_) h6⟩
      unfold frs at hm ⊢
      rw [List.filterMap_cons, h2]
      exact List.mem_cons_of_mem _ hm
  refine ⟨⟨ok.mod, ok.kind, ok.glob, ok.blt, Nat.le_of_eq sz2, ok.inj, ok.has, fun x c _ hc => ?_, ok.hd, ok.frames, ok.stk, fun b hb => absurd hb (noex b), fun b o hb => ?_, ?_, fun b _ _ => noex b, fun b hb => absurd hb (noex b), funs _ frL e0.funs, e0.frf⟩,
    rfl, e0.bare, ?_, ?_, fun x c hc => ?_, ho.1, ho.2.1, fun p hp => ?_, e0.hok, I.len⟩
  · show (cutH s2.heap X.env.locals).objs.size ≤ c
    rw [sz2]; exact g.cells x c hc
  · have hb' := e0.bs b o hb
    refine ⟨?_, hb'.2⟩
    show (cutH s2.heap X.env.locals).get? b = some o
    rw [cutH_lt (Nat.lt_of_lt_of_le (Heap.lt_size hb) bL)]; exact hb'.1
  · show X.base.objs.size ≤ (cutH s2.heap X.env.locals).objs.size
    rw [sz2]; exact bL
  · exact Un.mono (Un.kept (fs := []) (ex := []) fun b o hb => (of_cutH hb).2) (by simp) (by simp)
  · obtain ⟨m, hn, hl⟩ := I.loc
    refine ⟨m, hn.at' (hk _ (.inl rfl)), fun i x v h1 h2 h3 => ?_⟩
    obtain ⟨u, ru, hu⟩ := hl i x v h1 h2 h3
    refine ⟨u, ru, ?_⟩
    rcases hu with hu | ⟨hu, c, hc, o, ho', hd⟩
    · exact .inl hu
    · exact .inr ⟨hu, c, hc, o, hk c (.inr (.inl ⟨x, hc⟩)) o ho', hd⟩
  · obtain ⟨v, o, h1, h2⟩ := I.cell x c hc
    exact ⟨v, o, hk c (.inr (.inl ⟨x, hc⟩)) o h1, h2⟩
  · obtain ⟨h1, _, h3, h4, h5⟩ := I.pin p hp
    have hp' : p ∈ X.pn := by simpa using hp
    exact ⟨hk p.1 (.inr (.inr ⟨p, hp', rfl⟩)) _ h1, ho.2.2 p hp', h3, h4, h5⟩

/-! ### the protocol -/
/-- the consumer: what it knows when it wakes the generator (τ: its own mind); what it wants of what is handed out; n: how many more may come -/
structure GCt (X : Cx) (T : Type) where
  CI : T → Hp → Shared → Prop
  env : ∀ τ H s, CI τ H s → ∃ B, Env0 X.prog X.w X.K X.mg X.base B X.outer s H
  YP : Nat → T → V → Hp → (T → Hp → Prop) → Prop
def GYp {X : Cx} {T : Type} (C : GCt X T) : Protocol := fun m s₀ v s kap => ∃ τ H₀ σ x H1 κ, C.CI τ H₀ s₀ ∧ Inv (reC X s₀ H₀) [] σ H1 s ∧ RelV x v ∧ C.YP m τ x H1 κ ∧
  ∀ τ' H2 s2, C.CI τ' H2 s2 → Kept X s s2 → Off X H2 → κ τ' H2 → kap (.send .none) s2
/-- what is wanted behind a statement of a generator -/
structure GE (T : Type) where
  nx : Nat → T → L2.St → Hp → Prop
  rt : Nat → T → V → Hp → Prop
  bk : Nat → T → L2.St → Hp → Prop := fun _ _ _ _ => False
  ct : Nat → T → L2.St → Hp → Prop := fun _ _ _ _ => False
  yp : Nat → T → V → Hp → (T → Hp → Prop) → Prop
abbrev TGp (T : Type) := GE T → Nat → T → L2.St → Hp → Prop
def GE.at {T : Type} (D : GE T) (n : Nat) (τ : T) : Ends := { nx := D.nx n τ, rt := D.rt n τ, bk := D.bk n τ, ct := D.ct n τ }
/-- where the code stands -/
structure GPos (X : Cx) (A : Around) (c : Code) (fs : List Frame) (gd : Bool → Bool) : Prop where
  over : A.over c fs = X.A
  split : splitAtGen fs = none
  guard : fs.any Frame.guarded = false
  gd : gd false = false
structure GKon {X : Cx} {T : Type} (C : GCt X T) (A : Around) (R : GenEnd) (c : Code) (fs : List Frame) (F : Flow → Sem PySem.Fin) (D : GE T) : Prop where
  yp : D.yp = C.YP
  ok : ∀ (n : Nat) (τ : T) (s₀ : Shared) (H₀ : Hp) (s : Shared) (f : Flow), C.CI τ H₀ s₀ → SP (reC X s₀ H₀) [] (D.at n τ) f s → Seg (model X.prog X.w) A R (GYp C) n s₀ c (F f) fs s
structure GSt (X : Cx) (T : Type) (st : Stmt) (t : TGp T) : Prop where
  run : ∀ (C : GCt X T) (A : Around) (R : GenEnd) (n : Nat) (τ : T) (s₀ : Shared) (H₀ : Hp) (c : Code) (fs : List Frame) (F : Flow → Sem PySem.Fin) (J : Value → Sem PySem.Fin) (gd : Bool → Bool) (lv : List Value → List Value) (s : Shared) (σ : L2.St) (H : Hp) (D : GE T),
    GPos X A c fs gd → GKon C A R c fs F D → C.CI τ H₀ s₀ → Inv (reC X s₀ H₀) [] σ H s → t D n τ σ H → Seg (model X.prog X.w) A R (GYp C) n s₀ c ((exec st X.env).wrap F J gd lv) fs s
structure GSs (X : Cx) (T : Type) (sts : List Stmt) (t : TGp T) : Prop where
  run : ∀ (C : GCt X T) (A : Around) (R : GenEnd) (n : Nat) (τ : T) (s₀ : Shared) (H₀ : Hp) (c : Code) (fs : List Frame) (F : Flow → Sem PySem.Fin) (J : Value → Sem PySem.Fin) (gd : Bool → Bool) (lv : List Value → List Value) (s : Shared) (σ : L2.St) (H : Hp) (D : GE T),
    GPos X A c fs gd → GKon C A R c fs F D → C.CI τ H₀ s₀ → Inv (reC X s₀ H₀) [] σ H s → t D n τ σ H → Seg (model X.prog X.w) A R (GYp C) n s₀ c ((execs sts X.env).wrap F J gd lv) fs s

section
variable {X : Cx} {T : Type} {st : Stmt} {rest body orelse : List Stmt} {pos : Pos}
/-- a statement that hands out nothing -/
def tPl (t : TS) : TGp T := fun D n τ σ H => t (D.at n τ) σ H
theorem gst_ps {t : TS} (g : GOk X) (h : ∀ s₀ H₀, PS (reC X s₀ H₀) st t) : GSt X T st (tPl t) := by
  refine ⟨fun C A R n τ s₀ H₀ c fs F J gd lv s σ H D gp k ci I ht => ?_⟩
  refine seg_wrap ?_
  rw [gp.over]
  exact wpAny_mono ((h s₀ H₀).run [] s σ H (D.at n τ) I ht) (fun f s' hs => k.ok n τ s₀ H₀ s' f ci hs) fun x s' hx => absurd hx (g.calm x s')
theorem gss_pss {t : TS} (g : GOk X) (h : ∀ s₀ H₀, PSs (reC X s₀ H₀) rest t) : GSs X T rest (tPl t) := by
  refine ⟨fun C A R n τ s₀ H₀ c fs F J gd lv s σ H D gp k ci I ht => ?_⟩
  refine seg_wrap ?_
  rw [gp.over]
  exact wpAny_mono ((h s₀ H₀).run [] s σ H (D.at n τ) I ht) (fun f s' hs => k.ok n τ s₀ H₀ s' f ci hs) fun x s' hx => absurd hx (g.calm x s')
def tGn : TGp T := fun D n τ σ H => D.nx n τ σ H
theorem gss_nil : GSs X T [] tGn := ⟨fun C A R n τ s₀ H₀ c fs F J gd lv s σ H D gp k ci I ht => seg_execs_nil (k.ok n τ s₀ H₀ s .next ci ⟨σ, H, I, ht⟩)⟩
def tGs (t u : TGp T) : TGp T := fun D n τ σ H => t { D with nx := u D } n τ σ H
theorem gss_cons {t u : TGp T} (a : GSt X T st t) (b : GSs X T rest u) : GSs X T (st :: rest) (tGs t u) := by
  refine ⟨fun C A R n τ s₀ H₀ c fs F J gd lv s σ H D gp k ci I ht => seg_execs_cons ?_⟩
  refine a.run C A R n τ s₀ H₀ c fs _ J gd lv s σ H { D with nx := u D } gp ⟨k.yp, fun n' τ' s₀' H₀' s' f ci' hs => ?_⟩ ci I ht
  cases f with
  | next =>
    obtain ⟨σ', H', I', q⟩ := hs
    exact b.run C A R n' τ' s₀' H₀' c fs F J gd lv s' σ' H' D gp k ci' I' q
  | brk => exact k.ok n' τ' s₀' H₀' s' .brk ci' hs
  | cont => exact k.ok n' τ' s₀' H₀' s' .cont ci' hs
  | ret u => exact k.ok n' τ' s₀' H₀' s' (.ret u) ci' hs
theorem gss_one {t : TGp T} (a : GSt X T st t) : GSs X T [st] t := by
  refine ⟨fun C A R n τ s₀ H₀ c fs F J gd lv s σ H D gp k ci I ht => ?_⟩
  exact (gss_cons (u := tGn) a gss_nil).run C A R n τ s₀ H₀ c fs F J gd lv s σ H D gp k ci I ht
/-! if -/
def tGIf (tc : TT) (t u : TGp T) : TGp T := fun D n τ σ H => tc σ H fun b H1 => if b = true then t D n τ σ H1 else u D n τ σ H1
theorem gst_if {e : Expr} {tc : TT} {t u : TGp T} (g : GOk X) (hc : ∀ s₀ H₀, PT (reC X s₀ H₀) e tc) (ha : GSs X T body t) (hb : GSs X T orelse u) : GSt X T (.If e body orelse pos) (tGIf tc t u) := by
  refine ⟨fun C A R n τ s₀ H₀ c fs F J gd lv s σ H D gp k ci I ht => ?_⟩
  rw [exec_If]
  refine seg_at ?_
  show Seg (model X.prog X.w) A R (GYp C) n s₀ c ((isTrue e X.env (eval e X.env) >>= fun b => if b = true then execs body X.env else execs orelse X.env).wrap F J gd lv) fs s
  rw [Sem.bind_eq_wrap', Sem.wrap_wrap]
  refine seg_wrap ?_
  rw [gp.over]
  refine wpAny_mono ((hc s₀ H₀).run [] s σ H _ I ht) (fun b s' hb' => ?_) fun x s' hx => absurd hx (g.calm x s')
  obtain ⟨H2, I2, q⟩ := hb'
  cases b with
  | true => exact ha.run C A R n τ s₀ H₀ c fs F J gd lv s' σ H2 D gp k ci I2 q
  | false => exact hb.run C A R n τ s₀ H₀ c fs F J gd lv s' σ H2 D gp k ci I2 q
/-! yield -/
def tGy (te : TE) : TGp T := fun D n τ σ H => ∃ m, n = m + 1 ∧ te σ H fun x H1 => D.yp m τ x H1 fun τ' H2 => D.nx m τ' σ H2
theorem gst_yield {e : Expr} {te : TE} {yp : Pos} (g : GOk X) (he : ∀ s₀ H₀, PE (reC X s₀ H₀) e te) (hco : X.env.scope.isCoroutine = false := by rfl) (hi : interactive X.env = false := by rfl) : GSt X T (.Expr (.Yield (some e) yp) pos) (tGy te) := by
  refine ⟨fun C A R n τ s₀ H₀ c fs F J gd lv s σ H D gp k ci I ht => ?_⟩
  obtain ⟨m, rfl, ht⟩ := ht
  refine seg_Expr_Yield gp.split gp.gd gp.guard ?_ hco hi
  rw [gp.over]
  refine wpAny_mono ((he s₀ H₀).run [] s σ H _ I ht) (fun v s' hv => ?_) fun x s' hx => absurd hx (g.calm x s')
  obtain ⟨x, H1, I1, rv, q⟩ := hv
  intro kap hk
  rw [k.yp] at q
  refine ⟨τ, H₀, σ, x, H1, _, ci, I1, rv, q, fun τ' H2 s2 ci2 hkept hoff hn => hk .none s2 ?_⟩
  obtain ⟨B, e0⟩ := C.env τ' H2 s2 ci2
  exact k.ok m τ' s2 H2 s2 .next ci2 ⟨σ, H2, inv_wake g I1 e0 hkept hoff, hn⟩
/-! while -/
def tGw (tc : TT) (tb : TGp T) : TGp T := fun D n τ σ H => ∃ W : Nat → Nat → T → L2.St → Hp → Prop, (∃ m, W m n τ σ H) ∧ ∀ m n τ σ H, W m n τ σ H →
  tc σ H fun b H1 => if b = true then ∃ N : Nat → T → L2.St → Hp → Prop, (∀ n' τ' σ' H', N n' τ' σ' H' → ∃ m', m' < m ∧ W m' n' τ' σ' H') ∧ tb { D with nx := N, ct := N, bk := D.nx } n τ σ H1 else D.nx n τ σ H1
theorem gpos_in {A : Around} {c c' : Code} {fs : List Frame} {gd : Bool → Bool} {k : Result → Sem PySem.Fin} {l kp : List Value} {p : Pos} (g : GPos X A c fs gd) (hw : c'.weight = 0) (hu : c'.cUnits = 0) : GPos X A c' (.ret k none (gd false) l c p kp :: fs) id := by
  refine ⟨(over_loop hw hu).trans g.over, ?_, ?_, rfl⟩
  · show Option.map _ (splitAtGen fs) = none
    rw [g.split]; rfl
  · show (gd false || _) = false
    rw [g.gd, g.guard]; rfl
theorem gst_while {test : Expr} {tc : TT} {tb : TGp T} (g : GOk X) (hc : ∀ s₀ H₀, PT (reC X s₀ H₀) test tc) (hb : GSs X T body tb) : GSt X T (.While test body [] pos) (tGw tc tb) := by
  refine ⟨fun C A R n τ s₀ H₀ c fs F J gd lv s σ H D gp k ci I ht => ?_⟩
  obtain ⟨W, ⟨m0, w0⟩, turn⟩ := ht
  refine seg_While fun p => ?_
  generalize hk0 : (fun r : Result => Sem.wrap F J gd lv (Sem.onRaise (match r with | .ok f => (.pure f : Sem Flow) | .error e => .raise e) fun (x : Value) => do
        if (← field x 1) == Value.none then unsupported "frame.own-activation:exception-without-traceback"
        setFlight x X.env.frame)) = k0
  have leaf : ∀ (f : Flow), k0 (.ok f) = F f := fun f => by rw [← hk0]; rfl
  have gl : GPos X A (.whileLoop test body [] X.env) (.ret k0 none (gd false) (lv []) c p [] :: fs) id := gpos_in gp rfl rfl
  have out : ∀ (n : Nat) (τ : T) (s₀ : Shared) (H₀ : Hp) (s : Shared) (f : Flow), C.CI τ H₀ s₀ → SP (reC X s₀ H₀) [] (D.at n τ) f s → Seg (model X.prog X.w) A R (GYp C) n s₀ (.whileLoop test body [] X.env) (leafOf (.ok f)) (.ret k0 none (gd false) (lv []) c p [] :: fs) s := fun n τ s₀ H₀ s f ci hs =>
    seg_leaf (.ok f) (by rw [leaf]; exact k.ok n τ s₀ H₀ s f ci hs)
  have loop : ∀ (m n : Nat) (τ : T) (s₀ : Shared) (H₀ : Hp) (s : Shared) (σ : L2.St) (H : Hp), C.CI τ H₀ s₀ → W m n τ σ H → Inv (reC X s₀ H₀) [] σ H s →
      Seg (model X.prog X.w) A R (GYp C) n s₀ (.whileLoop test body [] X.env) ((model X.prog X.w).den (.whileLoop test body [] X.env)) (.ret k0 none (gd false) (lv []) c p [] :: fs) s := by
    intro m
    induction m using Nat.strongRecOn with
    | ind m ih =>
      intro n τ s₀ H₀ s σ H ci w I
      refine seg_whileLoop ?_
      rw [gl.over]
      refine wpAny_mono ((hc s₀ H₀).run [] s σ H _ I (turn m n τ σ H w)) (fun b s' hb' => ?_) fun x s' hx => absurd hx (g.calm x s')
      obtain ⟨H2, I2, q2⟩ := hb'
      cases b with
      | true =>
        obtain ⟨N, hN, q2⟩ := q2
        rw [if_pos rfl]
        refine hb.run C A R n τ s₀ H₀ _ _ _ _ id id s' σ H2 { D with nx := N, ct := N, bk := D.nx } gl ⟨k.yp, fun n' τ' s₀' H₀' s3 f ci' hs => ?_⟩ ci I2 q2
        have more : ∀ {σ3 : L2.St} {H3 : Hp}, Inv (reC X s₀' H₀') [] σ3 H3 s3 → N n' τ' σ3 H3 → Seg (model X.prog X.w) A R (GYp C) n' s₀' (.whileLoop test body [] X.env) (.pure (.again (.whileLoop test body [] X.env))) (.ret k0 none (gd false) (lv []) c p [] :: fs) s3 := fun {σ3 H3} I3 n3 => by
          obtain ⟨m', hm, w3⟩ := hN n' τ' σ3 H3 n3
          exact seg_again rfl (ih m' hm n' τ' s₀' H₀' s3 σ3 H3 ci' w3 I3)
        cases f with
        | next => obtain ⟨σ3, H3, I3, n3⟩ := hs; exact more I3 n3
        | cont => obtain ⟨σ3, H3, I3, n3⟩ := hs; exact more I3 n3
        | brk => exact out n' τ' s₀' H₀' s3 .next ci' hs
        | ret v => exact out n' τ' s₀' H₀' s3 (.ret v) ci' hs
      | false =>
        rw [if_neg Bool.false_ne_true]
        exact seg_execs_nil (out n τ s₀ H₀ s' .next ci ⟨σ, H2, I2, q2⟩)
  exact loop m0 n τ s₀ H₀ s σ H ci w0 I
end
end Nm

set_option Elab.async false
set_option linter.all false
set_option maxRecDepth 100000
set_option maxHeartbeats 2000000
/-! Data over a heap that only grows: what a value is worth (Den), what an expression is worth (EvD). -/
namespace Nm
open PySem PySem.Spec L2

inductive D where
  | non
  | bl (b : Bool)
  | int (i : Int)
  | str (x : Str)
  | lst (ds : List D)
  | tup (ds : List D)
  | dic (es : List (Key × D))
  | obj (C : Addr) (fs : List (Str × D))
  | ty (n : String)
  | cls (C : Addr)

mutual
inductive Den (K : PySem.W.Frag) (F : Hp) : V → D → Prop
  | non : Den K F .non .non
  | bl (b : Bool) : Den K F (.bl b) (.bl b)
  | int (i : Int) : Den K F (.int i) (.int i)
  | str (x : Str) : Den K F (.str x) (.str x)
  | lst {a : Addr} {xs : List V} {ds : List D} : F a = some (.lst xs) → DenL K F xs ds → Den K F (.ref a) (.lst ds)
  | ty (n : String) : Den K F (.ty n) (.ty n)
  | cls (C : Addr) : Den K F (.ref C) (.cls C)
  | tup {a : Addr} {xs : List V} {ds : List D} : SqT K F a xs → DenL K F xs ds → Den K F (.ref a) (.tup ds)
  | dic {a : Addr} {o : Obj} {kvs : List (Key × V)} {es : List (Key × D)} : F a = some (.frz o (.dK kvs)) → DenK K F kvs es → Den K F (.ref a) (.dic es)
  | obj {a C dx : Addr} {fs : List (Str × V)} {gs : List (Str × D)} : F a = some (.ins C dx fs) → DenF K F fs gs → Den K F (.ref a) (.obj C gs)
inductive DenL (K : PySem.W.Frag) (F : Hp) : List V → List D → Prop
  | nil : DenL K F [] []
  | cons {v : V} {vs : List V} {d : D} {ds : List D} : Den K F v d → DenL K F vs ds → DenL K F (v :: vs) (d :: ds)
inductive DenK (K : PySem.W.Frag) (F : Hp) : List (Key × V) → List (Key × D) → Prop
  | nil : DenK K F [] []
  | cons {k : Key} {v : V} {vs : List (Key × V)} {d : D} {ds : List (Key × D)} : Den K F v d → DenK K F vs ds → DenK K F ((k, v) :: vs) ((k, d) :: ds)
inductive DenF (K : PySem.W.Frag) (F : Hp) : List (Str × V) → List (Str × D) → Prop
  | nil : DenF K F [] []
  | cons {k : Str} {v : V} {vs : List (Str × V)} {d : D} {ds : List (Str × D)} : Den K F v d → DenF K F vs ds → DenF K F ((k, v) :: vs) ((k, d) :: ds)
end

section
variable {K : PySem.W.Frag} {F F' H H' : Hp}
theorem same_rd {a : Addr} {u : HO} (e : Same F F') (h : Rd F a u) : Rd F' a u := by
  rcases h with h | ⟨o, h⟩
  · exact Or.inl (e a _ h)
  · exact Or.inr ⟨o, e a _ h⟩
theorem same_l {a : Addr} {xs : List V} (e : Same F F') (h : SqL K F a xs) : SqL K F' a xs := e.seq h
theorem same_t {a : Addr} {xs : List V} (e : Same F F') (h : SqT K F a xs) : SqT K F' a xs := by
  rcases h with h | h
  · exact Or.inl (same_rd e h)
  · exact Or.inr h
mutual
theorem Den.mono (e : Same F F') : ∀ (d : D) {v : V}, Den K F v d → Den K F' v d
  | .non, _, h => by cases h; exact .non
  | .bl _, _, h => by cases h; exact .bl _
  | .int _, _, h => by cases h; exact .int _
  | .str _, _, h => by cases h; exact .str _
  | .ty _, _, h => by cases h; exact .ty _
  | .cls _, _, h => by cases h; exact .cls _
  | .lst ds, _, h => by cases h with | lst s l => exact .lst (e _ _ s) (DenL.mono e ds l)
  | .tup ds, _, h => by cases h with | tup s l => exact .tup (same_t e s) (DenL.mono e ds l)
  | .dic es, _, h => by cases h with | dic s l => exact .dic (e _ _ s) (DenK.mono e es l)
  | .obj _ gs, _, h => by cases h with | obj s l => exact .obj (e _ _ s) (DenF.mono e gs l)
theorem DenL.mono (e : Same F F') : ∀ (ds : List D) {vs : List V}, DenL K F vs ds → DenL K F' vs ds
  | [], _, h => by cases h; exact .nil
  | d :: ds, _, h => by cases h with | cons a b => exact .cons (Den.mono e d a) (DenL.mono e ds b)
theorem DenK.mono (e : Same F F') : ∀ (ds : List (Key × D)) {vs : List (Key × V)}, DenK K F vs ds → DenK K F' vs ds
  | [], _, h => by cases h; exact .nil
  | (k, d) :: ds, _, h => by cases h with | cons a b => exact .cons (Den.mono e d a) (DenK.mono e ds b)
theorem DenF.mono (e : Same F F') : ∀ (ds : List (Str × D)) {vs : List (Str × V)}, DenF K F vs ds → DenF K F' vs ds
  | [], _, h => by cases h; exact .nil
  | (k, d) :: ds, _, h => by cases h with | cons a b => exact .cons (Den.mono e d a) (DenF.mono e ds b)
end
theorem Den.up {v : V} {d : D} (h : Den K F v d) (e : Same F F') : Den K F' v d := Den.mono e d h
theorem DenL.up {v : List V} {d : List D} (h : DenL K F v d) (e : Same F F') : DenL K F' v d := DenL.mono e d h
theorem DenL.length : ∀ {vs : List V} {ds : List D}, DenL K F vs ds → vs.length = ds.length
  | _, _, .nil => rfl
  | _, _, .cons _ t => congrArg (· + 1) t.length
theorem DenL.get : ∀ {vs : List V} {ds : List D} {i : Nat} {d : D}, DenL K F vs ds → ds[i]? = some d → ∃ v, vs[i]? = some v ∧ Den K F v d
  | _, _, _, _, .nil, e => by simp at e
  | _, _, 0, _, .cons r _, e => by simp at e; subst e; exact ⟨_, rfl, r⟩
  | _, _, i + 1, _, .cons _ t, e => by
    obtain ⟨v, h1, h2⟩ := DenL.get (i := i) t (by simpa using e)
    exact ⟨v, by simpa using h1, h2⟩
theorem DenL.getV : ∀ {vs : List V} {ds : List D} {i : Nat} {v : V}, DenL K F vs ds → vs[i]? = some v → ∃ d, ds[i]? = some d ∧ Den K F v d
  | _, _, _, _, .nil, e => by simp at e
  | _, _, 0, _, .cons r _, e => by simp at e; subst e; exact ⟨_, rfl, r⟩
  | _, _, i + 1, _, .cons _ t, e => by
    obtain ⟨v, h1, h2⟩ := DenL.getV (i := i) t (by simpa using e)
    exact ⟨v, by simpa using h1, h2⟩
theorem DenL.append : ∀ {xs ys : List V} {us ws : List D}, DenL K F xs us → DenL K F ys ws → DenL K F (xs ++ ys) (us ++ ws)
  | _, _, _, _, .nil, s => s
  | _, _, _, _, .cons r t, s => .cons r (DenL.append t s)
theorem DenL.ints : ∀ ns : List Int, DenL K F (ns.map V.int) (ns.map D.int)
  | [] => .nil
  | n :: ns => .cons (.int n) (DenL.ints ns)
end

/-! ### the frozen part grows beside what may change (M: what has changed) -/
structure Ext (M : List Addr) (F H F' H' : Hp) : Prop where
  f : Same F F'
  h : ∀ a o, a ∉ M → H a = some o → H' a = some o
  s : Same F' H'
  n : ∀ a, F a = none → H a ≠ none → F' a = none
  k : ∀ a, H a ≠ none → H' a ≠ none
section
variable {M : List Addr} {F H F1 H1 F2 H2 : Hp}
theorem Ext.of {F H F' H' : Hp} (f : Same F F') (h : Same H H') (s : Same F' H') (n : ∀ a, F a = none → H a ≠ none → F' a = none) : Ext [] F H F' H' :=
  ⟨f, fun a o _ e => h a o e, s, n, fun a e => by
    cases q : H a with
    | none => exact absurd q e
    | some o => rw [h a o q]; simp⟩
theorem Ext.refl (e : Same F H) : Ext M F H F H := ⟨Same.refl _, fun _ _ _ h => h, e, fun _ h _ => h, fun _ h => h⟩
theorem Ext.same (x : Ext [] F H F1 H1) : Same H H1 := fun a o h => x.h a o (by simp) h
theorem Ext.trans (x : Ext M F H F1 H1) (y : Ext M F1 H1 F2 H2) : Ext M F H F2 H2 :=
  ⟨x.f.trans y.f, fun a o m h => y.h a o m (x.h a o m h), y.s, fun a h k => y.n a (x.n a h k) (x.k a k), fun a h => y.k a (x.k a h)⟩
theorem Ext.wide {M' : List Addr} (x : Ext M F H F1 H1) (h : ∀ a, a ∈ M → a ∈ M') : Ext M' F H F1 H1 :=
  ⟨x.f, fun a o m => x.h a o (fun z => m (h a z)), x.s, x.n, x.k⟩
theorem Ext.tr (x : Ext [] F H F1 H1) (y : Ext M F1 H1 F2 H2) : Ext M F H F2 H2 := (x.wide (by simp)).trans y
theorem Ext.tl (x : Ext M F H F1 H1) (y : Ext [] F1 H1 F2 H2) : Ext M F H F2 H2 := x.trans (y.wide (by simp))
/-- a new object, frozen at once -/
theorem Ext.new {p : Addr} {o : HO} (e : Same F H) (hp : H p = none) : Ext [] F H (upd F p o) (upd H p o) := by
  have fp : F p = none := e.free hp
  refine Ext.of (fun a u h => ?_) (fun a u h => ?_) (fun a u h => ?_) (fun a h k => ?_)
  · rw [upd_ne (ne_of_none h fp)]; exact h
  · rw [upd_ne (ne_of_none h hp)]; exact h
  · by_cases z : a = p
    · subst z; rw [upd_same] at h ⊢; exact h
    · rw [upd_ne z] at h ⊢; exact e a u h
  · rw [upd_ne (fun z => k (by rw [z]; exact hp))]; exact h
/-- a new object that may change -/
theorem Ext.newM {p : Addr} {o : HO} (e : Same F H) (hp : H p = none) : Ext [] F H F (upd H p o) :=
  Ext.of (Same.refl _) (fun a u h => by rw [upd_ne (ne_of_none h hp)]; exact h) (fun a u h => by rw [upd_ne (ne_of_none (e a u h) hp)]; exact e a u h) (fun _ h _ => h)
theorem upd_keeps {p : Addr} {o : HO} (a : Addr) (h : H a ≠ none) : upd H p o a ≠ none := by
  by_cases z : a = p
  · subst z; rw [upd_same]; simp
  · rw [upd_ne z]; exact h
end
/-- what may change: not frozen, standing at b -/
structure Own (F H : Hp) (b : Addr) (o : HO) : Prop where
  f : F b = none
  h : H b = some o
theorem Own.ext {M : List Addr} {F H F1 H1 : Hp} {b : Addr} {o : HO} (w : Own F H b o) (x : Ext M F H F1 H1) (hb : b ∉ M) : Own F1 H1 b o :=
  ⟨x.n b w.f (by rw [w.h]; simp), x.h b o hb w.h⟩
theorem Own.ext0 {F H F1 H1 : Hp} {b : Addr} {o : HO} (w : Own F H b o) (x : Ext [] F H F1 H1) : Own F1 H1 b o := w.ext x (by simp)
theorem Own.ne {F H : Hp} {b c : Addr} {o u : HO} (w : Own F H b o) (h : F c = some u) : c ≠ b := fun z => by rw [z, w.f] at h; cases h
theorem Own.set {F H : Hp} {b : Addr} {o u : HO} (w : Own F H b o) (e : Same F H) : Ext [b] F H F (upd H b u) :=
  ⟨Same.refl _, fun a v m h => by rw [upd_ne (by simpa using m)]; exact h, fun a v h => by rw [upd_ne (w.ne h)]; exact e a v h, fun _ h _ => h, fun a h => upd_keeps a h⟩

/-! ### the frame -/
inductive Sl where
  | u
  | d (x : D)
  | v (x : V)
def SlOk (K : PySem.W.Frag) (F : Hp) : Sl → Option V → Prop
  | .u, _ => True
  | .d x, o => ∃ v, o = some v ∧ Den K F v x
  | .v x, o => o = some x
abbrev EnvD (K : PySem.W.Frag) (F : Hp) : List Sl → L2.St → Prop := Paired (SlOk K F)
section
variable {K : PySem.W.Frag} {F F' H : Hp}
theorem SlOk.up {s : Sl} {o : Option V} (h : SlOk K F s o) (e : Same F F') : SlOk K F' s o := by
  cases s with
  | u => trivial
  | d x => obtain ⟨v, h1, h2⟩ := h; exact ⟨v, h1, h2.up e⟩
  | v x => exact h
theorem EnvD.up {r : List Sl} {σ : L2.St} (h : EnvD K F r σ) (e : Same F F') : EnvD K F' r σ := Paired.mapP h fun _ _ q => SlOk.up q e
theorem EnvD.get : ∀ {r : List Sl} {σ : L2.St} {i : Nat} {s : Sl}, EnvD K F r σ → r[i]? = some s → ∃ o, σ[i]? = some o ∧ SlOk K F s o
  | _, _, _, _, .nil, e => by simp at e
  | _, _, 0, _, .cons r _, e => by simp at e; subst e; exact ⟨_, rfl, r⟩
  | _, _, i + 1, _, .cons _ t, e => by
    obtain ⟨v, h1, h2⟩ := EnvD.get (i := i) t (by simpa using e)
    exact ⟨v, by simpa using h1, h2⟩
theorem EnvD.set : ∀ {r : List Sl} {σ : L2.St} (i : Nat) {s : Sl} {o : Option V}, EnvD K F r σ → SlOk K F s o → EnvD K F (r.set i s) (σ.set i o)
  | _, _, _, _, _, .nil, _ => .nil
  | _, _, 0, _, _, .cons _ t, h => .cons h t
  | _, _, i + 1, _, _, .cons q t, h => .cons q (EnvD.set i t h)
def wipeR (r : List Sl) : List Nat → List Sl
  | [] => r
  | v :: vs => (wipeR r vs).set v .u
theorem EnvD.wipe {r : List Sl} {σ : L2.St} (h : EnvD K F r σ) : ∀ vs : List Nat, EnvD K F (wipeR r vs) (wipe σ vs)
  | [] => h
  | v :: vs => EnvD.set v (EnvD.wipe h vs) trivial
end

/-! ### what an expression is worth, whatever else stands in the heap -/
def EvD (K : PySem.W.Frag) (te : TE) (σ : L2.St) (F : Hp) (d : D) : Prop := ∀ H, Same F H → ∀ Q : VK, (∀ v F' H', Ext [] F H F' H' → Den K F' v d → Q v H') → te σ H Q
def EvT (K : PySem.W.Frag) (tt : TT) (σ : L2.St) (F : Hp) (b : Bool) : Prop := ∀ H, Same F H → ∀ Q : Bool → Hp → Prop, (∀ F' H', Ext [] F H F' H' → Q b H') → tt σ H Q
def EvA (K : PySem.W.Frag) (ta : TA) (σ : L2.St) (F : Hp) (ds : List D) : Prop := ∀ H, Same F H → ∀ Q : List V → Hp → Prop, (∀ vs F' H', Ext [] F H F' H' → DenL K F' vs ds → Q vs H') → ta σ H Q
def RvD (K : PySem.W.Frag) (r : R2) (a b d : D) : Prop := ∀ F H x y, Same F H → Den K F x a → Den K F y b → ∀ Q : VK, (∀ v F' H', Ext [] F H F' H' → Den K F' v d → Q v H') → r x y H Q
def RuD (K : PySem.W.Frag) (r : V → Hp → VK → Prop) (a d : D) : Prop := ∀ F H x, Same F H → Den K F x a → ∀ Q : VK, (∀ v F' H', Ext [] F H F' H' → Den K F' v d → Q v H') → r x H Q
def RcD (K : PySem.W.Frag) (r : List V → Hp → VK → Prop) (as : List D) (d : D) : Prop := ∀ F H xs, Same F H → DenL K F xs as → ∀ Q : VK, (∀ v F' H', Ext [] F H F' H' → Den K F' v d → Q v H') → r xs H Q

section
variable {K : PySem.W.Frag} {F F' H : Hp} {σ : L2.St} {ta tb tc te : TE} {tt tu : TT} {d e : D}
/-- two frozen parts of one heap, put together -/
def uni (F G : Hp) : Hp := fun a => (F a).or (G a)
theorem uni_l {F G : Hp} : Same F (uni F G) := fun a o h => by unfold uni; rw [h]; rfl
theorem uni_r {F G H : Hp} (e : Same F H) (e' : Same G H) : Same G (uni F G) := fun a o h => by
  unfold uni
  cases q : F a with
  | none => exact h
  | some u =>
    have h1 := e a u q
    have h2 := e' a o h
    rw [h1] at h2
    exact h2
theorem uni_s {F G H : Hp} (e : Same F H) (e' : Same G H) : Same (uni F G) H := fun a o h => by
  unfold uni at h
  cases q : F a with
  | none => rw [q] at h; exact e' a o h
  | some u => rw [q] at h; cases h; exact e a _ q
theorem Ext.uni {F F1 F2 H1 H2 : Hp} (e : Same F F1) (e1 : Same F1 H1) (x : Ext [] F H1 F2 H2) : Ext [] F1 H1 (uni F1 F2) H2 := by
  have e1' : Same F1 H2 := e1.trans x.same
  refine Ext.of uni_l x.same (uni_s e1' x.s) fun a h k => ?_
  unfold Nm.uni
  rw [h]
  exact x.n a (e.free h) k
theorem EvD.up (h : EvD K te σ F d) (e : Same F F') : EvD K te σ F' d := fun H s Q q => h H (e.trans s) Q fun v F2 H2 x r =>
  q v _ H2 (Ext.uni e s x) (r.up (uni_r (s.trans x.same) x.s))
theorem EvT.up {b : Bool} (h : EvT K tt σ F b) (e : Same F F') : EvT K tt σ F' b := fun H s Q q => h H (e.trans s) Q fun F2 H2 x => q _ H2 (Ext.uni e s x)
theorem EvA.up {ta : TA} {ds : List D} (h : EvA K ta σ F ds) (e : Same F F') : EvA K ta σ F' ds := fun H s Q q => h H (e.trans s) Q fun v F2 H2 x r =>
  q v _ H2 (Ext.uni e s x) (r.up (uni_r (s.trans x.same) x.s))

theorem ev_var {r : List Sl} {i : Nat} (E : EnvD K F r σ) (h : r[i]? = some (.d d)) : EvD K (tVar i) σ F d := fun H s Q q => by
  obtain ⟨o, h1, v, h2, h3⟩ := E.get h
  subst h2
  exact ⟨v, h1, q v F H (Ext.refl s) h3⟩
theorem ev_c {v : V} (h : Den K F v d) : EvD K (tC v) σ F d := fun H s Q q => q v F H (Ext.refl s) h
theorem ev_op {a b : D} {r : R2} (ha : EvD K ta σ F a) (hb : EvD K tb σ F b) (hr : RvD K r a b d) : EvD K (tOp r ta tb) σ F d := fun H s Q q =>
  ha H s _ fun x F1 H1 x1 d1 => (hb.up x1.f) H1 x1.s _ fun y F2 H2 x2 d2 => hr F2 H2 x y x2.s (d1.up x2.f) d2 Q fun v F3 H3 x3 d3 => q v F3 H3 ((x1.tr x2).tr x3) d3
theorem ev_un {a : D} {r : V → Hp → VK → Prop} (ha : EvD K ta σ F a) (hr : RuD K r a d) : EvD K (tUn r ta) σ F d := fun H s Q q =>
  ha H s _ fun x F1 H1 x1 d1 => hr F1 H1 x x1.s d1 Q fun v F3 H3 x3 d3 => q v F3 H3 (x1.tr x3) d3
theorem ev_cb {as : List D} {ta : TA} {r : List V → Hp → VK → Prop} (ha : EvA K ta σ F as) (hr : RcD K r as d) : EvD K (tCB r ta) σ F d := fun H s Q q =>
  ha H s _ fun x F1 H1 x1 d1 => hr F1 H1 x x1.s d1 Q fun v F3 H3 x3 d3 => q v F3 H3 (x1.tr x3) d3
theorem ea_nil : EvA K tNil σ F [] := fun H s Q q => q [] F H (Ext.refl s) .nil
theorem ea_cons {a : D} {as : List D} {tr : TA} (ha : EvD K ta σ F a) (hr : EvA K tr σ F as) : EvA K (tCons ta tr) σ F (a :: as) := fun H s Q q =>
  ha H s _ fun x F1 H1 x1 d1 => (hr.up x1.f) H1 x1.s _ fun xs F2 H2 x2 d2 => q (x :: xs) F2 H2 (x1.tr x2) (.cons (d1.up x2.f) d2)
theorem ev_and {a b : Bool} (h1 : EvD K ta σ F (.bl a)) (h2 : a = true → EvD K tb σ F (.bl b)) : EvD K (tAndV ta tb) σ F (.bl (a && b)) := fun H s Q q =>
  h1 H s _ fun x F1 H1 x1 d1 => by
    cases d1
    refine ⟨a, rfl, ?_⟩
    cases a with
    | true =>
      rw [if_pos rfl]
      exact ((h2 rfl).up x1.f) H1 x1.s _ fun v F2 H2 x2 d2 => q v F2 H2 (x1.tr x2) d2
    | false =>
      rw [if_neg (by decide)]
      exact q _ F1 H1 x1 (.bl false)
theorem ev_or {a b : Bool} (h1 : EvD K ta σ F (.bl a)) (h2 : a = false → EvD K tb σ F (.bl b)) : EvD K (tOrV ta tb) σ F (.bl (a || b)) := fun H s Q q =>
  h1 H s _ fun x F1 H1 x1 d1 => by
    cases d1
    refine ⟨a, rfl, ?_⟩
    cases a with
    | true =>
      rw [if_pos rfl]
      exact q _ F1 H1 x1 (.bl true)
    | false =>
      rw [if_neg (by decide)]
      exact ((h2 rfl).up x1.f) H1 x1.s _ fun v F2 H2 x2 d2 => q v F2 H2 (x1.tr x2) d2
theorem ev_not {a : Bool} (h1 : EvD K ta σ F (.bl a)) : EvD K (tNotV ta) σ F (.bl (!a)) := fun H s Q q =>
  h1 H s _ fun x F1 H1 x1 d1 => by
    cases d1
    exact ⟨a, rfl, q _ F1 H1 x1 (.bl _)⟩
theorem ev_if {b : Bool} (h : EvT K tt σ F b) (h1 : b = true → EvD K ta σ F d) (h2 : b = false → EvD K tb σ F d) : EvD K (tIf tt ta tb) σ F d := fun H s Q q =>
  h H s _ fun F1 H1 x1 => by
    cases b with
    | true =>
      show ta σ H1 Q
      exact ((h1 rfl).up x1.f) H1 x1.s _ fun v F2 H2 x2 d2 => q v F2 H2 (x1.tr x2) d2
    | false =>
      show tb σ H1 Q
      exact ((h2 rfl).up x1.f) H1 x1.s _ fun v F2 H2 x2 d2 => q v F2 H2 (x1.tr x2) d2
theorem et_test {b : Bool} (h : EvD K te σ F (.bl b)) : EvT K (tTest te) σ F b := fun H s Q q => h H s _ fun v F1 H1 x1 d1 => by cases d1; exact ⟨b, rfl, q F1 H1 x1⟩
theorem et_B {b : Bool} (h : EvD K te σ F (.bl b)) : EvT K (tB te) σ F b := fun H s Q q => h H s _ fun v F1 H1 x1 d1 => by cases d1; exact ⟨b, rfl, q F1 H1 x1⟩
theorem et_and {a b : Bool} (h1 : EvT K tt σ F a) (h2 : a = true → EvT K tu σ F b) : EvT K (tAnd tt tu) σ F (a && b) := fun H s Q q => h1 H s _ fun F1 H1 x1 => by
  cases a with
  | true =>
    show tu σ H1 Q
    exact ((h2 rfl).up x1.f) H1 x1.s _ fun F2 H2 x2 => q F2 H2 (x1.tr x2)
  | false =>
    show Q false H1
    exact q F1 H1 x1
theorem et_or {a b : Bool} (h1 : EvT K tt σ F a) (h2 : a = false → EvT K tu σ F b) : EvT K (tOr tt tu) σ F (a || b) := fun H s Q q => h1 H s _ fun F1 H1 x1 => by
  cases a with
  | true =>
    show Q true H1
    exact q F1 H1 x1
  | false =>
    show tu σ H1 Q
    exact ((h2 rfl).up x1.f) H1 x1.s _ fun F2 H2 x2 => q F2 H2 (x1.tr x2)
theorem et_not {a : Bool} (h1 : EvT K tt σ F a) : EvT K (tNot tt) σ F (!a) := fun H s Q q => h1 H s _ fun F1 H1 x1 => q F1 H1 x1
theorem ev_is (h : EvD K te σ F e) (q : e = d) : EvD K te σ F d := by rw [← q]; exact h
theorem et_is {a b : Bool} (h : EvT K tt σ F a) (q : a = b) : EvT K tt σ F b := by rw [← q]; exact h
theorem ev_lst {as : List D} {ta : TA} (h : EvA K ta σ F as) (hl : as.length ≤ sizeLine) : EvD K (tLst ta) σ F (.lst as) := fun H s Q q =>
  h H s _ fun vs F1 H1 x1 d1 => ⟨by rw [d1.length]; exact hl, fun p hp => q _ _ _ (x1.tr (Ext.new x1.s hp)) (.lst upd_same (d1.up (Ext.new (o := .lst vs) x1.s hp).f))⟩
theorem ev_tup {as : List D} {ta : TA} (h : EvA K ta σ F as) (hl : as.length ≤ sizeLine) : EvD K (tTup ta) σ F (.tup as) := fun H s Q q =>
  h H s _ fun vs F1 H1 x1 d1 => ⟨by rw [d1.length]; exact hl, fun p hp => q _ _ _ (x1.tr (Ext.new x1.s hp)) (.tup (SqT.of upd_same) (d1.up (Ext.new (o := .tup vs) x1.s hp).f))⟩
end
end Nm

set_option Elab.async false
set_option linter.all false
set_option maxRecDepth 100000
set_option maxHeartbeats 2000000
namespace Nm
open PySem PySem.Spec L2

/-! ### rules by values, of several kinds at once -/
section
variable {X : Cx}
theorem opr_or {f : Value → Value → Sem Value} {r r' : R2} (h : OpR X f r) (h' : OpR X f r') : OpR X f (fun x y H Q => r x y H Q ∨ r' x y H Q) :=
  fun pins s σ H x y v u Q I rx ry q => q.elim (fun q => h pins s σ H x y v u Q I rx ry q) fun q => h' pins s σ H x y v u Q I rx ry q
theorem calr_or {f : Value} {r r' : List V → Hp → VK → Prop} (h : CallR X f r) (h' : CallR X f r') : CallR X f (fun xs H Q => r xs H Q ∨ r' xs H Q) :=
  fun pins s σ H xs us Q I rx q => q.elim (fun q => h pins s σ H xs us Q I rx q) fun q => h' pins s σ H xs us Q I rx q

/-- + -/
def rAddS : R2 := fun x y H Q => ∃ i j, x = .str i ∧ y = .str j ∧ i.length + j.length ≤ sizeLine ∧ Q (.str (i ++ j)) H
def rAddA (K : PySem.W.Frag) : R2 := fun x y H Q => rI0 (fun i j => .int (i + j)) x y H Q ∨ rAddS x y H Q ∨ rCat x y H Q ∨ rCatA K x y H Q
theorem o_add : OpR X (binaryOp .Add) (rAddA X.K) := opr_or op_add (opr_or op_add_str (opr_or op_cat op_catA))
/-- in, not in -/
def rInSign (f : Bool → Bool) : R2 := fun x y H Q => ∃ (c : Nat) (z : Str), x = .str ⟨#[c]⟩ ∧ y = .str z ∧ Q (.bl (f (decide (c ∈ z.cps.toList)))) H
def rInDict (f : Bool → Bool) : R2 := fun x y H Q => ∃ a o, y = .ref a ∧ DGet H a x o ∧ Q (.bl (f o.isSome)) H
theorem o_din (hu : X.A.units + 1 < cLine) : OpR X (compareOp .In) (rInDict id) := by
  intro pins s σ H x y v u Q I rx ry h
  obtain ⟨a, o, rfl, g, q⟩ := h
  cases (show u = Value.ref a from ry)
  exact d_in hu I g rx fun s3 I3 => ⟨.bl o.isSome, H, I3, rfl, q⟩
theorem o_dnotin (hu : X.A.units + 1 < cLine) : OpR X (compareOp .NotIn) (rInDict (!·)) := by
  intro pins s σ H x y v u Q I rx ry h
  obtain ⟨a, o, rfl, g, q⟩ := h
  cases (show u = Value.ref a from ry)
  exact d_notIn hu I g rx fun s3 I3 => ⟨.bl (!o.isSome), H, I3, rfl, q⟩
def rInA (K : PySem.W.Frag) : R2 := fun x y H Q => rInSign id x y H Q ∨ rIn K false x y H Q ∨ rInDict id x y H Q
def rNotInA (K : PySem.W.Frag) : R2 := fun x y H Q => rInSign (!·) x y H Q ∨ rIn K true x y H Q ∨ rInDict (!·) x y H Q
theorem o_in (hu : X.A.units + 1 < cLine) : OpR X (compareOp .In) (rInA X.K) := opr_or op_in_sign (opr_or op_in_seq (o_din hu))
theorem o_notin (hu : X.A.units + 1 < cLine) : OpR X (compareOp .NotIn) (rNotInA X.K) := opr_or op_notIn_sign (opr_or op_notIn_seq (o_dnotin hu))
/-- len -/
def rLenA (K : PySem.W.Frag) : List V → Hp → VK → Prop := fun xs H Q => (∃ p ys, xs = [.ref p] ∧ (SqL K H p ys ∨ SqT K H p ys) ∧ Q (.int ys.length) H) ∨ (∃ z, xs = [.str z] ∧ z.length ≤ sizeLine ∧ Q (.int z.length) H) ∨
  (∃ a kvs, xs = [V.ref a] ∧ Rd H a (.dK kvs) ∧ Q (.int kvs.length) H)
theorem c_len_dict : CallR X (.builtin "len") (fun xs H Q => ∃ a kvs, xs = [V.ref a] ∧ Rd H a (.dK kvs) ∧ Q (.int kvs.length) H) := by
  intro pins s σ H xs us Q I r h
  obtain ⟨a, kvs, rfl, ha, q⟩ := h
  obtain ⟨u, rfl, ru⟩ := vals1 r
  cases (show u = Value.ref a from ru)
  exact d_len I ha fun t s' I' => ⟨.int kvs.length, H, I', ⟨t, rfl⟩, q⟩
theorem c_len : CallR X (.builtin "len") (rLenA X.K) := calr_or call_len_seq (calr_or call_len_str c_len_dict)
/-- < <= > >= -/
def rCmpA (f : Int → Int → Bool) (g : List Nat → List Nat → Bool) : R2 := fun x y H Q => rI0 (fun i j => .bl (f i j)) x y H Q ∨ ∃ i j, x = .str i ∧ y = .str j ∧ Q (.bl (g i.cps.toList j.cps.toList)) H
theorem o_lt : OpR X (compareOp .Lt) (rCmpA (fun i j => decide (i < j)) fun a b => decide (a < b)) := opr_or op_lt op_lt_str
theorem o_le : OpR X (compareOp .LtE) (rCmpA (fun i j => decide (i ≤ j)) fun a b => !decide (b < a)) := opr_or op_le op_le_str
theorem o_gt : OpR X (compareOp .Gt) (rCmpA (fun i j => decide (j < i)) fun a b => decide (b < a)) := opr_or op_gt op_gt_str
theorem o_ge : OpR X (compareOp .GtE) (rCmpA (fun i j => decide (j ≤ i)) fun a b => !decide (a < b)) := opr_or op_ge op_ge_str
/-- a[i] -/
theorem ix_or {r r' : R2} (h : IxR X r) (h' : IxR X r') : IxR X (fun x y H Q => r x y H Q ∨ r' x y H Q) := h.or h'
end

/-! ### the same by data -/
section
variable {K : PySem.W.Frag}
theorem rv_add_int {i j : Int} : RvD K (rAddA K) (.int i) (.int j) (.int (i + j)) := fun F H x y s hx hy Q q => by
  cases hx; cases hy
  exact .inl ⟨i, j, rfl, rfl, q _ F H (Ext.refl s) (.int _)⟩
theorem rv_add_str {i j : Str} (hz : i.length + j.length ≤ sizeLine) : RvD K (rAddA K) (.str i) (.str j) (.str (i ++ j)) := fun F H x y s hx hy Q q => by
  cases hx; cases hy
  exact .inr (.inl ⟨i, j, rfl, rfl, hz, q _ F H (Ext.refl s) (.str _)⟩)
theorem rv_add_lst {i j : List D} (hz : i.length + j.length ≤ sizeLine) : RvD K (rAddA K) (.lst i) (.lst j) (.lst (i ++ j)) := fun F H x y s hx hy Q q => by
  cases hx with
  | lst h1 l1 =>
    cases hy with
    | lst h2 l2 =>
      refine .inr (.inr (.inl ⟨_, _, _, _, rfl, rfl, s _ _ h1, s _ _ h2, by rw [l1.length, l2.length]; exact hz, fun p hp => q _ _ _ (Ext.new s hp) (.lst upd_same ?_)⟩))
      exact (l1.append l2).up (Ext.new s hp).f
theorem rv_add_tup {i j : List D} (hz : i.length + j.length ≤ sizeLine) : RvD K (rAddA K) (.tup i) (.tup j) (.tup (i ++ j)) := fun F H x y s hx hy Q q => by
  cases hx with
  | tup h1 l1 =>
    cases hy with
    | tup h2 l2 =>
      refine .inr (.inr (.inr ⟨_, _, _, _, rfl, rfl, same_t s h1, same_t s h2, by rw [l1.length, l2.length]; exact hz, fun e => ?_, fun _ e => ?_, fun _ _ p hp => q _ _ _ (Ext.new s hp) (.tup (SqT.of upd_same) ?_)⟩))
      · subst e; cases l1; exact q _ F H (Ext.refl s) (.tup h2 l2)
      · subst e; cases l2; rw [List.append_nil] at q; exact q _ F H (Ext.refl s) (.tup h1 l1)
      · exact (l1.append l2).up (Ext.new s hp).f
theorem rv_I0 {g : Int → Int → Int} {i j : Int} : RvD K (rI0 fun i j => .int (g i j)) (.int i) (.int j) (.int (g i j)) := fun F H x y s hx hy Q q => by
  cases hx; cases hy
  exact ⟨i, j, rfl, rfl, q _ F H (Ext.refl s) (.int _)⟩
theorem rv_I {C : Int → Int → Prop} {g : Int → Int → Int} {i j : Int} (hc : C i j) : RvD K (rI C fun i j => .int (g i j)) (.int i) (.int j) (.int (g i j)) := fun F H x y s hx hy Q q => by
  cases hx; cases hy
  exact ⟨i, j, rfl, rfl, hc, q _ F H (Ext.refl s) (.int _)⟩
theorem rv_cmp_int {f : Int → Int → Bool} {g : List Nat → List Nat → Bool} {i j : Int} : RvD K (rCmpA f g) (.int i) (.int j) (.bl (f i j)) := fun F H x y s hx hy Q q => by
  cases hx; cases hy
  exact .inl ⟨i, j, rfl, rfl, q _ F H (Ext.refl s) (.bl _)⟩
theorem rv_cmp_str {f : Int → Int → Bool} {g : List Nat → List Nat → Bool} {i j : Str} : RvD K (rCmpA f g) (.str i) (.str j) (.bl (g i.cps.toList j.cps.toList)) := fun F H x y s hx hy Q q => by
  cases hx; cases hy
  exact .inr ⟨i, j, rfl, rfl, q _ F H (Ext.refl s) (.bl _)⟩
theorem rv_eq_int {i j : Int} : RvD K rEq (.int i) (.int j) (.bl (decide (i = j))) := fun F H x y s hx hy Q q => by
  cases hx; cases hy
  refine ⟨rfl, ?_⟩
  rw [dec_int, show (i == j) = decide (i = j) from rfl]
  exact q _ F H (Ext.refl s) (.bl _)
theorem rv_ne_int {i j : Int} : RvD K rNe (.int i) (.int j) (.bl (!decide (i = j))) := fun F H x y s hx hy Q q => by
  cases hx; cases hy
  refine ⟨rfl, ?_⟩
  rw [dec_int, show (i == j) = decide (i = j) from rfl]
  exact q _ F H (Ext.refl s) (.bl _)
theorem dec_strD {i j : Str} : decide (V.str i = V.str j) = decide (i = j) := by
  by_cases h : i = j
  · subst h; simp
  · rw [decide_eq_false h, decide_eq_false (fun z => h (V.str.inj z))]
theorem rv_eq_str {i j : Str} : RvD K rEq (.str i) (.str j) (.bl (decide (i = j))) := fun F H x y s hx hy Q q => by
  cases hx; cases hy
  refine ⟨rfl, ?_⟩
  rw [dec_strD]
  exact q _ F H (Ext.refl s) (.bl _)
theorem rv_ne_str {i j : Str} : RvD K rNe (.str i) (.str j) (.bl (!decide (i = j))) := fun F H x y s hx hy Q q => by
  cases hx; cases hy
  refine ⟨rfl, ?_⟩
  rw [dec_strD]
  exact q _ F H (Ext.refl s) (.bl _)
theorem rv_in_sign {c : Nat} {z : Str} : RvD K (rInA K) (.str ⟨#[c]⟩) (.str z) (.bl (decide (c ∈ z.cps.toList))) := fun F H x y s hx hy Q q => by
  cases hx; cases hy
  exact .inl ⟨c, z, rfl, rfl, q _ F H (Ext.refl s) (.bl _)⟩
theorem rc_len_str {z : Str} (hz : z.length ≤ sizeLine) : RcD K (rLenA K) [.str z] (.int z.length) := fun F H xs s hx Q q => by
  cases hx with
  | cons h t =>
    cases h; cases t
    exact .inr (.inl ⟨z, rfl, hz, q _ F H (Ext.refl s) (.int _)⟩)
theorem rc_len_lst {ds : List D} : RcD K (rLenA K) [.lst ds] (.int ds.length) := fun F H xs s hx Q q => by
  cases hx with
  | cons h t =>
    cases t
    cases h with
    | lst h l => exact .inl ⟨_, _, rfl, .inl (SqL.of (s _ _ h)), by rw [l.length]; exact q _ F H (Ext.refl s) (.int _)⟩
theorem rc_len_tup {ds : List D} : RcD K (rLenA K) [.tup ds] (.int ds.length) := fun F H xs s hx Q q => by
  cases hx with
  | cons h t =>
    cases t
    cases h with
    | tup h l => exact .inl ⟨_, _, rfl, .inr (same_t s h), by rw [l.length]; exact q _ F H (Ext.refl s) (.int _)⟩
/-- the built-in type of data -/
def tyD : D → Option String
  | .non => some "NoneType" | .bl _ => some "bool" | .int _ => some "int" | .str _ => some "str" | .lst _ => some "list" | .tup _ => some "tuple" | .dic _ => some "dict" | _ => none
theorem ty_of {F H : Hp} {x : V} {d : D} {t : String} (s : Same F H) (h : Den K F x d) (e : tyD d = some t) : TyX K H x (.type t) := by
  cases h with
  | non => cases e; exact .base .non
  | bl b => cases e; exact .base (.bl b)
  | int b => cases e; exact .base (.int b)
  | str b => cases e; exact .base (.str b)
  | lst h l => cases e; exact .base (.lst (s _ _ h))
  | tup h l =>
    cases e
    rcases same_t s h with (h | ⟨o, h⟩) | ⟨o, its, n, h1, h2, _⟩
    · exact .base (.tup h)
    · exact .fTuple h
    · exact .kTuple h1 (by first | exact h2 | (obtain ⟨h2, _⟩ := h2; exact h2))
  | dic h l =>
    cases e
    exact .fDict (s _ _ h)
  | obj h l => cases e
  | ty n => cases e
  | cls C => cases e
theorem rc_isi {d : D} {t n : String} {b : Bool} (e : tyD d = some t) (hb : kitB t n = some b) : RcD K (rIsi K) [d, .ty n] (.bl b) := fun F H xs s hx Q q => by
  cases hx with
  | cons h t =>
    cases t with
    | cons h2 t =>
      cases t; cases h2
      exact ⟨_, _, _, _, b, rfl, .ty n, ty_of s h e, kit_ty hb, q _ F H (Ext.refl s) (.bl _)⟩
theorem denL_bls : ∀ {F : Hp} {bs : List Bool} {vs : List V}, DenL K F vs (bs.map D.bl) → vs = bs.map V.bl
  | _, [], _, h => by cases h; rfl
  | _, b :: bs, _, h => by cases h with | cons a t => cases a; rw [denL_bls t]; rfl
theorem denL_strs : ∀ {F : Hp} {bs : List Str} {vs : List V}, DenL K F vs (bs.map D.str) → vs = bs.map V.str
  | _, [], _, h => by cases h; rfl
  | _, b :: bs, _, h => by cases h with | cons a t => cases a; rw [denL_strs t]; rfl
theorem denL_ints : ∀ {F : Hp} {bs : List Int} {vs : List V}, DenL K F vs (bs.map D.int) → vs = bs.map V.int
  | _, [], _, h => by cases h; rfl
  | _, b :: bs, _, h => by cases h with | cons a t => cases a; rw [denL_ints t]; rfl
theorem rc_all {bs : List Bool} : RcD K (rAll K) [.lst (bs.map D.bl)] (.bl (bs.all id)) := fun F H xs s hx Q q => by
  cases hx with
  | cons h t =>
    cases t
    cases h with
    | lst h l =>
      rw [denL_bls l] at h
      exact ⟨_, bs, rfl, SqL.of (s _ _ h), q _ F H (Ext.refl s) (.bl _)⟩
theorem rc_any {bs : List Bool} : RcD K (rAny K) [.lst (bs.map D.bl)] (.bl (bs.any id)) := fun F H xs s hx Q q => by
  cases hx with
  | cons h t =>
    cases t
    cases h with
    | lst h l =>
      rw [denL_bls l] at h
      exact ⟨_, bs, rfl, SqL.of (s _ _ h), q _ F H (Ext.refl s) (.bl _)⟩
end
end Nm

set_option Elab.async false
set_option linter.all false
set_option maxRecDepth 100000
set_option maxHeartbeats 2000000
namespace Nm
open PySem PySem.Spec L2

/-! ### what is walked -/
section
variable {X : Cx} {tg e : Expr}
theorem pi_or {wi wj : TI} (h : PI X tg e wi) (h' : PI X tg e wj) : PI X tg e (fun σ H R => wi σ H R ∨ wj σ H R) :=
  ⟨fun pins s σ H R I q => q.elim (h.run pins s σ H R I) (h'.run pins s σ H R I)⟩
/-- for x in e: a list, a tuple, a text -/
def iSeq (K : PySem.W.Frag) (te : TE) : TI := fun σ H R => iList K te σ H R ∨ iTup K te σ H R ∨ iStr te σ H R ∨ iKeys te σ H R
theorem pi_seq {te : TE} (h : PE X e te) : PI X tg e (iSeq X.K te) := pi_or (pi_list h) (pi_or (pi_tup h) (pi_or (pi_str h) (pi_keys h)))
end
def WalkD (K : PySem.W.Frag) (F : Hp) (J : It) (items : List D) : Prop := ∃ G Y, Walk J items.length G Y ∧ (∀ H, Same F H → G H) ∧
  ∀ i H x H', i < items.length → Same F H → Y i H x H' → ∃ d F', items[i]? = some d ∧ Ext [] F H F' H' ∧ Den K F' x d
def EvI (K : PySem.W.Frag) (wi : TI) (σ : L2.St) (F : Hp) (items : List D) : Prop :=
  ∀ H, Same F H → ∀ R : It → Hp → Prop, (∀ J F' H', Ext [] F H F' H' → WalkD K F' J items → R J H') → wi σ H R
/-- a text's signs, one by one -/
def signs (x : Str) : List D := x.cps.toList.map fun c => .str ⟨#[c]⟩
section
variable {K : PySem.W.Frag} {F F' H : Hp} {σ : L2.St} {te : TE}
theorem walkD_up {J : It} {items : List D} (h : WalkD K F J items) (e : Same F F') : WalkD K F' J items := by
  obtain ⟨G, Y, w, g, y⟩ := h
  refine ⟨G, Y, w, fun H s => g H (e.trans s), fun i H x H' hi s hy => ?_⟩
  obtain ⟨d, F2, h1, h2, h3⟩ := y i H x H' hi (e.trans s) hy
  exact ⟨d, _, h1, Ext.uni e s h2, h3.up (uni_r (s.trans h2.same) h2.s)⟩
theorem ei_lst {ds : List D} (h : EvD K te σ F (.lst ds)) : EvI K (iSeq K te) σ F ds := fun H s R q => .inl (h H s _ fun v F1 H1 x1 d1 => by
  cases d1 with
  | lst h l =>
    rename_i a xs
    refine ⟨a, rfl, ⟨xs, SqL.of (x1.s _ _ h)⟩, q _ F1 H1 x1 ⟨fun H => SqL K H a xs, YAt xs, ?_, fun H s => SqL.of (s _ _ h), fun i H x H' hi s y => ?_⟩⟩
    · rw [← l.length]; exact walk_list
    · obtain ⟨rfl, y⟩ := y
      obtain ⟨d, h1, h2⟩ := l.getV y
      exact ⟨d, F1, h1, Ext.refl s, h2⟩)
theorem ei_tup {ds : List D} (h : EvD K te σ F (.tup ds)) : EvI K (iSeq K te) σ F ds := fun H s R q => .inr (.inl (h H s _ fun v F1 H1 x1 d1 => by
  cases d1 with
  | tup h l =>
    rename_i a xs
    refine ⟨a, rfl, ⟨xs, same_t x1.s h⟩, q _ F1 H1 x1 ⟨fun H => SqT K H a xs, YAt xs, ?_, fun H s => same_t s h, fun i H x H' hi s y => ?_⟩⟩
    · rw [← l.length]; exact walk_tup
    · obtain ⟨rfl, y⟩ := y
      obtain ⟨d, h1, h2⟩ := l.getV y
      exact ⟨d, F1, h1, Ext.refl s, h2⟩))
theorem ei_str {z : Str} (h : EvD K te σ F (.str z)) : EvI K (iSeq K te) σ F (signs z) := fun H s R q => .inr (.inr (.inl (h H s _ fun v F1 H1 x1 d1 => by
  cases d1
  refine ⟨z, rfl, q _ F1 H1 x1 ⟨fun _ => True, fun i H v H' => H' = H ∧ ∃ c, z.cps[i]? = some c ∧ v = .str ⟨#[c]⟩, ?_, fun _ _ => trivial, fun i H x H' hi s y => ?_⟩⟩
  · have e : (signs z).length = z.cps.size := by unfold signs; simp
    rw [e]; exact walk_str
  · obtain ⟨rfl, c, y, rfl⟩ := y
    refine ⟨_, F1, ?_, Ext.refl s, .str _⟩
    unfold signs
    rw [List.getElem?_map, Array.getElem?_toList, y]; rfl)))
theorem ei_rng1 {ta : TA} {n : Int} (h : EvA K ta σ F [.int n]) (h1 : -(2 ^ 62) ≤ n) (h2 : n < 2 ^ 62) : EvI K (iRng1 ta) σ F ((List.range n.toNat).map fun i => .int (i : Nat)) := fun H s R q => h H s _ fun vs F1 H1 x1 d1 => by
  cases d1 with
  | cons a t =>
    cases a; cases t
    refine ⟨n, rfl, h1, h2, q _ F1 H1 x1 ⟨fun _ => True, YFn fun i => .int (0 + (i : Nat)), ?_, fun _ _ => trivial, fun i H x H' hi s y => ?_⟩⟩
    · have e : ((List.range n.toNat).map fun i => D.int (i : Nat)).length = n.toNat := by simp
      rw [e]; exact walk_range
    · obtain ⟨rfl, rfl⟩ := y
      refine ⟨.int (i : Nat), F1, ?_, Ext.refl s, ?_⟩
      · rw [List.length_map] at hi
        rw [List.getElem?_map, List.getElem?_eq_getElem hi]; simp
      · show Den K F1 (.int (0 + (i : Int))) (.int (i : Int))
        rw [Int.zero_add]; exact .int _

/-! ### lists that are built -/
variable {F1 H1 F2 H2 : Hp} {Dl : Addr}
theorem Ext.mutNew {M : List Addr} {o : HO} (x : Ext M F H F1 H1) (h : H Dl = none) (f : F1 Dl = none) : Ext M F H F1 (upd H1 Dl o) :=
  ⟨x.f, fun a u m e => by rw [upd_ne (ne_of_none e h)]; exact x.h a u m e, fun a u e => by rw [upd_ne (ne_of_none e f)]; exact x.s a u e, x.n, fun a e => upd_keeps a (x.k a e)⟩
theorem Ext.freeze {M : List Addr} {o : HO} (x : Ext M F H F1 H1) (h : H Dl = none) (e : H1 Dl = some o) (f : F1 Dl = none) : Ext M F H (upd F1 Dl o) H1 :=
  ⟨fun a u q => by rw [upd_ne (ne_of_none (x.f a u q) f)]; exact x.f a u q, x.h, fun a u q => by
    by_cases z : a = Dl
    · subst z; rw [upd_same] at q; rw [← q]; exact e
    · rw [upd_ne z] at q; exact x.s a u q, fun a q k => by rw [upd_ne (fun z => k (by rw [z]; exact h))]; exact x.n a q k, x.k⟩
theorem same_new {o : HO} (f : F Dl = none) : Same F (upd F Dl o) := fun a u q => by rw [upd_ne (ne_of_none q f)]; exact q
theorem take_succ' {α : Type} {l : List α} {i : Nat} {x : α} (h : l[i]? = some x) : l.take (i + 1) = l.take i ++ [x] := by
  rw [List.take_add_one, h]; rfl
theorem ev_lcIf {r : List Sl} {items : List D} {f : D → D} {p : D → Bool} {j : Nat} {vs : List Nat} {tt : TT} {wi : TI} (E : EnvD K F r σ) (hi : EvI K wi σ F items) (hn : items.length < sizeLine)
    (hw : ∀ (σ' : L2.St) (x : Option V), wipe ((wipe σ' vs).set j x) vs = wipe σ' vs)
    (ht : ∀ d F' σ', d ∈ items → Same F F' → EnvD K F' ((wipeR r vs).set j (.d d)) σ' → EvT K tt σ' F' (p d))
    (he : ∀ d F' σ', d ∈ items → Same F F' → EnvD K F' ((wipeR r vs).set j (.d d)) σ' → p d = true → EvD K te σ' F' (f d)) :
    EvD K (tLc wi (gName j) tt te vs) σ F (.lst ((items.filter p).map f)) := fun H s Q q => hi H s _ fun J F1 H1 x1 W1 Dl hD => by
  obtain ⟨G, Y, w, hg, hy⟩ := W1
  refine lc_it w (fun i H' => ∃ F' acc, Ext [] F1 H1 F' H' ∧ F' Dl = none ∧ H' Dl = some (.lst acc) ∧ DenL K F' acc (((items.take i).filter p).map f)) ?_ ?_ ?_ ?_
  · exact ⟨F1, [], Ext.newM x1.s hD, x1.s.free hD, upd_same, .nil⟩
  · rintro i H' _ ⟨F', acc, x, _⟩
    exact hg H' (x.f.trans x.s)
  · rintro i v H' H'' hlt ⟨F', acc, x, fD, eD, l⟩ y
    obtain ⟨d, F2, h1, h2, h3⟩ := hy i H' v H'' hlt (x.f.trans x.s) y
    have hd : d ∈ items := List.mem_of_getElem? h1
    have x2 := Ext.uni x.f x.s h2
    have h3' : Den K (uni F' F2) v d := h3.up (uni_r (x.s.trans h2.same) h2.s)
    have fD2 : uni F' F2 Dl = none := x2.n Dl fD (by rw [eD]; simp)
    have eD2 : H'' Dl = some (.lst acc) := x2.same _ _ eD
    have E2 : EnvD K (uni F' F2) ((wipeR r vs).set j (.d d)) ((wipe σ vs).set j (some v)) := EnvD.set j ((EnvD.wipe E vs).up ((x1.f.trans x.f).trans x2.f)) ⟨v, rfl, h3'⟩
    have sF : Same F (uni F' F2) := (x1.f.trans x.f).trans x2.f
    refine ⟨hw σ _, ?_⟩
    refine ht d _ _ hd sF E2 H'' x2.s _ fun F3 H3 x3 => ?_
    have fD3 : F3 Dl = none := x3.n Dl fD2 (by rw [eD2]; simp)
    have eD3 : H3 Dl = some (.lst acc) := x3.same _ _ eD2
    cases hp : p d with
    | true =>
      rw [if_pos rfl]
      refine ((he d _ _ hd sF E2 hp).up x3.f) H3 x3.s _ fun z F4 H4 x4 d4 => ?_
      have fD4 : F4 Dl = none := x4.n Dl fD3 (by rw [eD3]; simp)
      have eD4 : H4 Dl = some (.lst acc) := x4.same _ _ eD3
      refine ⟨acc, eD4, ?_, F4, acc ++ [z], Ext.mutNew (((x.tr x2).tr x3).tr x4) hD fD4, fD4, upd_same, ?_⟩
      · have := l.length
        rw [List.length_map] at this
        have h5 := List.length_filter_le p (items.take i)
        have h6 := List.length_take_le i items
        omega
      · rw [take_succ' h1, List.filter_append, List.map_append, List.filter_cons, if_pos hp]
        exact (l.up ((x2.f.trans x3.f).trans x4.f)).append (.cons d4 .nil)
    | false =>
      rw [if_neg (by decide)]
      refine ⟨F3, acc, (x.tr x2).tr x3, fD3, eD3, ?_⟩
      rw [take_succ' h1, List.filter_append, List.map_append, List.filter_cons, if_neg (by rw [hp]; decide)]
      show DenL K F3 acc (_ ++ [])
      rw [List.append_nil]
      exact l.up (x2.f.trans x3.f)
  · rintro H' ⟨F', acc, x, fD, eD, l⟩
    rw [List.take_length] at l
    exact q _ _ _ (x1.tr (Ext.freeze x hD eD fD)) (.lst upd_same (l.up (same_new fD)))
theorem et_yes : EvT K tYes σ F true := fun H s Q q => q F H (Ext.refl s)
theorem ev_lc {r : List Sl} {items : List D} {f : D → D} {j : Nat} {vs : List Nat} {wi : TI} (E : EnvD K F r σ) (hi : EvI K wi σ F items) (hn : items.length < sizeLine)
    (hw : ∀ (σ' : L2.St) (x : Option V), wipe ((wipe σ' vs).set j x) vs = wipe σ' vs)
    (he : ∀ d F' σ', d ∈ items → Same F F' → EnvD K F' ((wipeR r vs).set j (.d d)) σ' → EvD K te σ' F' (f d)) :
    EvD K (tLc wi (gName j) tYes te vs) σ F (.lst (items.map f)) := by
  have h := ev_lcIf (p := fun _ => true) E hi hn hw (fun _ _ _ _ _ _ => et_yes) fun d F' σ' h1 h2 h3 _ => he d F' σ' h1 h2 h3
  rwa [List.filter_eq_self.mpr (fun _ _ => rfl)] at h
theorem wipe1 (j : Nat) (σ' : L2.St) (x : Option V) : wipe ((wipe σ' [j]).set j x) [j] = wipe σ' [j] := by
  show ((σ'.set j none).set j x).set j none = σ'.set j none
  rw [List.set_set, List.set_set]

/-! ### statements -/
variable {DE : Ends} {tz tb : TS} {r : List Sl} {d : D}
theorem s_ret (S : Same F H) (h : EvD K te σ F d) (k : ∀ v F' H', Ext [] F H F' H' → Den K F' v d → DE.rt v H') : tRet te DE σ H := h H S _ k
theorem q_asg {j : Nat} (S : Same F H) (E : EnvD K F r σ) (h : EvD K te σ F d) (k : ∀ F' H' σ', Ext [] F H F' H' → EnvD K F' (r.set j (.d d)) σ' → tz DE σ' H') : tSeq (tAsg te (gName j)) tz DE σ H :=
  h H S _ fun v F' H' x dv => k F' H' _ x (EnvD.set j (E.up x.f) ⟨v, rfl, dv⟩)
theorem s_asg {j : Nat} (S : Same F H) (E : EnvD K F r σ) (h : EvD K te σ F d) (k : ∀ F' H' σ', Ext [] F H F' H' → EnvD K F' (r.set j (.d d)) σ' → DE.nx σ' H') : tAsg te (gName j) DE σ H :=
  h H S _ fun v F' H' x dv => k F' H' _ x (EnvD.set j (E.up x.f) ⟨v, rfl, dv⟩)
theorem q_if {tt : TT} {tu tw : TS} {b : Bool} (S : Same F H) (h : EvT K tt σ F b) (h1 : b = true → ∀ F' H', Ext [] F H F' H' → tu { DE with nx := tz DE } σ H') (h2 : b = false → ∀ F' H', Ext [] F H F' H' → tw { DE with nx := tz DE } σ H') :
    tSeq (tIfS tt tu tw) tz DE σ H := h H S _ fun F' H' x => by
  cases b with
  | true => exact h1 rfl F' H' x
  | false => exact h2 rfl F' H' x
theorem s_if {tt : TT} {tu tw : TS} {b : Bool} (S : Same F H) (h : EvT K tt σ F b) (h1 : b = true → ∀ F' H', Ext [] F H F' H' → tu DE σ H') (h2 : b = false → ∀ F' H', Ext [] F H F' H' → tw DE σ H') :
    tIfS tt tu tw DE σ H := h H S _ fun F' H' x => by
  cases b with
  | true => exact h1 rfl F' H' x
  | false => exact h2 rfl F' H' x
/-- a for over data; Pv: turn, frozen part, heap, frame -/
theorem s_for (M : List Addr) (Pv : Nat → Hp → Hp → List Sl → Prop) {items : List D} {wi : TI} {j : Nat} (S : Same F H) (E : EnvD K F r σ) (hi : EvI K wi σ F items)
    (h0 : ∀ F' H', Ext [] F H F' H' → Pv 0 F' H' r)
    (hs : ∀ i d F1 H1 F2 H2 r' σ' (N : L2.St → Hp → Prop), items[i]? = some d → Ext M F H F1 H1 → Pv i F1 H1 r' → Ext [] F1 H1 F2 H2 → EnvD K F2 (r'.set j (.d d)) σ' →
      (∀ F3 H3 r3 σ3, Ext M F2 H2 F3 H3 → EnvD K F3 r3 σ3 → Pv (i + 1) F3 H3 r3 → N σ3 H3) → tb { DE with nx := N, ct := N, bk := DE.nx } σ' H2)
    (hd : ∀ F' H' r' σ', Ext M F H F' H' → EnvD K F' r' σ' → Pv items.length F' H' r' → DE.nx σ' H') : tFor wi (gName j) tb DE σ H :=
  hi H S _ fun J F1 H1 x1 W1 => by
    obtain ⟨G, Y, w, hg, hy⟩ := W1
    refine ⟨fun i m σ3 H3 => m = items.length - i ∧ i ≤ items.length ∧ ∃ F3 r3, Ext M F H F3 H3 ∧ Same F1 F3 ∧ EnvD K F3 r3 σ3 ∧ Pv i F3 H3 r3, ⟨items.length, by simp, Nat.zero_le _, F1, r, x1.wide (by simp), Same.refl _, E.up x1.f, h0 F1 H1 x1⟩, ?_⟩
    rintro i m σ3 H3 ⟨rfl, hle, F3, r3, x, e, E3, p⟩
    have hG := hg H3 (e.trans x.s)
    by_cases hlt : i < items.length
    · refine .inr ⟨w.goes i H3 hlt hG, fun σ' H' => ∃ F4 r4, Ext M F H F4 H' ∧ Same F1 F4 ∧ EnvD K F4 r4 σ' ∧ Pv (i + 1) F4 H' r4, fun σ' H' q => ⟨items.length - (i + 1), by omega, rfl, hlt, q⟩, fun v H4 y => ?_⟩
      obtain ⟨d, F2, h1, h2, h3⟩ := hy i H3 v H4 hlt (e.trans x.s) (w.yields i H3 v H4 hlt hG y)
      have x2 := Ext.uni e x.s h2
      have h3' : Den K (uni F3 F2) v d := h3.up (uni_r (x.s.trans h2.same) h2.s)
      exact hs i d F3 H3 _ H4 r3 _ _ h1 x p x2 (EnvD.set j (E3.up x2.f) ⟨v, rfl, h3'⟩) fun F5 H5 r5 σ5 x5 E5 p5 => ⟨F5, r5, (x.tl x2).trans x5, (e.trans x2.f).trans x5.f, E5, p5⟩
    · have ei : i = items.length := by omega
      subst ei
      exact .inl ⟨w.stops H3 hG, hd F3 H3 r3 σ3 x E3 p⟩
end

/-! ### a def that is pure: its arguments and what it gives, by data -/
def spP (K : PySem.W.Frag) (n : Nat) (f : List D → Option D) : Sp := fun vs H Q _ => ∃ F ds d, Same F H ∧ DenL K F vs ds ∧ f ds = some d ∧ ds.length = n ∧ ∀ v F' H', Ext [] F H F' H' → Den K F' v d → Q v H'
theorem spP_len {K : PySem.W.Frag} {n : Nat} {f : List D → Option D} {vs : List V} {H : Hp} {Q : VK} {E : XK} (h : spP K n f vs H Q E) : vs.length = n := by
  obtain ⟨F, ds, d, _, l, _, e, _⟩ := h
  rw [l.length, e]
theorem ev_call {K : PySem.W.Frag} {n : Nat} {f : List D → Option D} {F : Hp} {σ : L2.St} {ta : TA} {E : XK} {ds : List D} {d : D} (ha : EvA K ta σ F ds) (hf : f ds = some d) (hn : ds.length = n) : EvD K (tCall (spP K n f) [] E ta) σ F d := fun H s Q q =>
  ha H s _ fun vs F1 H1 x1 l1 => ⟨F1, ds, d, x1.s, by rw [List.append_nil]; exact l1, hf, hn, fun v F2 H2 x2 d2 => q v F2 H2 (x1.tr x2) d2⟩
end Nm

set_option Elab.async false
set_option linter.all false
set_option maxRecDepth 100000
set_option maxHeartbeats 2000000
namespace Nm
open PySem PySem.Spec L2

theorem hu4 {k : Nat} {A : Around} (hr : Room k A) : A.units + 64 < cLine := hr.units
section
variable {X : Cx}
/-- text * number -/
def rMulS : R2 := fun x y H Q => ∃ (z : Str) (n : Int), x = .str z ∧ y = .int n ∧ 0 ≤ n ∧ n ≤ 1000000 ∧ z.length * n.toNat ≤ sizeLine ∧ Q (.str ⟨(List.replicate n.toNat z.cps.toList).flatten.toArray⟩) H
theorem fold_cat : ∀ (l : List (Array Nat)) (acc : Array Nat), (l.foldl (· ++ ·) acc).toList = acc.toList ++ (l.map Array.toList).flatten
  | [], acc => by simp
  | a :: l, acc => by simp [fold_cat l, List.append_assoc]
theorem str_ext {a b : Str} (h : a.cps.toList = b.cps.toList) : a = b := by
  obtain ⟨⟨a⟩⟩ := a
  obtain ⟨⟨b⟩⟩ := b
  have e : a = b := h
  rw [e]
theorem o_mul_str : OpR X (binaryOp .Mult) rMulS := by
  intro pins s σ H x y v u Q I rx ry h
  obtain ⟨z, n, rfl, rfl, h0, h1, hz, q⟩ := h
  obtain ⟨t, rfl⟩ := rx
  obtain ⟨t', rfl⟩ := ry
  have big : sizeLine = 16777216 := sizeLine_eq
  have e1 : (decide (n < -(2 ^ 63 : Int)) || decide (n ≥ 2 ^ 63)) = false := by
    rw [decide_eq_false (by omega), decide_eq_false (by omega)]; rfl
  have lz : z.length = z.cps.toList.length := by simp [Str.length]
  refine PySem.P.mul_str e1 (fun a b => ?_) (fun a b => ?_) ?_
  · have hn : 1 ≤ n.toNat := by omega
    have h2 : z.length ≤ z.length * n.toNat := Nat.le_mul_of_pos_right _ hn
    have h3 : (2 ^ 63 - 1 : Int) / n ≥ (2 ^ 63 - 1 : Int) / 1000000 := by
      have : (2 ^ 63 - 1 : Int) / 1000000 * n ≤ 2 ^ 63 - 1 := by
        have : (2 ^ 63 - 1 : Int) / 1000000 * n ≤ (2 ^ 63 - 1 : Int) / 1000000 * 1000000 := Int.mul_le_mul_of_nonneg_left h1 (by decide)
        omega
      exact (Int.le_ediv_iff_mul_le (by omega)).mpr this
    have h4 : (2 ^ 63 - 1 : Int) / 1000000 ≥ 16777216 := by decide
    omega
  · unfold Builtin.Str.tooLong
    simp only [decide_eq_false_iff_not]
    omega
  · by_cases c : n < 1
    · rw [if_pos c]
      have : n.toNat = 0 := by omega
      rw [this] at q
      exact ⟨by decide, .str _, H, I.tok _, ⟨_, rfl⟩, q⟩
    · rw [if_neg c]
      by_cases d : (n == 1 || z.length == 0) = true
      · rw [if_pos d]
        refine ⟨.str z, H, I, ⟨_, rfl⟩, ?_⟩
        have e : (⟨(List.replicate n.toNat z.cps.toList).flatten.toArray⟩ : Str) = z := by
          apply str_ext
          show (List.replicate n.toNat z.cps.toList).flatten = z.cps.toList
          rcases Bool.or_eq_true_iff.mp d with d | d
          · have : n = 1 := by simpa using d
            subst this; simp
          · have : z.cps.toList = [] := by
              have : z.length = 0 := by simpa using d
              rw [lz] at this
              exact List.length_eq_zero_iff.mp this
            rw [this]; simp
        rw [e] at q
        exact q
      · rw [if_neg d]
        have e : (⟨(List.replicate n.toNat z.cps).foldl (· ++ ·) #[]⟩ : Str) = ⟨(List.replicate n.toNat z.cps.toList).flatten.toArray⟩ := by
          apply str_ext
          show ((List.replicate n.toNat z.cps).foldl (· ++ ·) #[]).toList = (List.replicate n.toNat z.cps.toList).flatten
          rw [fold_cat, List.map_replicate]; simp
        refine ⟨?_, .str _, H, I.tok _, ⟨_, rfl⟩, ?_⟩
        · rw [e]
          have : (⟨(List.replicate n.toNat z.cps.toList).flatten.toArray⟩ : Str).length = n.toNat * z.cps.toList.length := by simp [Str.length]
          rw [this, ← lz, Nat.mul_comm]; exact hz
        · rw [e]; exact q
def rMulA (K : PySem.W.Frag) : R2 := fun x y H Q => rI CMul (fun i j => .int (i * j)) x y H Q ∨ rMulS x y H Q ∨ rRep x y H Q
theorem o_mul : OpR X (binaryOp .Mult) (rMulA X.K) := opr_or op_mul (opr_or o_mul_str op_rep)

/-- a[i]: list, tuple, text, dict -/
def rIxD : R2 := fun x y H Q => ∃ a v, x = .ref a ∧ DGet H a y (some v) ∧ Q v H
theorem ix_dict (hu : X.A.units + 1 < cLine) : IxR X Nm.rIxD := by
  intro value slice pins s σ H x y v u Q I rx ry h hs
  obtain ⟨a, z, rfl, g, q⟩ := h
  cases (show v = Value.ref a from rx)
  exact PyProof.Rows.tail_any (dict_typeIs I g) PySem.F.slot_dict_getitem.lookup (d_getItem hu I g ry fun w' s' I' rw' => ⟨z, H, I', rw', q⟩) hs
def rIxA (K : PySem.W.Frag) : R2 := fun x y H Q => rIx K x y H Q ∨ Nm.rIxD x y H Q
theorem ix_any (hu : X.A.units + 1 < cLine) : IxR X (rIxA X.K) := ix_seq.or (ix_dict hu)
/-- a[i:j] -/
def rSlAny (K : PySem.W.Frag) : V → Option Int → Option Int → Hp → VK → Prop := fun x lo hi H Q => rSlS x lo hi H Q ∨ rSlL K x lo hi H Q ∨ rSlA K x lo hi H Q
theorem sl_any : SlR X (rSlAny X.K) := sl_str.or (sl_list.or sl_tupA)
abbrev tSome (t : TE) : TO := tPart t
abbrev tNo : TO := tNoPart
/-- == != -/
def rEqA (K : PySem.W.Frag) : R2 := fun x y H Q => rEq x y H Q ∨ rEqD K x y H Q
def rNeA (K : PySem.W.Frag) : R2 := fun x y H Q => rNe x y H Q ∨ rNeD K x y H Q
theorem o_eq (hu : X.A.units + 64 < cLine) : OpR X (compareOp .Eq) (rEqA X.K) := opr_or op_eq (op_eqD hu)
theorem o_ne (hu : X.A.units + 64 < cLine) : OpR X (compareOp .NotEq) (rNeA X.K) := opr_or op_ne (op_neD hu)
def rIsNone : R2 := fun x y H Q => y = .non ∧ Q (.bl (decide (x = .non))) H
def rNotNone : R2 := fun x y H Q => y = .non ∧ Q (.bl (!decide (x = .non))) H
def rAbs : List V → Hp → VK → Prop := fun xs H Q => ∃ i, xs = [.int i] ∧ Q (.int (if i < 0 then -i else i)) H
def rMax2 : List V → Hp → VK → Prop := fun xs H Q => ∃ i j, xs = [.int i, .int j] ∧ Q (.int (if j > i then j else i)) H
def rMin2 : List V → Hp → VK → Prop := fun xs H Q => ∃ i j, xs = [.int i, .int j] ∧ Q (.int (if j < i then j else i)) H
def rJoin (K : PySem.W.Frag) : V → List V → Hp → VK → Prop := fun x xs H Q => ∃ a p, ∃ ys : List Str, x = .str a ∧ xs = [.ref p] ∧ (SqL K H p (ys.map V.str) ∨ SqT K H p (ys.map V.str)) ∧
  (ys.map (·.length)).sum + ys.length * a.length ≤ 16777216 ∧ Q (.str (Txt.join a ys)) H
def rIsiA (K : PySem.W.Frag) : List V → Hp → VK → Prop := fun xs H Q => rIsi K xs H Q ∨ rIsiT K xs H Q
theorem c_isi : CallR X (.builtin "isinstance") (rIsiA X.K) := calr_or call_isi call_isiT
def rLtA (K : PySem.W.Frag) : R2 := rCmpA (fun i j => decide (i < j)) fun a b => decide (a < b)
def rLeA (K : PySem.W.Frag) : R2 := rCmpA (fun i j => decide (i ≤ j)) fun a b => !decide (b < a)
def rGtA (K : PySem.W.Frag) : R2 := rCmpA (fun i j => decide (j < i)) fun a b => decide (b < a)
def rGeA (K : PySem.W.Frag) : R2 := rCmpA (fun i j => decide (j ≤ i)) fun a b => !decide (a < b)
theorem x_lt (hu : X.A.units < cLine) : OpR X (compareOp .Lt) (rLtA X.K) := o_lt
theorem x_le (hu : X.A.units < cLine) : OpR X (compareOp .LtE) (rLeA X.K) := o_le
theorem x_gt (hu : X.A.units < cLine) : OpR X (compareOp .Gt) (rGtA X.K) := o_gt
theorem x_ge (hu : X.A.units < cLine) : OpR X (compareOp .GtE) (rGeA X.K) := o_ge

/-! ### repr -/
def rReprD (K : PySem.W.Frag) : List V → Hp → VK → Prop := fun xs H Q => ∃ v d, xs = [v] ∧ Dp K H v d ∧ d.showable = true ∧ d.depth ≤ 40 ∧ d.shown.length ≤ sizeLine ∧ Q (.str d.shown) H
theorem reads_of_ref {h : Heap} {u : Value} {d : PyData} {as : List Addr} (r : Reads h u d as) : d.hasDict = false → (∃ a, u = .ref a) ∨ ((d = .none ∧ u = .none) ∨ (∃ b, d = .bool b ∧ u = .bool b) ∨ (∃ i t, d = .int i ∧ u = .int i t) ∨ ∃ x t, d = .str x ∧ u = .str x t) := fun hd => by
  cases r with
  | none => exact .inr (.inl ⟨rfl, rfl⟩)
  | bool b => exact .inr (.inr (.inl ⟨b, rfl, rfl⟩))
  | int i t => exact .inr (.inr (.inr (.inl ⟨i, t, rfl, rfl⟩)))
  | str x t => exact .inr (.inr (.inr (.inr ⟨x, t, rfl, rfl⟩)))
  | list => exact .inl ⟨_, rfl⟩
  | tuple => exact .inl ⟨_, rfl⟩
  | dict => exact .inl ⟨_, rfl⟩
mutual
theorem dp_noDict {K : PySem.W.Frag} {H : Hp} : ∀ (d : PyData) {v : V}, Dp K H v d → d.hasDict = false
  | .none, _, _ => by simp only [PyData.hasDict]
  | .bool _, _, _ => by simp only [PyData.hasDict]
  | .int _, _, _ => by simp only [PyData.hasDict]
  | .str _, _, _ => by simp only [PyData.hasDict]
  | .list ds, _, h => by cases h with | lst _ l => simp only [PyData.hasDict]; exact dp_noDictL ds l
  | .tuple ds, _, h => by cases h with | tup _ l => simp only [PyData.hasDict]; exact dp_noDictL ds l
  | .dict _, _, h => by cases h
theorem dp_noDictL {K : PySem.W.Frag} {H : Hp} : ∀ (ds : List PyData) {vs : List V}, DpAll K H vs ds → PyData.hasDictAll ds = false
  | [], _, _ => by simp only [PyData.hasDictAll]
  | d :: ds, _, h => by cases h with | cons a b => simp only [PyData.hasDictAll, dp_noDict d a, dp_noDictL ds b, Bool.or_self]
end
theorem c_reprD (hg : X.A.guards = some []) (hu : X.A.units + 64 < cLine) : CallR X (.builtin "repr") (rReprD X.K) := by
  intro pins s σ H xs us Q I r h
  obtain ⟨v, d, rfl, dp, hs, hd, hz, q⟩ := h
  obtain ⟨u, rfl, ru⟩ := vals1 r
  obtain ⟨as, rd⟩ := Dp.reads I d v u dp ru
  rcases reads_of_ref rd (dp_noDict d dp) with ⟨a, rfl⟩ | ⟨rfl, rfl⟩ | ⟨b, rfl, rfl⟩ | ⟨i, t, rfl, rfl⟩ | ⟨x, t, rfl, rfl⟩
  · exact repr_of_reads' rd hs (fun e => absurd e (by rw [dp_noDict d dp]; decide)) hg (by omega) (fun _ _ e => e) (fun h' u tk hk => ⟨.str d.shown, H, I.kept (t' := tk) hk, ⟨_, rfl⟩, q⟩) hz
  · have e : PyData.none.shown = "None" := by simp only [PyData.shown]
    rw [e] at q
    exact PySem.P.repr_of_none ⟨.str _, H, I.tok _, ⟨_, rfl⟩, q⟩
  · have e : (PyData.bool b).shown = if b = true then Str.ofString "True" else Str.ofString "False" := by simp only [PyData.shown]
    rw [e] at q
    exact PySem.P.repr_of_bool ⟨.str _, H, I.tok _, ⟨_, rfl⟩, q⟩
  · have e : (PyData.int i).shown = toString i := by simp only [PyData.shown]
    rw [e] at q
    exact PySem.P.repr_of_int (by simpa [PyData.showable] using hs) ⟨.str _, H, I.tok _, ⟨_, rfl⟩, q⟩
  · have e : (PyData.str x).shown = reprText x := by simp only [PyData.shown]
    rw [e] at q hz
    exact PySem.P.repr_of_str ⟨.str _, H, I.tok _, ⟨_, rfl⟩, q⟩ hz
/-! ### repr of a dict whose values are plain -/
def kPy : Key → PyData
  | .inl i => .int i
  | .inr x => .str x
def vPy : V → PyData
  | .bl b => .bool b
  | .int i => .int i
  | .str x => .str x
  | _ => .none
def kvPy (kvs : List (Key × V)) : List (PyData × PyData) := kvs.map fun p => (kPy p.1, vPy p.2)
def rReprK : List V → Hp → VK → Prop := fun xs H Q => ∃ a kvs, xs = [.ref a] ∧ Rd H a (.dK kvs) ∧ kvs.all (fun p => flatV p.2) = true ∧ (PyData.dict (kvPy kvs)).showable = true ∧ (PyData.dict (kvPy kvs)).shown.length ≤ sizeLine ∧ (PyData.dict (kvPy kvs)).depth ≤ 40 ∧
  Q (.str (PyData.dict (kvPy kvs)).shown) H
theorem reads_flat {h : Heap} {v : V} {u : Value} (f : flatV v = true) (r : RelV v u) : Reads h u (vPy v) [] := by
  cases v with
  | non => cases r; exact .none
  | bl b => cases r; exact .bool b
  | int i => obtain ⟨t, rfl⟩ := r; exact .int i t
  | str x => obtain ⟨t, rfl⟩ := r; exact .str x t
  | _ => cases f
theorem reads_key {h : Heap} {k : Key} {u : Value} (r : keyIs k u = true) : Reads h u (kPy k) [] := by
  rcases keyIs_shape r with ⟨i, t, rfl, rfl⟩ | ⟨x, t, rfl, rfl⟩
  · exact .int i t
  · exact .str x t
theorem reads_pairs {P : Program} {w : World} {h : Heap} : ∀ {es : List DictEntry} {vs : List (Key × Value)} {kvs : List (Key × V)}, Pairs (mixKind P w) es vs → KV kvs vs → kvs.all (fun p => flatV p.2) = true →
    ReadsAll h (es.map (·.key)) ((kvPy kvs).map (·.1)) [] ∧ ReadsAll h (es.map (·.val)) ((kvPy kvs).map (·.2)) []
  | es, vs, kvs, p, r, f => by
    induction p generalizing kvs with
    | nil => cases r; exact ⟨.nil, .nil⟩
    | cons a b c ih =>
      cases r with
      | cons q t =>
        rw [List.all_cons, Bool.and_eq_true] at f
        obtain ⟨h1, h2⟩ := ih _ t f.2
        refine ⟨?_, ?_⟩
        · exact ReadsAll.cons (as := []) (reads_key (by rw [q.1]; exact a)) h1
        · exact ReadsAll.cons (as := []) (reads_flat f.1 (by show RelV _ (DictEntry.val _); rw [b]; exact q.2)) h2
theorem c_reprK (hg : X.A.guards = some []) (hu : X.A.units + 64 < cLine) : CallR X (.builtin "repr") rReprK := by
  intro pins s σ H xs us Q I r h
  obtain ⟨a, kvs, rfl, rd, fl, hs, hz, hd, q⟩ := h
  obtain ⟨u, rfl, ru⟩ := vals1 r
  cases (show u = Value.ref a from ru)
  obtain ⟨_, ns, vs, rv, o, es, ep, h1, h2, h3, _, h4, _⟩ := dk_rd I.hok rd
  obtain ⟨k1, k2⟩ := reads_pairs (h := s.heap) h4 rv fl
  have rr : Reads s.heap (.ref a) (.dict (kvPy kvs)) ([a] ++ [] ++ []) := Reads.dict h1 h2.1 h3 k1 k2
  exact repr_of_reads' rr hs (fun _ m => by
    have e : sysModules = a := by simpa using m
    rw [← e] at ns
    simp at ns) hg (by omega) (fun _ _ e => e) (fun h' u tk hk => ⟨.str _, H, I.kept (t' := tk) hk, ⟨_, rfl⟩, q⟩) hz
def rReprA (K : PySem.W.Frag) : List V → Hp → VK → Prop := fun xs H Q => rReprD K xs H Q ∨ rReprK xs H Q
theorem c_repr (hg : X.A.guards = some []) (hu : X.A.units + 64 < cLine) : CallR X (.builtin "repr") (rReprA X.K) := calr_or (c_reprD hg hu) (c_reprK hg hu)
end
end Nm

set_option Elab.async false
set_option linter.all false
set_option maxRecDepth 100000
set_option maxHeartbeats 2000000
namespace Nm
open PySem PySem.Spec L2 PyProof.Rows

/-! ### defs whose promise wants that no repr is under way -/
structure FnOkG (P : Program) (w : World) (K : PySem.W.Frag) (mg : Str → Option Value) (base : Heap) (CX : CXT) (k : Nat) (f : Addr) (fd : FuncData) (ps : List Str) (sp : Sp) : Prop where
  len : ∀ vs H Q E, sp vs H Q E → vs.length = ps.length
  run : ∀ (A : Around) (outer : List Env) (s : Shared) (H : Hp) (args : Args) (us : List Value) (vs : List V) (Q : VK) (E : XK), A.guards = some [] → Room k A → Env0 P w K mg base A outer s H → BindsTo s fd args (ps.zip us) →
    Vals vs us → sp vs H Q E → codeAny (model P w) A (.call (.ref f) args) (CR CX outer P w H s Q E) s
section
variable {P : Program} {w : World} {K : PySem.W.Frag} {mg : Str → Option Value} {base : Heap} {CX : CXT} {k : Nat} {f : Addr} {fd : FuncData} {ps : List Str} {sp : Sp}
theorem FnOkG.mono {j : Nat} (F : FnOkG P w K mg base CX j f fd ps sp) (h : j ≤ k) : FnOkG P w K mg base CX k f fd ps sp :=
  ⟨F.len, fun A outer s H args us vs Q E g hr => F.run A outer s H args us vs Q E g (hr.mono h)⟩
/-- the body, from its term and its reading -/
theorem fnG {x qual : Str} {st : Stmt} {N : List Str} (F : Fun K x qual st f fd) (S : FnScope N ps (defScope st)) (len : ∀ vs H Q E, sp vs H Q E → vs.length = ps.length)
    (hbody : ∀ (cdv : Value) (A : Around) (outer : List Env) (s : Shared) (H : Hp) (vs : List V) (Q : VK) (E : XK), A.guards = some [] → Room k (A.deeper (envOfC qual (defScope st) s.heap.objs.size f cdv)) → sp vs H Q E →
      ∃ t, PSs (cxOf CX P w K mg base N qual (defScope st) f cdv A outer s H E) (defBody st) t ∧ t { nx := fun _ H' => Q .non H', rt := Q } (start N vs) H) : FnOkG P w K mg base CX (k + 1) f fd ps sp := by
  refine ⟨len, fun A outer s H args us vs Q E g hr e0 hb r hsp => ?_⟩
  -- a promise that speaks of this one call alone
  have one : FnOk P w K mg base CX (k + 1) f fd ps (fun vs' H' Q' E' => A.guards = some [] ∧ vs' = vs ∧ H' = H ∧ Q' = Q ∧ E' = E) → codeAny (model P w) A (.call (.ref f) args) (CR CX outer P w H s Q E) s := fun F' =>
    F'.run A outer s H args us vs Q E hr e0 hb r ⟨g, rfl, rfl, rfl, rfl⟩
  obtain ⟨oc, od, kV, doc, pm, an, cdv, ct, osl, hfd, lk, hcd⟩ := F.ex
  subst hfd
  have hl := len _ _ _ _ hsp
  have KX : K.In s.heap := e0.mod.kin.keeps fun b o e => (e0.bs b o e).1
  have kinds : ∀ y ∈ ps.zip us, (defScope st).names.lookup y.1 = some .local ∨ ((defScope st).names.lookup y.1 = some .cell ∧ ((cellsFrom (s.heap.objs.size + 1) (defScope st).names []).lookup y.1).isSome = true) := by
    rintro ⟨n, v⟩ hy
    have hn : n ∈ ps := (List.of_mem_zip hy).1
    exact (S.par n hn).imp id fun c => ⟨c, PySem.W.cellsFrom_some _ _ _ (Or.inl c)⟩
  refine codeAny_call_function hr.depth (KX _ _ lk) rfl S.co S.gen rfl (PySem.W.codeRec_of KX hcd) (hb _ _ _ _ ?_)
  refine wpAny_newFunctionEnv_cells S.kind kinds fun env he s1 x => ?_
  subst he
  refine ⟨(e0.mod.nolimit.keeps fun b o e => (e0.bs b o e).1).keeps x.toInCall.keep, codeAny_func ?_⟩
  obtain ⟨t, ht, hq⟩ := hbody cdv A outer s H vs Q E g (hr.deeper _) hsp
  have J0 := inv_start (CX := CX) (E := E) S hr.hd e0 hl r x
  refine wpAny_mono (ht.run [] s1 (start N vs) H _ J0 hq) (fun fl s' hs => ?_) fun e s' hs => hs
  match fl, hs with
  | .ret u, ⟨v, _, H', J, rv, q⟩ => exact ⟨v, H', J.os, J.bare, J.base, J.hok, rv, q⟩
  | .next, ⟨_, H', J, q⟩ => exact ⟨.non, H', J.os, J.bare, J.base, J.hok, rfl, q⟩
  | .brk, ⟨_, _, _, q⟩ => exact q.elim
  | .cont, ⟨_, _, _, q⟩ => exact q.elim
theorem fnG0 {x qual : Str} {st : Stmt} {N : List Str} (F : Fun K x qual st f fd) (S : FnScope N ps (defScope st)) (len : ∀ vs H Q E, sp vs H Q E → vs.length = ps.length)
    (hbody : ∀ (cdv : Value) (A : Around) (outer : List Env) (s : Shared) (H : Hp) (vs : List V) (Q : VK) (E : XK), A.guards = some [] → Room k (A.deeper (envOfC qual (defScope st) s.heap.objs.size f cdv)) → sp vs H Q E →
      ∃ t, PSs (cxOf CX0 P w K mg base N qual (defScope st) f cdv A outer s H E).nox (defBody st) t ∧ t { nx := fun _ H' => Q .non H', rt := Q } (start N vs) H) : FnOkG P w K mg base CX0 (k + 1) f fd ps sp :=
  fnG F S len fun cdv A outer s H vs Q E g hr h => by
    obtain ⟨t, h1, h2⟩ := hbody cdv A outer s H vs Q E g hr h
    exact ⟨t, h1.nox, h2⟩
end
section
variable {X : Cx} {CX : CXT} {k : Nat} {f : Addr} {fd : FuncData} {ps : List Str} {sp : Sp} {dvs : List V} {ds : List Value} {E : XK} {x : Str} {p pos : Pos} {e : Expr} {es : List Expr} {t : TA}
theorem pe_callG (F : FnOkG X.prog X.w X.K X.mg X.base CX k f fd ps sp) (hr : Room k X.A) (g : X.A.guards = some []) (hg : Gl X x) (hm : X.mg x = some (.ref f)) (hk : PySem.W.keepIn X.K (.ref f) = true) (hb : Binds X.K fd ps ds) (hd : Vals dvs ds) (hx : Passes CX X E)
    (ha : PA X (e :: es) t) (hdb : (x == ("__debug__" : Str)) = false := by decide) (he : starEach (e :: es) X.env = (false, eval e X.env) :: starEach es X.env := by rfl) (hpl : (backTo pos (starEach es X.env)).any (·.1) = false := by rfl) :
    PE X (.Call (.Name x p) (e :: es) [] pos) (tCall sp dvs E t) :=
  -- for this context the promise holds whatever stands around, so the plain rule serves
  ⟨fun pins s σ H Q I h => by
    refine wpAny_Call_Name_kw (ld_glob I hg hm ?_ hdb)
    refine PySem.W.callWith_K (h₀ := X.base) I.ok.mod.kin hk (thn (ha.run pos pins s σ H _ I h) fun us s1 ⟨vs, H1, I1, r, q⟩ => ⟨I1.kIn, ?_⟩) he hpl
    have r2 : Vals (vs ++ dvs) (us ++ ds) := r.append hd
    have hl : (us ++ ds).length = ps.length := r2.length ▸ F.len _ _ _ _ q
    refine wpAny_call (codeAny_mono (F.run X.A X.stack s1 H1 ⟨us, []⟩ (us ++ ds) (vs ++ dvs) Q E g hr I1.env0 (hb s1 us I1.kIn hl) r2 q) fun res s' hq => ?_)
    match res, hq with
    | .error e, hq => exact hx pins σ H1 s1 e s' I1 hq
    | .ok (.ret u), hq => exact I1.after hq
    | .ok .next, hq => exact hq.elim
    | .ok .brk, hq => exact hq.elim
    | .ok .cont, hq => exact hq.elim⟩
end

/-! ### the end of a law whose def wants that no repr is under way -/
theorem law_callG {P : Program} {w : World} {K : PySem.W.Frag} {mg mb : Str → Option Value} {k : Nat} {fa a : Addr} {fd : FuncData} {x : Str} {sp : Sp} {s1 : Shared} {vs : List Value} {ns : List Int}
    (KX : K.In s1.heap) (hns : s1.heap.Ns mainGlobals mg) (hb : s1.heap.Ns builtinsNs mb) (hbb : ∀ x : Str, x ≠ "__name__" → mb x = bootBuiltins x) (hlim : s1.heap.NoLimit) (hg : s1.gens = #[])
    (ha : s1.heap.get? a = some { cls := .type "list", data := .seq vs.toArray }) (hi : IntsAre vs ns) (hl : ns.length ≤ sizeLine) (hr : Room k callerA)
    (F : ∀ base : Heap, K.In base → base.Ns mainGlobals mg → FnOkG P w K mg base CX0 k fa fd [x] sp) (hbind : ∀ (s : Shared) (u : Value), BindsTo s fd ⟨[u], []⟩ [(x, u)])
    (hsp : ∀ H : Hp, Only H → SqL K H a (ns.map V.int) → sp [.ref a] H (fun v _ => v = .bl true) fun _ _ _ => False) :
    codeAny (model P w) callerA (.call (.ref fa) ⟨[.ref a], []⟩) (fun r s' => r = .ok (.ret (.bool true)) ∧ OldK s1.heap s'.heap ∧ s'.os = s1.os ∧ AllBare s'.gens) s1 := by
  have rv := vals_ints hi
  -- the heap tracks the script at most
  have main : ∀ H : Hp, Only H → SqL K H a (ns.map V.int) → HOk P w H s1.heap → (∀ b u, H b = some u → b = a ∧ K.lookup a = none) →
      codeAny (model P w) callerA (.call (.ref fa) ⟨[.ref a], []⟩) (fun r s' => r = .ok (.ret (.bool true)) ∧ OldK s1.heap s'.heap ∧ s'.os = s1.os ∧ AllBare s'.gens) s1 := by
    intro H only seq hok one
    have free : ∀ {b : Addr} {o : Obj} {es : Array DictEntry} {ep : Nat}, s1.heap.get? b = some o → o.data = .dict es ep → H b = none := by
      intro b o es ep e d
      cases q : H b with
      | none => rfl
      | some u =>
        obtain ⟨rfl, _⟩ := one b u q
        rw [ha] at e
        cases e
        exact nomatch d
    have ns1 : ∀ {b : Addr} {m : Str → Option Value}, s1.heap.Ns b m → (hidT s1.heap H).Ns b m := by
      rintro b m ⟨o, es, ep, e, d, r⟩
      exact ⟨o, es, ep, hidT_get e (free e d), d, r⟩
    have kin : K.In (hidT s1.heap H) := by
      intro b o e
      refine hidT_get (KX b o e) ?_
      cases q : H b with
      | none => rfl
      | some u =>
        obtain ⟨rfl, z⟩ := one b u q
        rw [z] at e
        cases e
    have md : Mod K mg (hidT s1.heap H) := by
      obtain ⟨mc, h1, h2⟩ := hlim
      exact ⟨kin, ns1 hns, ⟨mb, ns1 hb, hbb⟩, ⟨mc, ns1 h1, h2⟩⟩
    have e0 : Env0 P w K mg (hidT s1.heap H) callerA [] s1 H :=
      ⟨rfl, md, fun b o e => of_hidT e, Nat.le_of_eq (hidT_size _ _), trivial, fun b hb => absurd hb (by simp [frs]), hok, .of_eq hg⟩
    refine codeAny_mono ((F _ kin (ns1 hns)).run callerA [] s1 H ⟨[.ref a], []⟩ [.ref a] [.ref a] _ _ rfl hr e0 (hbind s1 (.ref a)) (.cons rfl .nil) (hsp H only seq)) fun r s' h => ?_
    match r, h with
    | .error e, h => exact h.elim
    | .ok .next, h => exact h.elim
    | .ok .brk, h => exact h.elim
    | .ok .cont, h => exact h.elim
    | .ok (.ret u), ⟨v, H', os, bare, un, hok', r', q⟩ =>
      have q' : v = .bl true := q
      subst q'
      obtain rfl : u = Value.bool true := r'
      refine ⟨rfl, OldK.of_keep fun b o e => ?_, os, bare⟩
      cases z : H b with
      | none => exact un.keep b o e z (by simp [frs]) (by simp)
      | some u =>
        rcases only b with n | ⟨ob, xs, n⟩
        · rw [z] at n; cases n
        · have same : s1.heap.get? b = some ob := (hok b _ n).1
          have after : s'.heap.get? b = some ob := (hok' b _ (un.frzs b ob _ n)).1
          rw [e] at same
          cases same
          exact after
  cases hk : K.lookup a with
  | some o =>
    have e := KX a o hk
    rw [ha] at e
    cases e
    refine main (fun _ => none) (fun _ => .inl rfl) (.inr ⟨_, vs.toArray, _, hk, rfl, rfl, rfl, ?_, ?_⟩) (fun b u z => ?_) (fun b u z => ?_)
    · rw [List.size_toArray, hi.length]; exact hl
    · simpa using rv
    · exact nomatch z
    · exact nomatch z
  | none =>
    have at_a : ∀ b u, (if b = a then some (HO.frz { cls := .type "list", data := .seq vs.toArray } (.lst (ns.map V.int))) else none) = some u → b = a ∧ u = HO.frz { cls := .type "list", data := .seq vs.toArray } (.lst (ns.map V.int)) := by
      intro b u z
      by_cases hb : b = a
      · rw [if_pos hb] at z; exact ⟨hb, (Option.some.inj z).symm⟩
      · rw [if_neg hb] at z; cases z
    refine main (fun b => if b = a then some (.frz { cls := .type "list", data := .seq vs.toArray } (.lst (ns.map V.int))) else none) (fun b => ?_) (.inl (.inr ⟨{ cls := .type "list", data := .seq vs.toArray }, if_pos rfl⟩)) (fun b u z => ?_) (fun b u z => ⟨(at_a b u z).1, hk⟩)
    · by_cases hb : b = a
      · exact .inr ⟨_, _, if_pos hb⟩
      · exact .inl (if_neg hb)
    · obtain ⟨rfl, rfl⟩ := at_a b u z
      refine ⟨ha, ?_, vs, _, rv, ha⟩
      rw [List.length_map]; exact hl
theorem walkG {l : PySem.W.OpenLaw} {n k : Nat} {q : Program} {loose : List Str} {XP : (Str → Option Value) → Heap → Prop} {YP : World → Heap → Prop} {d : DefRec} {K : Params → PySem.W.Frag} {sp : PySem.W.Frag → Sp} {x : Str}
    (hn : l.most = some n) (hn2 : n ≤ sizeLine) (hdf : d.params.defaults = []) (hr : Room k callerA) (hY : ∀ (w : World) (h : Heap), YP w h → (K w.params).In h)
    (F : ∀ (w : World) (mg : Str → Option Value) (fa : Addr) (h : Heap), (K w.params).In h → h.Ns mainGlobals mg → mg d.name = some (.ref fa) →
      ∃ fd : FuncData, (∀ (s : Shared) (u : Value), BindsTo s fd ⟨[u], []⟩ [(x, u)]) ∧ ∀ base : Heap, (K w.params).In base → base.Ns mainGlobals mg → FnOkG l.prog w (K w.params) mg base CX0 k fa fd [x] (sp (K w.params)))
    (hsp : ∀ (K : PySem.W.Frag) (H : Hp) (a : Addr) (ns : List Int), ns.length ≤ n → Only H → SqL K H a (ns.map V.int) → sp K [.ref a] H (fun v _ => v = .bl true) fun _ _ _ => False) :
    PySem.W.WalkO q loose XP YP l.row.toRowW d [] (fun f vs => PySem.call f vs) := by
  refine Att.attach_call hn hdf ?_
  intro w s0 s1 mg mb fa o pm cd doc a vs ns G Y ho hd hcd hmg hobj hints hlen hg
  obtain ⟨fd, hb, hF⟩ := F w mg fa _ (hY w _ Y) G.T.g hmg
  exact law_callG (hY w _ Y) G.T.g G.T.b G.T.builtins G.T.nolimit hg hobj hints (Nat.le_trans hlen hn2) hr hF hb fun H hO hS => hsp (K w.params) H a ns hlen hO hS
end Nm

set_option Elab.async false
set_option linter.all false
set_option maxRecDepth 100000
set_option maxHeartbeats 2000000
/-! A generator def's promise by its body; what is its own, told to the consumer as things that stay. -/
namespace Nm
open PySem PySem.Spec L2 PyProof.Rows GenW

/-! ### private objects, beside what is tracked -/
def exO (p : Addr × Obj) : HO := .ext fun h => h.get? p.1 = some p.2
def inPv (pv : List (Addr × Obj)) (b : Addr) : Prop := ∃ p ∈ pv, p.1 = b
open Classical in
noncomputable def plus (H : Hp) (pv : List (Addr × Obj)) : Hp := fun b => if h : inPv pv b then some (exO (Classical.choose h)) else H b
open Classical in
noncomputable def minus (H : Hp) (pv : List (Addr × Obj)) : Hp := fun b => if inPv pv b then none else H b
section
variable {H : Hp} {pv : List (Addr × Obj)} {b : Addr}
theorem plus_out (h : ¬ inPv pv b) : plus H pv b = H b := by unfold plus; rw [dif_neg h]
theorem plus_in (h : inPv pv b) : ∃ p ∈ pv, p.1 = b ∧ plus H pv b = some (exO p) := by
  refine ⟨Classical.choose h, (Classical.choose_spec h).1, (Classical.choose_spec h).2, ?_⟩
  unfold plus; rw [dif_pos h]
theorem minus_out (h : ¬ inPv pv b) : minus H pv b = H b := by unfold minus; rw [if_neg h]
theorem minus_in (h : inPv pv b) : minus H pv b = none := by unfold minus; rw [if_pos h]
theorem minus_some {o : HO} (h : minus H pv b = some o) : ¬ inPv pv b ∧ H b = some o := by
  by_cases z : inPv pv b
  · rw [minus_in z] at h; cases h
  · exact ⟨z, by rw [minus_out z] at h; exact h⟩
/-- off what is tracked -/
def OffP (H : Hp) (pv : List (Addr × Obj)) : Prop := ∀ p ∈ pv, H p.1 = none
/-- told as things that stay -/
def OnP (H : Hp) (pv : List (Addr × Obj)) : Prop := ∀ p ∈ pv, ∃ q ∈ pv, q.1 = p.1 ∧ H p.1 = some (exO q)
theorem onP_plus : OnP (plus H pv) pv := fun p hp => by
  obtain ⟨q, hq, e, h⟩ := plus_in (H := H) (b := p.1) ⟨p, hp, rfl⟩
  exact ⟨q, hq, e, h⟩
theorem plus_some {o : HO} (ho : OffP H pv) (h : H b = some o) : plus H pv b = some o := by
  rw [plus_out]; exact h
  rintro ⟨p, hp, rfl⟩
  rw [ho p hp] at h; cases h
theorem OnP.at (h : OnP H pv) (hb : inPv pv b) : ∃ q ∈ pv, q.1 = b ∧ H b = some (exO q) := by
  obtain ⟨p, hp, rfl⟩ := hb
  exact h p hp
variable {P : Program} {w : World} {h : Heap}
theorem hok_plus (ok : HOk P w H h) (ho : OffP H pv) (hs : ∀ p ∈ pv, h.get? p.1 = some p.2) : HOk P w (plus H pv) h := fun b o e => by
  by_cases z : inPv pv b
  · obtain ⟨p, hp, rfl, e'⟩ := plus_in (H := H) z
    rw [e] at e'
    cases e'
    exact ⟨hs p hp, ⟨_, hs p hp⟩, fun h1 h2 q1 q2 => q2 _ q1⟩
  · rw [plus_out z] at e
    exact (ok b o e).stay (fun _ _ _ q => q) (fun c q => plus_some ho q) fun c xs q => plus_some ho q
theorem hok_minus (ok : HOk P w H h) (ho : OnP H pv) : HOk P w (minus H pv) h := fun b o e => by
  obtain ⟨z, e⟩ := minus_some e
  have keep : ∀ c u, H c = some u → (∀ q, u ≠ exO q) → minus H pv c = some u := fun c u q n => by
    rw [minus_out]; exact q
    intro hc
    obtain ⟨p, _, _, e'⟩ := ho.at hc
    rw [q] at e'; cases e'
    exact n p rfl
  exact (ok b o e).stay (fun _ _ _ q => q) (fun c q => keep c _ q fun q z => by cases z) fun c xs q => keep c _ q fun q z => by cases z
theorem OnP.heap (ho : OnP H pv) (ok : HOk P w H h) (fn : ∀ p ∈ pv, ∀ q ∈ pv, p.1 = q.1 → p = q) : ∀ p ∈ pv, h.get? p.1 = some p.2 := fun p hp => by
  obtain ⟨q, hq, e, hh⟩ := ho p hp
  have := fn q hq p hp e
  subst this
  exact (ok _ _ hh).1
end
/-! ### the generator's own objects -/
def prvA (X : Cx) : List Addr := X.env.locals :: ((X.env.cells.filterMap fun p => X.env.cells.lookup p.1) ++ X.pn.map (·.1))
def prv (X : Cx) (h : Heap) : List (Addr × Obj) := (prvA X).filterMap fun b => (h.get? b).map fun o => (b, o)
theorem mem_prv {X : Cx} {h : Heap} {p : Addr × Obj} : p ∈ prv X h ↔ p.1 ∈ prvA X ∧ h.get? p.1 = some p.2 := by
  unfold prv
  rw [List.mem_filterMap]
  constructor
  · rintro ⟨b, hb, e⟩
    obtain ⟨o, ho, rfl⟩ := Option.map_eq_some_iff.mp e
    exact ⟨hb, ho⟩
  · rintro ⟨hb, ho⟩
    exact ⟨p.1, hb, by rw [ho]; rfl⟩
theorem prv_fn {X : Cx} {h : Heap} : ∀ p ∈ prv X h, ∀ q ∈ prv X h, p.1 = q.1 → p = q := fun p hp q hq e => by
  have h1 := (mem_prv.mp hp).2
  have h2 := (mem_prv.mp hq).2
  rw [e, h2] at h1
  exact Prod.ext e (Option.some.inj h1).symm
theorem mem_prvA {X : Cx} {b : Addr} (h : b = X.env.locals ∨ (∃ x, X.env.cells.lookup x = some b) ∨ ∃ p ∈ X.pn, p.1 = b) : b ∈ prvA X := by
  unfold prvA
  rcases h with rfl | ⟨x, hx⟩ | ⟨p, hp, rfl⟩
  · exact List.mem_cons_self
  · exact List.mem_cons_of_mem _ (List.mem_append_left _ (List.mem_filterMap.mpr ⟨_, PySem.mem_of_lookup hx, hx⟩))
  · exact List.mem_cons_of_mem _ (List.mem_append_right _ (List.mem_map.mpr ⟨p, hp, rfl⟩))
theorem kept_of {X : Cx} {s s2 : Shared} (h : ∀ p ∈ prv X s.heap, s2.heap.get? p.1 = some p.2) : Kept X s s2 := fun b hb o e => h (b, o) (mem_prv.mpr ⟨mem_prvA hb, e⟩)
/-- the objects are there -/
def There (X : Cx) (h : Heap) : Prop := ∀ b ∈ prvA X, ∃ o, h.get? b = some o
theorem off_minus {X : Cx} {h : Heap} {H : Hp} (t : There X h) : Off X (minus H (prv X h)) := by
  have go : ∀ b, b ∈ prvA X → minus H (prv X h) b = none := fun b hb => by
    obtain ⟨o, ho⟩ := t b hb
    exact minus_in ⟨(b, o), mem_prv.mpr ⟨hb, ho⟩, rfl⟩
  exact ⟨go _ (mem_prvA (.inl rfl)), fun x c hc => go c (mem_prvA (.inr (.inl ⟨x, hc⟩))), fun p hp => go p.1 (mem_prvA (.inr (.inr ⟨p, hp, rfl⟩)))⟩
theorem there_inv {X : Cx} {s₀ s : Shared} {H₀ H : Hp} {σ : L2.St} (I : Inv (reC X s₀ H₀) [] σ H s) : There X s.heap ∧ OffP H (prv X s.heap) := by
  have go : ∀ b ∈ prvA X, (∃ o, s.heap.get? b = some o) ∧ H b = none := fun b hb => by
    unfold prvA at hb
    rcases List.mem_cons.mp hb with rfl | hb
    · obtain ⟨m, ⟨o, _, _, h, _⟩, _⟩ := I.loc
      exact ⟨⟨o, h⟩, I.free⟩
    · rcases List.mem_append.mp hb with hb | hb
      · obtain ⟨p, _, hx⟩ := List.mem_filterMap.mp hb
        obtain ⟨v, o, ho, _⟩ := I.cell p.1 b hx
        exact ⟨⟨o, ho⟩, I.freeC p.1 b hx⟩
      · obtain ⟨p, hp, rfl⟩ := List.mem_map.mp hb
        obtain ⟨h1, h2, _⟩ := I.pin p (List.mem_append_left _ hp)
        exact ⟨⟨_, h1⟩, h2⟩
  exact ⟨fun b hb => (go b hb).1, fun p hp => (go p.1 (mem_prv.mp hp).1).2⟩

/-! ### the promise -/
abbrev YPt (T : Type) := Nat → T → V → Hp → (T → Hp → Prop) → Prop
/-- the arguments, the heap at the waking, how many may be handed out, the consumer's mind, what is wanted -/
abbrev SpY := (T : Type) → List V → Hp → Nat → T → YPt T → (T → Hp → Prop) → Prop
abbrev gX (P : Program) (w : World) (K : PySem.W.Frag) (mg : Str → Option Value) (base : Heap) (N : List Str) (qual : Str) (scope : Scope) (f : Addr) (cd : Value) (A : Around) (outer : List Env) (s : Shared) (H : Hp) (pn : List (Addr × Obj)) : Cx :=
  { (cxOf CX0 P w K mg base N qual scope f cd A outer s H E0).nox with pn := pn }
def GRt {X : Cx} {T : Type} (C : GCt X T) (DN : T → Hp → Prop) : GenEnd := fun n s₀ r s =>
  ((r = .ok (.ret .none) ∨ r = .ok .next) ∧ ∃ τ H₀ σ H1, C.CI τ H₀ s₀ ∧ Inv (reC X s₀ H₀) [] σ H1 s ∧ DN τ H1) ∨ ∃ e, r = .error e ∧ False
/-- a generator that has not begun -/
structure GNew (P : Program) (w : World) (k : Nat) (outer : List Env) (sp : SpY) (vs : List V) (s : Shared) (XA : Around → Cx) (a : Addr) (g : Nat) (c : Code) (go : Obj) (s' : Shared) : Prop where
  gen : s'.gens[g]? = some (.fresh c)
  os : s'.os = s.os
  bare : AllBare s'.gens
  nolim : s'.heap.NoLimit
  keep : ∀ b o, s.heap.get? b = some o → s'.heap.get? b = some o
  obj : s'.heap.get? a = some go
  isg : ∀ h : Heap, h.get? a = some go → h.IsGen a g
  prog : ∀ A, (XA A).prog = P ∧ (XA A).w = w ∧ (XA A).outer = outer ∧ (XA A).pn = [(a, go)] ∧ (XA A).env.locals = s.heap.objs.size
  young : ∀ A, ∀ b ∈ prvA (XA A), s.heap.objs.size ≤ b
  gok : ∀ A, GOk (XA A)
  there : ∀ A, There (XA A) s'.heap
  wake : ∀ A, Room k A → A.frames = some outer → ∀ (T : Type) (C : GCt (XA A) T) (n : Nat) (τ : T) (s2 : Shared) (H2 : Hp) (DN : T → Hp → Prop), C.CI τ H2 s2 → Kept (XA A) s' s2 → Off (XA A) H2 → sp T vs H2 n τ C.YP DN →
    Seg (model P w) A (GRt C DN) (GYp C) n s2 c ((model P w).den c) [] s2
structure GFy (P : Program) (w : World) (K : PySem.W.Frag) (mg : Str → Option Value) (base : Heap) (k : Nat) (f : Addr) (fd : FuncData) (ps : List Str) (sp : SpY) : Prop where
  run : ∀ (A : Around) (outer : List Env) (s : Shared) (H : Hp) (args : Args) (us : List Value) (vs : List V), Room k A → Env0 P w K mg base A outer s H → BindsTo s fd args (ps.zip us) → Vals vs us → vs.length = ps.length →
    codeAny (model P w) A (.call (.ref f) args) (fun r s' => match r with
      | .ok (.ret u) => ∃ XA a g c go, u = .ref a ∧ (∀ B, (XA B).K = K ∧ (XA B).mg = mg ∧ (XA B).base = base) ∧ GNew P w k outer sp vs s XA a g c go s'
      | _ => False) s
/-- a frame at its beginning, with what is pinned -/
theorem inv_first {P : Program} {w : World} {K : PySem.W.Frag} {mg : Str → Option Value} {base : Heap} {N ps : List Str} {qual : Str} {scope : Scope} {f : Addr} {cd : Value} {A B : Around} {outer : List Env} {s s1 s2 : Shared} {H H2 : Hp} {us : List Value} {vs : List V} {pn : List (Addr × Obj)}
    (S : GScope N ps scope) (hd : A.handled = none) (hfr : A.frames = some outer) (e0 : Env0 P w K mg base B outer s2 H2) (hl : vs.length = ps.length) (r : Vals vs us)
    (x : InCallC s s.heap.objs.size (bindL (envOfC qual scope s.heap.objs.size f cd).kindOf (ps.zip us) fun _ => none) (cellsFrom (s.heap.objs.size + 1) scope.names []) (bindC (envOfC qual scope s.heap.objs.size f cd).kindOf (ps.zip us) fun _ => none) s1)
    (hb : base.objs.size ≤ s.heap.objs.size) (hfo : ∀ b ∈ frs outer, b < s.heap.objs.size) (hk : Kept (gX P w K mg base N qual scope f cd A outer s H pn) s1 s2) (ho : Off (gX P w K mg base N qual scope f cd A outer s H pn) H2)
    (hp : ∀ p ∈ pn, s2.heap.get? p.1 = some p.2 ∧ s.heap.objs.size < p.1 ∧ ∀ v, p.2.data ≠ .cell v) :
    Inv (reC (gX P w K mg base N qual scope f cd A outer s H pn) s2 H2) [] (start N vs) H2 s2 := by
  have hpl : ps.length ≤ N.length := by have := congrArg List.length S.pre; rw [List.length_take] at this; omega
  have hL1 : ∃ o, s1.heap.get? s.heap.objs.size = some o := by
    obtain ⟨o, _, _, h, _⟩ := x.toInCall.ns
    exact ⟨o, h⟩
  obtain ⟨oL, heL⟩ := hL1
  have Lt2 : s.heap.objs.size < s2.heap.objs.size := Heap.lt_size (hk _ (.inl rfl) _ heL)
  have sz2 : (cutH s2.heap s.heap.objs.size).objs.size = s.heap.objs.size := cutH_size (Nat.le_of_lt Lt2)
  have noA : ∀ b : Addr, b ∉ (gX P w K mg base N qual scope f cd A outer s H pn).ex := fun b z => absurd (show b ∈ ([] : List Addr) from z) (by simp)
  have funs : ∀ l : List Env, (∀ b ∈ frs l, b < s.heap.objs.size) → s2.heap.FunFrames base l → (cutH s2.heap s.heap.objs.size).FunFrames base l := by
    intro l
    induction l with
    | nil => intro _ _; trivial
    | cons e r ih =>
      intro hb hf
      obtain ⟨h1, ⟨L, o, h2, h3, h4, h5⟩, h6⟩ := hf
      have hLm : L ∈ frs (e :: r) := by unfold frs; rw [List.filterMap_cons, h2]; exact List.mem_cons_self
      refine ⟨h1, ⟨L, o, h2, h3, by rw [cutH_lt (hb L hLm)]; exact h4, h5⟩, ih (fun b hm => hb b ?_) h6⟩
      unfold frs at hm ⊢
      rw [List.filterMap_cons, h2]
      exact List.mem_cons_of_mem _ hm
  refine ⟨⟨e0.mod, S.kind, rfl, rfl, Nat.le_of_eq sz2, fun y z c h1 h2 => ?_, fun y hy => ?_, fun y c _ h => ?_, fun _ => hd, Around.frames_deeper hfr, .inr ⟨rfl, rfl⟩, fun b z => absurd z (noA b), fun b o q => ?_, ?_, fun b _ _ => noA b, fun b z => absurd z (noA b), funs _ hfo e0.funs, e0.frf⟩,
    rfl, e0.bare, ?_, ⟨_, x.toInCall.ns.at' (hk _ (.inl rfl)), fun i y v h1 h2 h3 => ?_⟩, fun y c h => ?_, ho.1, ho.2.1, fun p hp' => ?_, e0.hok, ?_⟩
  · exact name_of_addr x.apart (PySem.mem_of_lookup h1) (PySem.mem_of_lookup h2)
  · have hy : scope.names.lookup y = some .cell ∨ scope.names.lookup y = some .free := hy
    rcases hy with hy | hy
    · exact cell_has hy
    · exact absurd rfl (S.nofree _ (PySem.mem_of_lookup hy))
  · show (cutH s2.heap s.heap.objs.size).objs.size ≤ c
    rw [sz2]
    exact Nat.le_of_lt (x.above y c (PySem.mem_of_lookup h))
  · have q' := e0.bs b o q
    refine ⟨?_, q'.2⟩
    show (cutH s2.heap s.heap.objs.size).get? b = some o
    rw [cutH_lt (Nat.lt_of_lt_of_le (Heap.lt_size q) hb)]; exact q'.1
  · show base.objs.size ≤ (cutH s2.heap s.heap.objs.size).objs.size
    rw [sz2]; exact hb
  · exact Un.mono (Un.kept (fs := []) (ex := []) fun b o q => (of_cutH q).2) (by simp) (by simp)
  · have hi : i < vs.length := by
      unfold L2.start at h2
      by_cases hi : i < vs.length
      · exact hi
      · rw [List.getElem?_append_right (by simpa using hi), List.getElem?_replicate] at h2
        split at h2 <;> cases h2
    have ha : vs[i]? = some v := by
      unfold L2.start at h2
      rw [List.getElem?_append_left (by simpa using hi), List.getElem?_map] at h2
      obtain ⟨a, h4, h5⟩ := Option.map_eq_some_iff.mp h2
      rw [h4]; exact h5
    obtain ⟨u, hu, rv⟩ := r.get ha
    have hp1 : ps[i]? = some y := by
      rw [← S.pre, List.getElem?_take_of_lt (by omega)]; exact h1
    have ndP : ps.Nodup := by rw [← S.pre]; exact S.nd.sublist (List.take_sublist _ _)
    refine ⟨u, rv, ?_⟩
    rcases S.par y (List.mem_of_getElem? hp1) with k | k
    · exact .inl ⟨k, bindL_get ndP hp1 hu k⟩
    · obtain ⟨c, e⟩ := cell_has (n := s.heap.objs.size + 1) k
      refine .inr ⟨.inl k, c, e, ?_⟩
      have q := x.cell y c e
      rw [bindC_get ndP hp1 hu (by show scope.names.lookup y ≠ _; rw [k]; decide)] at q
      obtain ⟨o, q1, q2⟩ := q
      exact ⟨o, hk c (.inr (.inl ⟨y, e⟩)) o q1, q2⟩
  · obtain ⟨o, q1, q2⟩ := x.cell y c h
    exact ⟨_, o, hk c (.inr (.inl ⟨y, h⟩)) o q1, q2⟩
  · have hp' : p ∈ pn := by simpa using hp'
    obtain ⟨h1, h2, h3⟩ := hp p hp'
    refine ⟨h1, ho.2.2 p hp', Nat.ne_of_gt h2, fun hm => ?_, h3⟩
    have := hfo p.1 hm
    exact absurd (Nat.lt_trans this h2) (Nat.lt_irrefl _)
  · unfold L2.start
    show _ = N.length
    rw [List.length_append, List.length_map, List.length_replicate]
    omega
/-- THE RULE: a generator def, by its body -/
theorem gen_of {P : Program} {w : World} {K : PySem.W.Frag} {mg : Str → Option Value} {base : Heap} {k : Nat} {f : Addr} {name qual : Str} {params : Arguments} {body : List Stmt} {scope : Scope} {dV kV doc pm cdv ct oc : Value} {an od : Option Addr}
    {osl : Array (Option Value)} {N ps : List Str} {sp : SpY} (lk : K.lookup f = some ⟨oc, od, .func (PySem.W.fnOf name qual params body scope dV kV doc pm an cdv ct), osl⟩) (hcd : PySem.W.codeIn K cdv qual = true) (S : GScope N ps scope)
    (hbody : ∀ (A : Around) (outer : List Env) (s : Shared) (H : Hp) (pn : List (Addr × Obj)) (T : Type), Room k (A.deeper (envOfC qual scope s.heap.objs.size f cdv)) →
      ∃ t : TGp T, GSs (gX P w K mg base N qual scope f cdv A outer s H pn) T body t ∧ ∀ vs H2 n τ YP DN, sp T vs H2 n τ YP DN → t { nx := fun _ τ' _ H' => DN τ' H', rt := fun _ τ' v H' => v = .non ∧ DN τ' H', yp := YP } n τ (start N vs) H2) :
    GFy P w K mg base (k + 1) f (PySem.W.fnOf name qual params body scope dV kV doc pm an cdv ct) ps sp := by
  refine ⟨fun A outer s H args us vs hr e0 hb r hl => ?_⟩
  have KX : K.In s.heap := e0.mod.kin.keeps fun b o e => (e0.bs b o e).1
  have lim : s.heap.NoLimit := e0.mod.nolimit.keeps fun b o e => (e0.bs b o e).1
  have hkind : ∀ y ∈ ps.zip us, scope.names.lookup y.1 = some .local ∨ (scope.names.lookup y.1 = some .cell ∧ ((cellsFrom (s.heap.objs.size + 1) scope.names []).lookup y.1).isSome = true) := fun ⟨n, v⟩ hy => by
    rcases S.par n (List.of_mem_zip hy).1 with q | q
    · exact .inl q
    · exact .inr ⟨q, PySem.W.cellsFrom_some _ _ _ (.inl q)⟩
  refine codeAny_call_generator hr.depth (KX _ _ lk) rfl S.co S.gen rfl (PySem.W.codeRec_of KX hcd) (hb _ _ _ _ ?_)
  refine wpAny_newFunctionEnv_cells S.kind hkind fun env he s1 x => ?_
  subst he
  have lim1 : s1.heap.NoLimit := lim.keeps x.toInCall.keep
  refine ⟨lim1, ?_⟩
  obtain ⟨h1, tk, es1, hk1⟩ := x.done
  have os1 : s1.os = s.os := by rw [es1]
  have gen1 : s1.gens = s.gens := by rw [es1]
  have lt1 : s.heap.objs.size < s1.heap.objs.size := x.toInCall.ns.lt
  have kp1 : ∀ b o, s.heap.get? b = some o → s1.heap.get? b = some o := x.toInCall.keep
  have hfo : ∀ b ∈ frs outer, b < s.heap.objs.size := fun b hb => by
    obtain ⟨_, o, h, _⟩ := e0.funs.mem hb
    exact Heap.lt_size h
  have main : ∀ (go : Obj) (nm qn : Value) (tk2 : Nat), go.cls = .type "generator" → go.data = .fields #[.int s1.gens.size 0, nm, qn] → go.slots = #[] → (∀ h : Heap, (h.push go).get? h.objs.size = some go) →
      ∃ XA a g c go', Value.ref s1.heap.objs.size = .ref a ∧ (∀ B : Around, (XA B).K = K ∧ (XA B).mg = mg ∧ (XA B).base = base) ∧
        GNew P w (k + 1) outer sp vs s XA a g c go' { s1 with gens := s1.gens.push (.fresh (.func body (envOfC qual scope s.heap.objs.size f cdv))), toks := tk2, heap := s1.heap.push go } := by
    intro go nm qn tk2 hgc hgd0 hgs hgp
    have hgd : ∀ v, go.data ≠ .cell v := fun v q => by rw [hgd0] at q; cases q
    have kp2 : ∀ b o, s1.heap.get? b = some o → (s1.heap.push go).get? b = some o := fun b o e => Heap.get?_push_of_some _ e
    refine ⟨fun A' => gX P w K mg base N qual scope f cdv A' outer s H [(s1.heap.objs.size, go)], _, s1.gens.size, .func body (envOfC qual scope s.heap.objs.size f cdv), go, rfl, fun _ => ⟨rfl, rfl, rfl⟩, ?_⟩
    have cab : ∀ y c, (cellsFrom (s.heap.objs.size + 1) scope.names []).lookup y = some c → s.heap.objs.size < c := fun y c h => x.above y c (PySem.mem_of_lookup h)
    refine ⟨Array.getElem?_push_size .., os1, AllBare.push (by rw [gen1]; exact e0.bare) rfl, lim1.keeps kp2, fun b o e => kp2 b o (kp1 b o e), hgp _, fun h e => ⟨go, nm, qn, e, hgc, hgd0, hgs⟩, fun _ => ⟨rfl, rfl, rfl, rfl, rfl⟩, fun A' b hb => ?_, fun A' => ⟨fun y c h => Nat.le_of_lt (cab y c h), rfl, fun _ _ z => z⟩, fun A' b hb => ?_, ?_⟩
    · unfold prvA at hb
      rcases List.mem_cons.mp hb with rfl | hb
      · exact Nat.le_refl _
      · rcases List.mem_append.mp hb with hb | hb
        · obtain ⟨p, _, hx⟩ := List.mem_filterMap.mp hb
          exact Nat.le_of_lt (cab p.1 b hx)
        · obtain ⟨p, hp, rfl⟩ := List.mem_map.mp hb
          rw [List.mem_singleton.mp hp]
          exact Nat.le_of_lt lt1
    · unfold prvA at hb
      rcases List.mem_cons.mp hb with rfl | hb
      · obtain ⟨o, _, _, h, _⟩ := x.toInCall.ns
        exact ⟨o, kp2 _ o h⟩
      · rcases List.mem_append.mp hb with hb | hb
        · obtain ⟨p, _, hx⟩ := List.mem_filterMap.mp hb
          obtain ⟨o, q1, _⟩ := x.cell p.1 b hx
          exact ⟨o, kp2 _ o q1⟩
        · obtain ⟨p, hp, rfl⟩ := List.mem_map.mp hb
          rw [List.mem_singleton.mp hp]
          exact ⟨go, hgp _⟩
    · intro A' hr' hfr T C n τ s2 H2 DN ci hkept hoff hsp
      obtain ⟨B, e2⟩ := C.env τ H2 s2 ci
      obtain ⟨t, ht, hq⟩ := hbody A' outer s H [(s1.heap.objs.size, go)] T (hr'.deeper _)
      have hk1 : Kept (gX P w K mg base N qual scope f cdv A' outer s H [(s1.heap.objs.size, go)]) s1 s2 := fun b hb o e => hkept b hb o (kp2 b o e)
      have I : Inv (reC (gX P w K mg base N qual scope f cdv A' outer s H [(s1.heap.objs.size, go)]) s2 H2) [] (start N vs) H2 s2 := by
        refine inv_first S hr'.hd hfr e2 hl r x e0.bsz hfo hk1 hoff fun p hp => ?_
        rw [List.mem_singleton.mp hp]
        exact ⟨hkept _ (.inr (.inr ⟨_, List.mem_singleton.mpr rfl, rfl⟩)) go (hgp _), lt1, hgd⟩
      refine seg_func ?_
      refine ht.run C A' _ n τ s2 H2 _ [] _ _ id id s2 (start N vs) H2 { nx := fun _ τ' _ H' => DN τ' H', rt := fun _ τ' v H' => v = .non ∧ DN τ' H', yp := C.YP } ⟨over_func, rfl, rfl, rfl⟩ ⟨rfl, fun n' τ' s₀ H₀ s3 fl ci' hs => ?_⟩ ci I (hq vs H2 n τ C.YP DN hsp)
      cases fl with
      | next =>
        obtain ⟨σ', H', I', q⟩ := hs
        exact seg_end (.ok (.ret .none)) (.inl ⟨.inl rfl, τ', H₀, σ', H', ci', I', q⟩)
      | brk => obtain ⟨_, _, _, q⟩ := hs; exact False.elim q
      | cont => obtain ⟨_, _, _, q⟩ := hs; exact False.elim q
      | ret u =>
        obtain ⟨v, σ', H', I', rv, ev, q⟩ := hs
        subst ev
        have eu : u = Value.none := rv
        subst eu
        exact seg_end (.ok (.ret .none)) (.inl ⟨.inl rfl, τ', H₀, σ', H', ci', I', q⟩)
  exact main _ _ _ _ rfl rfl rfl fun h => Heap.get?_push_size _ rfl
end Nm

set_option Elab.async false
set_option linter.all false
set_option maxRecDepth 100000
set_option maxHeartbeats 2000000
/-! next(g) of a sleeping generator; a for over a generator. -/
namespace Nm
open PySem PySem.Spec L2 PyProof.Rows GenW

/-- what holds with one less to come -/
def oneLess (n : Nat) (f : Nat → Prop) : Prop := match n with
  | 0 => False
  | m + 1 => f m
theorem slp_susp {v g l k c p fs} : slp (End.susp v g l k c p fs).genState = true := rfl
section
variable {M : Model}
/-- a generator is woken: it sleeps again, or it has ended -/
theorem wake_slp {A : Around} {R : GenEnd} {Y : Protocol} {n : Nat} {E : Value → Shared → Prop} {s : Shared} {g : Nat} {gs : GenState} {r : Resume} {l : List Value} {α : Type} {k : GenResult → Sem α} {Q : α → Shared → Prop} (hg : s.gens[g]? = some gs) (hgo : gs.Goes M A R Y n r (s.setGen g .running))
    (hR : ∀ x s₁, R n (s.setGen g .running) x s₁ → wpAny M A (k (End.ret x).result) Q E (s₁.setGen g .finished))
    (hY : ∀ v s₁ gs', slp gs' = true → gs'.bare = true → Y (n - 1) (s.setGen g .running) v s₁ (fun r' s'' => oneLess n fun m => gs'.Goes M A R Y m r' s'') → wpAny M A (k (.yielded v)) Q E (s₁.setGen g gs')) :
    wpAny M A (.resume g r l k) Q E s := by
  intro Γ p hΓ
  rw [Sem.wp_resume]
  have hB : ∀ c, (Γ.wake c p).Woken A := fun c => hΓ.wake c p
  have done : ∀ e₁ s₁, SegEnd R Y n (Seg.next M A R Y n) (s.setGen g .running) e₁ s₁ → e₁.quiet = true ∧ Sem.wp M Γ (k e₁.result) (fun a _ s' => Q a s') (fun e _ s' => E e s') p (s₁.setGen g e₁.genState) := by
    intro e₁ s₁ he
    cases e₁ with
    | ret x => exact ⟨rfl, hR x s₁ he Γ p hΓ⟩
    | susp v g₀ l₀ k₀ c₀ p₀ fs₀ =>
      refine ⟨he.1, hY v s₁ _ slp_susp (End.bare_of_quiet he.1) ?_ Γ p hΓ⟩
      cases n with
      | zero => exact he.2
      | succ m => exact he.2
  cases gs with
  | fresh c =>
    obtain ⟨rfl, hs⟩ := hgo
    obtain ⟨e₁, s₁, hr, he⟩ := seg_iff.mp hs (Γ.wake c p) p rfl (hB c)
    obtain ⟨q1, q2⟩ := done e₁ s₁ he
    exact ⟨_, _, by unfold Wakes; rw [hg]; exact ⟨e₁, s₁, hr, q1, rfl, rfl⟩, q2⟩
  | suspended k₀ l₀ c₀ p₀ fs₀ cl =>
    obtain ⟨e₁, s₁, hr, he⟩ := seg_iff.mp hgo (Γ.wake c₀ p) p₀ rfl (hB c₀)
    obtain ⟨q1, q2⟩ := done e₁ s₁ he
    exact ⟨_, _, by unfold Wakes; rw [hg]; exact ⟨e₁, s₁, hr, q1, rfl, rfl⟩, q2⟩
  | running => exact hgo.elim
  | finished => exact hgo.elim
end
section
variable {P : Program} {w : World} {A : Around} {E : Value → Shared → Prop} {s : Shared}
theorem next_slp {a : Addr} {g n : Nat} {gs : GenState} {F : Nat → Shared → Shared → Prop} {Y : Protocol} {Q : Option Value → Shared → Prop} (hh : A.handled = none) (hl : s.heap.NoLimit) (hroom : A.depth < recursionLimit) (hg : s.heap.IsGen a g) (hgs : s.gens[g]? = some gs)
    (hgo : gs.Goes (model P w) A.in1 (fun n s₀ r s₁ => ((r = .ok (.ret .none) ∨ r = .ok .next) ∧ F n s₀ s₁) ∨ ∃ e, r = .error e ∧ False) Y n (.send .none) (s.setGen g .running))
    (hY : ∀ v s₁ gs', slp gs' = true → gs'.bare = true → Y (n - 1) (s.setGen g .running) v s₁ (fun r' s'' => oneLess n fun m => gs'.Goes (model P w) A.in1 (fun n s₀ r s₁ => ((r = .ok (.ret .none) ∨ r = .ok .next) ∧ F n s₀ s₁) ∨ ∃ e, r = .error e ∧ False) Y m r' s'') → Q (some v) (s₁.setGen g gs'))
    (hP : ∀ s₁, F n (s.setGen g .running) s₁ → ∀ h', (∀ b o, s₁.heap.get? b = some o → h'.get? b = some o) → Q none { s₁.setGen g .finished with heap := h' }) : wpAny (model P w) A (pyNext (.ref a)) Q E s := by
  unfold pyNext
  refine wpAny_bind (wpAny_attempt (wpAny_callSpecial?_slot (name := Str.ofString "__next__") hg.typeIs slot_gen_next (wpAny_call_entry slot_gen_next hg.typeIs entry_gen_next ?_ (args_gen_next _))))
  show wpAny (model P w) A.in1 (Builtin.Generator.genWake (.ref a) (.send .none)) _ _ s
  unfold Builtin.Generator.genWake
  refine wpAny_bind (wpAny_holding (wpAny_genNumber hg (wpAny_bind (wpAny_genState hgs ?_))))
  cases gs with
  | running => exact hgo.elim
  | finished => exact hgo.elim
  | _ =>
    refine wpAny_bind (wpAny_roomToWake hl hroom ?_)
    show wpAny (model P w) A.in1 (.resume g (.send .none) [] _) _ _ s
    refine wake_slp hgs hgo (fun x s₁ hx => ?_) fun v s₁ gs' hsl hb hv => wpAny_pure ⟨v, rfl, wpAny_pure (hY v s₁ gs' hsl hb hv)⟩
    rcases hx with ⟨hr, hp⟩ | ⟨e, _, he⟩
    · have hres : End.result (.ret x) = .returned .none := by rcases hr with hr | hr <;> rw [hr] <;> rfl
      first | rw [hres] | simp only [hres]
      show wpAny (model P w) A.in1 (newExc (.type "StopIteration") [] >>= _) _ _ _
      refine wpAny_bind ?_
      simp only [newExc, newTuple]
      refine wpAny_bind (wpAny_newObj_type ?_ (by size_fits))
      refine wpAny_bind (m := firstArgMember _ _) (wpAny_of_eq (a := Value.none) (by first | rfl | (simp only [firstArgMember]; rfl)) ?_)
      refine wpAny_newObj_type ?_ (by size_fits)
      simp only [raiseNew]
      refine wpAny_bind (wpAny_bind (wpAny_handled ?_))
      first | rw [show A.in1.handled = none from hh] | rw [hh]
      refine wpAny_throw ?_
      refine wpAny_bind (wpAny_isInstance (T := "StopIteration") (b := true) ⟨_, Heap.get?_push_size _ rfl, rfl⟩ isSubtype_stop ?_)
      exact wpAny_pure (hP s₁ hp _ fun b o hb => Heap.get?_push_of_some _ (Heap.get?_push_of_some _ hb))
    · exact he.elim
end
/-! ### the consumer -/
theorem inv_gens {X : Cx} {pins : List (Addr × Obj)} {σ : L2.St} {H : Hp} {s : Shared} {G : Array GenState} (I : Inv X pins σ H s) (h : AllBare G) : Inv X pins σ H { s with gens := G } :=
  ⟨I.ok, I.os, h, I.base, I.loc, I.cell, I.free, I.freeC, I.pin, I.hok, I.len⟩
/-- what the consumer knows when it wakes the generator: its own state, the private things told as ones that stay -/
def cIn (X : Cx) (pins : List (Addr × Obj)) (L : Nat) (τ : L2.St) (H : Hp) (s : Shared) : Prop := ∃ pv H', H = minus H' pv ∧ OnP H' pv ∧ (∀ p ∈ pv, L ≤ p.1) ∧ Inv X pins τ H' s
/-- the consumer's frame and all it walks stands below L -/
structure Below (X : Cx) (pins : List (Addr × Obj)) (L : Nat) : Prop where
  s0 : X.s_0.heap.objs.size ≤ L
  loc : X.env.locals < L
  cell : ∀ x c, X.env.cells.lookup x = some c → c < L
  pin : ∀ p ∈ X.pn ++ pins, p.1 < L
  base : X.base.objs.size ≤ L
theorem below_of {X : Cx} {pins : List (Addr × Obj)} {σ : L2.St} {H : Hp} {s : Shared} (I : Inv X pins σ H s) : Below X pins s.heap.objs.size :=
  ⟨I.sz, I.lt, fun x c h => by obtain ⟨v, o, ho, _⟩ := I.cell x c h; exact Heap.lt_size ho, fun p hp => Heap.lt_size (I.pin p hp).1, Nat.le_trans I.ok.bsz I.sz⟩
section
variable {X Y : Cx} {pins : List (Addr × Obj)} {L : Nat} {τ σg : L2.St} {H H0 H1 : Hp} {s0 s1 : Shared} {pv : List (Addr × Obj)}
theorem env_minus {B : Around} {outer : List Env} {H' : Hp} {s : Shared} (e0 : Env0 X.prog X.w X.K X.mg X.base B outer s H') (ho : OnP H' pv) : Env0 X.prog X.w X.K X.mg X.base B outer s (minus H' pv) := by
  have mn : ∀ b, H' b = none → minus H' pv b = none := fun b h => by
    unfold minus
    split
    · rfl
    · exact h
  exact ⟨e0.frames, e0.mod, fun b o h => ⟨(e0.bs b o h).1, mn b (e0.bs b o h).2⟩, e0.bsz, e0.funs, fun b hb => mn b (e0.frf b hb), hok_minus e0.hok ho, e0.bare⟩
theorem inv_back (ci : cIn X pins L τ H0 s0) (bl : Below X pins L) (g : GOk Y) (y3 : Y.outer = X.stack) (y4 : Y.env.locals = L) (yP : Y.prog = X.prog) (yw : Y.w = X.w) (I : Inv (reC Y s0 H0) [] σg H1 s1) (ho : OffP H1 pv) (hs : ∀ p ∈ pv, s1.heap.get? p.1 = some p.2) (hL : ∀ p ∈ pv, L ≤ p.1) : Inv X pins τ (plus H1 pv) s1 := by
  obtain ⟨pv0, H', rfl, hon, hyo, IX⟩ := ci
  have hun : Un (frs X.stack) [] (minus H' pv0) H1 (cutH s0.heap L) s1.heap := by
    have h : Un Y.fs Y.ex (minus H' pv0) H1 (cutH s0.heap Y.env.locals) s1.heap := I.base
    have e1 : Y.fs = frs X.stack := by show frs Y.outer = _; rw [y3]
    rw [e1, y4, g.ex] at h
    exact h
  have mn : ∀ b, H' b = none → minus H' pv0 b = none := fun b h => by
    unfold minus
    split
    · rfl
    · exact h
  have ms : ∀ b u, H' b = some u → (∀ q, u ≠ exO q) → minus H' pv0 b = some u := fun b u q n => by
    rw [minus_out]; exact q
    intro hc
    obtain ⟨p, _, _, e'⟩ := hon.at hc
    rw [q] at e'; cases e'
    exact n p rfl
  have low : ∀ {b o}, s0.heap.get? b = some o → b ∉ (List.range s0.heap.objs.size).filter (fun b => decide (L ≤ b)) → b < L := fun {b o} h hn => by
    refine Nat.lt_of_not_le fun z => hn (List.mem_filter.mpr ⟨List.mem_range.mpr (Heap.lt_size h), decide_eq_true z⟩)
  have npv : ∀ {b}, b < L → ¬ inPv pv b := fun {b} h ⟨p, hp, e⟩ => by
    have := hL p hp
    rw [e] at this
    exact absurd (Nat.lt_of_lt_of_le h this) (Nat.lt_irrefl _)
  have un : Un (frs X.stack) ((List.range s0.heap.objs.size).filter (fun b => decide (L ≤ b))) H' (plus H1 pv) s0.heap s1.heap := by
    refine ⟨fun b o q n hb hx => ?_, fun b o q n hb hx => ?_, fun b o q n hx => ?_, fun b o q hx => ?_, fun b xs q => ?_, fun b o u q => ?_, fun b ps q => ?_⟩
    · have h := low q hx
      exact hun.keep b o (by rw [cutH_lt h]; exact q) (mn b n) hb (by simp)
    · have h := low q hx
      exact hun.slot b o (by rw [cutH_lt h]; exact q) (mn b n) hb (by simp)
    · have h := low q hx
      rw [plus_out (npv h)]
      exact hun.free b o (by rw [cutH_lt h]; exact q) (mn b n) (by simp)
    · have h := low q hx
      exact hun.there b o (by rw [cutH_lt h]; exact q) (by simp)
    · exact plus_some ho (hun.tups b xs (ms b _ q fun _ z => by cases z))
    · exact plus_some ho (hun.frzs b o u (ms b _ q fun _ z => by cases z))
    · obtain ⟨more, h⟩ := hun.tbls b ps (ms b _ q fun _ z => by cases z)
      exact ⟨more, plus_some ho h⟩
  have hok : HOk X.prog X.w (plus H1 pv) s1.heap := by
    have h : HOk Y.prog Y.w H1 s1.heap := I.hok
    rw [yP, yw] at h
    exact hok_plus h ho hs
  refine IX.call' I.os un hok I.bare fun b hb => ?_
  have hb' : L ≤ b := of_decide_eq_true (List.mem_filter.mp hb).2
  refine ⟨.inr (Nat.le_trans bl.s0 hb'), Nat.ne_of_gt (Nat.lt_of_lt_of_le bl.loc hb'), fun x c h => Nat.ne_of_lt (Nat.lt_of_lt_of_le (bl.cell x c h) hb'), fun p hp => Nat.ne_of_lt (Nat.lt_of_lt_of_le (bl.pin p hp) hb')⟩
end
/-- behind a heap that has only grown -/
theorem inv_grow {X : Cx} {pins : List (Addr × Obj)} {σ : L2.St} {H : Hp} {s : Shared} {h' : Heap} {G : Array GenState} (I : Inv X pins σ H s) (hk : ∀ b o, s.heap.get? b = some o → h'.get? b = some o) (hb : AllBare G) : Inv X pins σ H { s with heap := h', gens := G } :=
  I.call' (s' := { s with heap := h', gens := G }) (ch := []) rfl (Un.kept hk) (I.hok.kept hk) hb fun b z => by simp at z

/-- an expression whose value is a generator that has not begun: its promise, its arguments -/
abbrev TGe := L2.St → Hp → (SpY → List V → Hp → Prop) → Prop
structure PGn (X : Cx) (k : Nat) (e : Expr) (tg : TGe) : Prop where
  run : ∀ (pins : List (Addr × Obj)) (s : Shared) (σ : L2.St) (H : Hp) (Φ : SpY → List V → Hp → Prop), Inv X pins σ H s → tg σ H Φ → wpAny (model X.prog X.w) X.A (eval e X.env)
    (fun u s' => ∃ sp vs H1 sc XA a g c go, u = .ref a ∧ Inv X pins σ H1 sc ∧ Inv X pins σ H1 s' ∧ (∀ B : Around, (XA B).K = X.K ∧ (XA B).mg = X.mg ∧ (XA B).base = X.base) ∧ GNew X.prog X.w k X.stack sp vs sc XA a g c go s' ∧ Φ sp vs H1) X.xe s
/-- the generator stands where it may be woken; n: how many may still come -/
def GAt (X Y : Cx) (C : GCt Y L2.St) (DN : L2.St → Hp → Prop) (a gi : Nat) (n : Nat) (s : Shared) : Prop := ∃ gs, s.gens[gi]? = some gs ∧ gs.Goes (model X.prog X.w) X.A.in1 (GRt C DN) (GYp C) n (.send .none) (s.setGen gi .running) ∧ s.heap.IsGen a gi ∧ s.heap.NoLimit
/-- what is known of a generator and its consumer for good -/
structure GCon (X Y : Cx) (pins : List (Addr × Obj)) (L : Nat) (a gi : Nat) (go : Obj) (C : GCt Y L2.St) : Prop where
  hh : X.A.handled = none
  hd : X.A.depth < recursionLimit
  bl : Below X pins L
  prog : Y.prog = X.prog
  w : Y.w = X.w
  outer : Y.outer = X.stack
  pn : Y.pn = [(a, go)]
  loc : Y.env.locals = L
  young : ∀ b ∈ prvA Y, L ≤ b
  gok : GOk Y
  isg : ∀ h : Heap, h.get? a = some go → h.IsGen a gi
  ci : C.CI = cIn X pins L
/-- what is known when it has handed out v -/
def GOut (X Y : Cx) (pins : List (Addr × Obj)) (C : GCt Y L2.St) (DN : L2.St → Hp → Prop) (a gi : Nat) (n : Nat) (v : Value) (s : Shared) : Prop := ∃ τ x H κ gs pv, slp gs = true ∧ s.gens[gi]? = some gs ∧ Inv X pins τ (plus H pv) s ∧ RelV x v ∧ OffP H pv ∧ C.YP (n - 1) τ x H κ ∧ s.heap.IsGen a gi ∧
  ∀ s' σ' H', Inv X pins σ' H' s' → s'.gens[gi]? = some gs → OnP H' pv → κ σ' (minus H' pv) → ∃ m, m < n ∧ GAt X Y C DN a gi m s'
theorem gen_turn {X Y : Cx} {pins : List (Addr × Obj)} {L a gi : Nat} {go : Obj} {C : GCt Y L2.St} {DN : L2.St → Hp → Prop} {n : Nat} {s : Shared} {E : Value → Shared → Prop} (c : GCon X Y pins L a gi go C) (G : GAt X Y C DN a gi n s) :
    wpAny (model X.prog X.w) X.A (pyNext (.ref a)) (fun r s' => match r with
      | none => ∃ τ H, Inv X pins τ H s' ∧ DN τ H
      | some v => GOut X Y pins C DN a gi n v s') E s := by
  obtain ⟨gs, hgs, hgo, hig, hnl⟩ := G
  have aP : a ∈ prvA Y := mem_prvA (.inr (.inr ⟨(a, go), by rw [c.pn]; exact List.mem_singleton.mpr rfl, rfl⟩))
  have hgl : gi + 1 ≤ s.gens.size := (Array.getElem?_eq_some_iff.mp hgs).1
  refine wpAny_gsz hgl (next_slp c.hh hnl c.hd hig hgs hgo (fun v s4 gs' hsl hbare hy hsz => ?_) fun s4 hf h' hk _ => ?_)
  case refine_2 =>
    obtain ⟨τ, H₀, σg, H4, ci, I4, dn⟩ := hf
    rw [c.ci] at ci
    have I5 : Inv X pins τ (plus H4 []) s4 := inv_back (pv := []) ci c.bl c.gok c.outer c.loc c.prog c.w I4 (fun p hp => by simp at hp) (fun p hp => by simp at hp) fun p hp => by simp at hp
    have e0 : plus H4 [] = H4 := by
      funext b
      rw [plus_out]
      rintro ⟨p, hp, _⟩
      simp at hp
    rw [e0] at I5
    exact ⟨τ, H4, inv_grow (s := s4) (G := (s4.setGen gi .finished).gens) I5 hk (allBare_setGen I5.bare rfl), dn⟩
  obtain ⟨τ, H₀, σg, x, H4, κ, ci, I4, rv, yp, kap⟩ := hy
  rw [c.ci] at ci
  obtain ⟨th, off⟩ := there_inv I4
  generalize hpv : prv Y s4.heap = pv at *
  have pvs : ∀ p ∈ pv, s4.heap.get? p.1 = some p.2 := fun p hp => by rw [← hpv] at hp; exact (mem_prv.mp hp).2
  have pvL : ∀ p ∈ pv, L ≤ p.1 := fun p hp => by rw [← hpv] at hp; exact c.young p.1 (mem_prv.mp hp).1
  have I5 : Inv X pins τ (plus H4 pv) s4 := inv_back ci c.bl c.gok c.outer c.loc c.prog c.w I4 off pvs pvL
  have go4 : s4.heap.get? a = some go := (I4.pin (a, go) (List.mem_append_left _ (by rw [c.pn]; exact List.mem_singleton.mpr rfl))).1
  have hg4 : (s4.setGen gi gs').gens[gi]? = some gs' := by
    refine setGen_at ?_
    have q : (s4.setGen gi gs').gens.size = s4.gens.size := setGen_size _ _ _
    have hsz' : gi + 1 ≤ (s4.setGen gi gs').gens.size := hsz
    omega
  refine ⟨τ, x, H4, κ, gs', pv, hsl, hg4, inv_gens I5 (allBare_setGen I5.bare hbare), rv, off, yp, c.isg _ go4, fun s7 σ7 H7 K7 g7 on7 k7 => ?_⟩
  have hp7 : ∀ p ∈ pv, s7.heap.get? p.1 = some p.2 := on7.heap K7.hok fun p h1 q h2 => by rw [← hpv] at h1 h2; exact prv_fn p h1 q h2
  have kp : ∀ b ∈ prvA Y, ∀ o, s4.heap.get? b = some o → s7.heap.get? b = some o := fun b hb o e => hp7 (b, o) (by rw [← hpv]; exact mem_prv.mpr ⟨hb, e⟩)
  have run := kap σ7 (minus H7 pv) (s7.setGen gi .running) (by rw [c.ci]; exact ⟨pv, H7, rfl, on7, pvL, inv_gens K7 (allBare_setGen K7.bare rfl)⟩) (fun b hb o e => kp b (mem_prvA hb) o e) (by rw [← hpv]; exact off_minus th) k7
  cases n with
  | zero => exact run.elim
  | succ m => exact ⟨m, Nat.lt_succ_self m, gs', g7, run, c.isg _ (kp a aP go go4), K7.nolimit⟩
/-- a generator that was just made may be woken -/
theorem gen_first {X : Cx} {pins : List (Addr × Obj)} {σ : L2.St} {H : Hp} {k : Nat} {sp : SpY} {vs : List V} {sc s : Shared} {XA : Around → Cx} {a gi : Nat} {c : Code} {go : Obj} {YP : YPt L2.St} {DN : L2.St → Hp → Prop} {n : Nat}
    (hr : Room (k + 1) X.A) (Ic : Inv X pins σ H sc) (I : Inv X pins σ H s) (hK : ∀ B : Around, (XA B).K = X.K ∧ (XA B).mg = X.mg ∧ (XA B).base = X.base) (N : GNew X.prog X.w k X.stack sp vs sc XA a gi c go s) (h : sp L2.St vs H n σ YP DN) :
    ∃ C : GCt (XA X.A.in1) L2.St, C.YP = YP ∧ GCon X (XA X.A.in1) pins sc.heap.objs.size a gi go C ∧ GAt X (XA X.A.in1) C DN a gi n s := by
  obtain ⟨y1, y2, y3, y4, y5⟩ := N.prog X.A.in1
  obtain ⟨k1, k2, k3⟩ := hK X.A.in1
  have cenv : ∀ τ H' s', cIn X pins sc.heap.objs.size τ H' s' → ∃ B, Env0 (XA X.A.in1).prog (XA X.A.in1).w (XA X.A.in1).K (XA X.A.in1).mg (XA X.A.in1).base B (XA X.A.in1).outer s' H' := by
    rintro τ _ s' ⟨pv, H2, rfl, hon, _, I2⟩
    refine ⟨X.A, ?_⟩
    rw [y1, y2, k1, k2, k3, y3]
    exact env_minus I2.env0 hon
  refine ⟨⟨cIn X pins sc.heap.objs.size, cenv, YP⟩, rfl, ⟨hr.hd, hr.depth, below_of Ic, y1, y2, y3, y4, y5, N.young _, N.gok _, N.isg, rfl⟩, ?_⟩
  refine ⟨_, N.gen, ⟨rfl, ?_⟩, N.isg _ N.obj, N.nolim⟩
  refine N.wake X.A.in1 hr.in1 I.ok.frames L2.St _ n σ _ H DN ⟨[], H, ?_, fun p hp => by simp at hp, fun p hp => by simp at hp, ?_⟩ (fun b hb o e => e) ?_ h
  · funext b
    unfold minus
    rw [if_neg]
    rintro ⟨p, hp, _⟩
    simp at hp
  · exact inv_gens I (allBare_setGen I.bare rfl)
  · have hn : ∀ b ∈ prvA (XA X.A.in1), H b = none := fun b hb => Ic.hok.fresh (N.young _ b hb)
    exact ⟨hn _ (mem_prvA (.inl rfl)), fun x c h => hn c (mem_prvA (.inr (.inl ⟨x, h⟩))), fun p hp => hn p.1 (mem_prvA (.inr (.inr ⟨p, hp, rfl⟩)))⟩
/-- code that is run while the generator sleeps -/
theorem asleep {M : Model} {A : Around} {α : Type} {t : Sem α} {R : α → Shared → Prop} {E E' : Value → Shared → Prop} {s : Shared} {gi : Nat} {gs : GenState} (hb : AllBare s.gens) (hg : s.gens[gi]? = some gs) (hs : slp gs = true) (hE : ∀ e s', ¬ E e s')
    (hR : ∀ a s', R a s' → AllBare s'.gens ∧ ∀ G, AllBare G → R a { s' with gens := G }) (h : AllBare (s.gens.map stk) → wpAny M A t R E { s with gens := s.gens.map stk }) : wpAny M A t (fun a s' => R a s' ∧ s'.gens[gi]? = some gs) E' s := by
  refine wpAny_mono (wpAny_sleepers (h (allBare_map hb))) (fun a s' ⟨t', e, hid, r⟩ => ?_) fun e s' ⟨t', _, _, z⟩ => absurd z (hE e t')
  subst e
  obtain ⟨b1, b2⟩ := hR a t' r
  exact ⟨b2 _ (allBare_tru hb b1), tru_at hid hg hs⟩
theorem sp_gens {X : Cx} {pins : List (Addr × Obj)} {D : Ends} {f : Flow} {s : Shared} (h : SP X pins D f s) : AllBare s.gens ∧ ∀ G, AllBare G → SP X pins D f { s with gens := G } := by
  cases f with
  | next => obtain ⟨σ', H', I, q⟩ := h; exact ⟨I.bare, fun G b => ⟨σ', H', inv_gens I b, q⟩⟩
  | brk => obtain ⟨σ', H', I, q⟩ := h; exact ⟨I.bare, fun G b => ⟨σ', H', inv_gens I b, q⟩⟩
  | cont => obtain ⟨σ', H', I, q⟩ := h; exact ⟨I.bare, fun G b => ⟨σ', H', inv_gens I b, q⟩⟩
  | ret u => obtain ⟨v, σ', H', I, r, q⟩ := h; exact ⟨I.bare, fun G b => ⟨v, σ', H', inv_gens I b, r, q⟩⟩
theorem go_gen {X : Cx} {s : Shared} {a gi : Nat} {tgt : Expr} {v : Value} {E : Value → Shared → Prop} {Q : Unit → Shared → Prop} (h : s.heap.IsGen a gi) (hQ : Q () s) : wpAny (model X.prog X.w) X.A (letOwnedTupleGo tgt (.ref a) v) Q E s := by
  obtain ⟨og, nm, qn, e1, e2, e3, _⟩ := h
  exact go_of (o := og) (n := "generator") e1 e2 e3 (by decide) hQ
def wkF (pv : List (Addr × Obj)) (κ : L2.St → Hp → Prop) : L2.St → Hp → Prop := fun σ3 H3 => OnP H3 pv ∧ κ σ3 (minus H3 pv)
def ypF (g : TG) (tb : TS) (D : Ends) : YPt L2.St := fun m σ x H1 κ => ∀ pv, OffP H1 pv → g x σ (plus H1 pv) fun σ2 H2 => tb { D with nx := wkF pv κ, ct := wkF pv κ, bk := D.nx } σ2 H2
def tForY (tg : TGe) (g : TG) (tb : TS) : TS := fun D σ H => tg σ H fun sp vs H1 => ∃ n, sp L2.St vs H1 n σ (ypF g tb D) D.nx
theorem ps_forY {X : Cx} {k : Nat} {iter tgt : Expr} {body : List Stmt} {tg : TGe} {g : TG} {tb : TS} {pos : Pos} (hp : PassesOwn (model X.prog X.w) X.A X.env X.xe) (hx : ∀ e s, ¬ X.xe e s) (hr : Room (k + 1) X.A) (hi : PGn X k iter tg) (hg : PG X tgt g) (hb : PSs X body tb)
    (hs : ∀ x, foldedSetIterable iter X.env x = pure x := by intro _; rfl) : PS X (.For tgt iter body [] pos) (tForY tg g tb) := by
  refine ⟨fun pins s σ H D I h => ?_⟩
  refine wpAny_For (thn (hi.run pins s σ H _ I h) fun v s1 h1 => ?_) hs
  obtain ⟨sp, vs, H1, sc, XA, a, gi, c, go, rfl, Ic, I1, hK, N, n0, hsp⟩ := h1
  refine wpAny_pyIter_gen (N.isg _ N.obj) ?_
  obtain ⟨C, eC, con, at0⟩ := gen_first hr Ic I1 hK N hsp
  refine codeAny_forLoop_any (fun n s' => GAt X (XA X.A.in1) C D.nx a gi n s') (fun n s3 G3 => ?_) n0 at0
  refine wpAny_passesOwn hp (thn (gen_turn con G3) fun r s4 h4 => ?_)
  cases r with
  | none =>
    obtain ⟨τ, H4, I4, dn⟩ := h4
    exact wpAny_execs_nil ⟨τ, H4, I4, dn⟩
  | some v =>
    obtain ⟨τ, x, H4, κ, gs, pv, hsl, g4, I4, rv, off, yp, ig, back⟩ := h4
    rw [eC] at yp
    refine wpAny_passesOwn hp (go_gen ig ?_)
    refine wpAny_passesOwn hp (thn (asleep I4.bare g4 hsl hx (fun _ s' ⟨σ', H', I', q⟩ => ⟨I'.bare, fun G b => ⟨σ', H', inv_gens I' b, q⟩⟩) fun b => hg.run pins _ τ (plus H4 pv) x v _ (inv_gens I4 b) rv (yp pv off)) fun _ s6 ⟨⟨σ6, H6, I6, q6⟩, g6⟩ => ?_)
    refine wpAny_passesOwn hp (thn (asleep I6.bare g6 hsl hx (fun _ s' h => sp_gens h) fun b => hb.run pins _ σ6 H6 _ (inv_gens I6 b) q6) fun f s7 ⟨q7, g7⟩ => ?_)
    cases f with
    | next => obtain ⟨σ7, H7, J7, w7⟩ := q7; exact back s7 σ7 H7 J7 g7 w7.1 w7.2
    | cont => obtain ⟨σ7, H7, J7, w7⟩ := q7; exact back s7 σ7 H7 J7 g7 w7.1 w7.2
    | brk => obtain ⟨σ7, H7, J7, q⟩ := q7; exact ⟨σ7, H7, J7, q⟩
    | ret u => obtain ⟨x7, σ7, H7, J7, r7, q⟩ := q7; exact ⟨x7, σ7, H7, J7, r7, q⟩
end Nm

set_option Elab.async false
set_option linter.all false
set_option maxRecDepth 100000
set_option maxHeartbeats 2000000
/-! Calls that make generators; a comprehension whose second source is one. -/
namespace Nm
open PySem PySem.Spec L2 PyProof.Rows GenW

section
variable {X : Cx} {k : Nat} {f C : Addr} {fd : FuncData} {ps : List Str} {sp : SpY} {x m : Str} {p pos' apos : Pos} {o e : Expr} {es : List Expr} {ta : TE} {t : TA} {pl : Sem Bool}
theorem run_gfy {pins : List (Addr × Obj)} {σ : L2.St} {H : Hp} {s : Shared} {us : List Value} {vs : List V} {Φ : SpY → List V → Hp → Prop} {E : Value → Shared → Prop} (F : GFy X.prog X.w X.K X.mg X.base k f fd ps sp) (hr : Room k X.A) (hb : Binds X.K fd ps []) (I : Inv X pins σ H s) (r : Vals vs us) (hl : vs.length = ps.length) (h : Φ sp vs H) :
    wpAny (model X.prog X.w) X.A (call (.ref f) us) (fun u s' => ∃ sp vs H1 sc XA a g c go, u = .ref a ∧ Inv X pins σ H1 sc ∧ Inv X pins σ H1 s' ∧ (∀ B : Around, (XA B).K = X.K ∧ (XA B).mg = X.mg ∧ (XA B).base = X.base) ∧ GNew X.prog X.w k X.stack sp vs sc XA a g c go s' ∧ Φ sp vs H1) E s := by
  have hl2 : us.length = ps.length := by rw [← r.length]; exact hl
  have hbi := hb s us I.kIn (by rw [List.append_nil]; exact hl2)
  rw [List.append_nil] at hbi
  refine wpAny_call (codeAny_mono (F.run X.A X.stack s H ⟨us, []⟩ us vs hr I.env0 hbi r hl) fun r s' hq => ?_)
  cases r with
  | error e => exact False.elim hq
  | ok fl =>
    cases fl with
    | ret u =>
      obtain ⟨XA, a, g, c, go, rfl, hK, N⟩ := hq
      exact ⟨sp, vs, H, s, XA, a, g, c, go, rfl, I, I.call' (ch := []) N.os (Un.kept N.keep) (I.hok.kept N.keep) N.bare (fun b z => by simp at z), hK, N, h⟩
    | next => exact False.elim hq
    | brk => exact False.elim hq
    | cont => exact False.elim hq
/-- o.m(e, ..) of a generator method -/
def tMethY (C : Addr) (m : Str) (n : Nat) (sp : SpY) (ta : TE) (t : TA) : TGe := fun σ H Φ => ta σ H fun y H1 => ∃ a dx fs, y = .ref a ∧ H1 a = some (.ins C dx fs) ∧ fs.lookup m = none ∧ t σ H1 fun vs H2 => (y :: vs).length = n ∧ Φ sp (y :: vs) H2
theorem pgn_meth (he : PE X o ta) (c : Cls X.K C) (hm : Meth X.K C m f) (F : GFy X.prog X.w X.K X.mg X.base k f fd ps sp) (hr : Room k X.A) (hb : Binds X.K fd ps []) (ha : PA X (e :: es) t)
    (hst : starEach (e :: es) X.env = (false, eval e X.env) :: starEach es X.env := by rfl) (hpl : (backTo pos' (starEach es X.env)).any (·.1) = false := by rfl)
    (ht : eval (.Call (.Attribute o m apos) (e :: es) [] pos') X.env = (do
      let ov ← eval o X.env
      standAt apos.atName
      let (f, first) ← holding [ov] (getMethod ov m pl)
      callWith pos' f first (backTo pos' (starEach (e :: es) X.env)) (backToKw pos' (keywordEach [] X.env))) := by rfl) :
    PGn X k (.Call (.Attribute o m apos) (e :: es) [] pos') (tMethY C m ps.length sp ta t) := by
  refine ⟨fun pins s σ H Φ I h => ?_⟩
  refine PySem.W.methodCall_KW (pl := pl) (thn (he.run pins s σ H _ I h) fun u s1 hh => ?_) ht
  obtain ⟨y, H1, I1, ry, a, dx, fs, ey, ea, l, q⟩ := hh
  subst ey
  obtain rfl : u = Value.ref a := ry
  refine getmeth_ok I1 ea c hm l ?_
  refine PySem.W.callWith_K (first := [.ref a]) (h₀ := X.base) I.ok.mod.kin hm.kp (thn (ha.run pos' pins s1 σ H1 _ I1 q) fun us s2 hh => ?_) hst hpl
  obtain ⟨vs, H2, I2, r, hn, q2⟩ := hh
  exact ⟨I2.kIn, run_gfy (us := .ref a :: us) (vs := .ref a :: vs) F hr hb I2 (.cons rfl r) hn q2⟩
/-- f(e, ..) of a generator def -/
def tCallY (n : Nat) (sp : SpY) (t : TA) : TGe := fun σ H Φ => t σ H fun vs H1 => vs.length = n ∧ Φ sp vs H1
theorem pgn_call (F : GFy X.prog X.w X.K X.mg X.base k f fd ps sp) (hr : Room k X.A) (hg : Gl X x) (hm : X.mg x = some (.ref f)) (hk : PySem.W.keepIn X.K (.ref f) = true) (hb : Binds X.K fd ps []) (ha : PA X (e :: es) t) (hdb : (x == ("__debug__" : Str)) = false := by decide)
    (he : starEach (e :: es) X.env = (false, eval e X.env) :: starEach es X.env := by rfl) (hpl : (backTo pos' (starEach es X.env)).any (·.1) = false := by rfl) :
    PGn X k (.Call (.Name x p) (e :: es) [] pos') (tCallY ps.length sp t) := by
  refine ⟨fun pins s σ H Φ I h => ?_⟩
  refine wpAny_Call_Name_kw (ld_glob I hg hm ?_ hdb)
  refine PySem.W.callWith_K (h₀ := X.base) I.ok.mod.kin hk (thn (ha.run pos' pins s σ H _ I h) fun us s1 hh => ?_) he hpl
  obtain ⟨vs, H1, I1, r, hn, q⟩ := hh
  exact ⟨I1.kIn, run_gfy F hr hb I1 r hn q⟩
end

/-! ### [elt for tg in iter if .. for tg1 in g() if ..] -/
/-- what a turn of the inner loop is to reach -/
def ypC (g1 : TG) (tt1 : TT) (te : TE) (vs1 : List Nat) (D : Addr) : YPt L2.St := fun m τ x H5 κ => ∀ pv, OffP H5 pv → g1 x τ (plus H5 pv) fun σ3 H6 => tt1 σ3 H6 fun b H7 =>
  if b = true then te σ3 H7 fun y H8 => ∃ acc, H8 D = some (.lst acc) ∧ acc.length < sizeLine ∧ wkF pv κ (wipe σ3 vs1) (upd H8 D (.lst (acc ++ [y]))) else wkF pv κ (wipe σ3 vs1) H7
def tLc2Y (wi : TI) (g : TG) (tt : TT) (tg1 : TGe) (g1 : TG) (tt1 : TT) (te : TE) (vs vs1 : List Nat) : TE := fun σ H Q => wi σ H fun J H1 => ∀ D, H1 D = none → ∃ W : Nat → Nat → Hp → Prop, (∃ m, W 0 m (upd H1 D (.lst []))) ∧ ∀ i m H, W i m H →
  (J.stop i H ∧ Q (.ref D) H) ∨ (J.go i H ∧ ∃ Nx : Hp → Prop, (∀ H', Nx H' → ∃ m', m' < m ∧ W (i + 1) m' H') ∧ ∀ x H', J.yld i H x H' → g x (wipe σ vs) H' fun σ2 H2 => wipe σ2 vs = wipe σ vs ∧ tt σ2 H2 fun b H3 =>
    if b = true then tg1 σ2 H3 fun sp ws H4 => ∃ n, sp L2.St ws H4 n (wipe σ2 vs1) (ypC g1 tt1 te vs1 D) (fun τ H' => τ = wipe σ2 vs1 ∧ Nx H')
    else Nx H3)
section
variable {X : Cx}
theorem lc2Y {pins : List (Addr × Obj)} {s : Shared} {σ : L2.St} {H : Hp} {Q : VK} {elt tg iter tg1 iter1 : Expr} {ifs ifs1 : List Expr} {scope : Scope} {own : List (Str × Nat)} {vs1 : List Nat} {pos pos' : Pos} {wi : TI} {k : Nat} {tge : TGe} {g g1 : TG} {tt tt1 : TT} {te : TE} {use : Option (Value → Sem Unit)} {Qf : Value → Shared → Prop}
    (hc : X.calm = true) (hr : Room (k + 1) X.A) (hN : X.N.Nodup) (I : Inv X pins σ H s) (hi : PI X tg iter wi) (ok : BlkOk X.N X.env.scope scope own) (hv : ∀ i ∈ vs1, i ∈ own.map (·.2))
    (hg : ∀ (s : Shared) (H : Hp) (C : Addr) (cl : List (Str × Addr)) (fp : List Addr), PG (X.blk s H scope (compEnvC scope cl C X.env) fp) tg g) (ht : ∀ (s : Shared) (H : Hp) (C : Addr) (cl : List (Str × Addr)) (fp : List Addr), PTs (X.blk s H scope (compEnvC scope cl C X.env) fp) ifs tt)
    (he : ∀ (s : Shared) (H : Hp) (C : Addr) (cl : List (Str × Addr)) (fp : List Addr), PE (X.blk s H scope (compEnvC scope cl C X.env) fp) elt te) (hs : ∀ x, foldedSetIterable iter X.env x = pure x)
    (hi1 : ∀ (s : Shared) (H : Hp) (C : Addr) (cl : List (Str × Addr)) (fp : List Addr), PGn (X.blk s H scope (compEnvC scope cl C X.env) fp) k iter1 tge)
    (hg1 : ∀ (s : Shared) (H : Hp) (C : Addr) (cl : List (Str × Addr)) (fp : List Addr), PG (X.blk s H scope (compEnvC scope cl C X.env) fp) tg1 g1)
    (ht1 : ∀ (s : Shared) (H : Hp) (C : Addr) (cl : List (Str × Addr)) (fp : List Addr), PTs (X.blk s H scope (compEnvC scope cl C X.env) fp) ifs1 tt1)
    (hs1 : ∀ env x, foldedSetIterable iter1 env x = pure x)
    (h : tLc2Y wi g tt tge g1 tt1 te (own.map (·.2)) vs1 σ H Q)
    (hRR : ∀ D C s' m H', Inv X pins σ H' s' → Q (.ref D) H' → s'.heap.Ns C m → FpOk X pins H' C → compPost (model X.prog X.w) X.A X.xe use Qf (.ref D) C (.ok .next) s') :
    wpAny (model X.prog X.w) X.A (comprehension (.ListComp elt [⟨tg, iter, ifs, 0⟩, ⟨tg1, iter1, ifs1, 0⟩] scope pos) scope X.env pos' (newList []) false (eval iter X.env) use) Qf X.xe s := by
  have hfree : ∀ y ∈ scope.names, y.2 = .free → ∃ c, X.env.cells.lookup y.1 = some c := fun y hy e => (ok.free y hy e).elim (fun k => I.ok.has _ (.inl k)) fun k => I.ok.has _ (.inr k)
  refine wpAny_comprehension_free (use := use) rfl hs (closure_ok hfree) ok.kind (fun y hy e => by rw [ok.uniq y hy, e]) (thn (hi.run pins s σ H _ I h) fun xv s1 hx => thn hx fun itv s2 h2 => ?_)
  obtain ⟨it, fp, tn, J, H2, e, I2, T, st2, f2, q⟩ := h2
  subst e
  refine wpAny_newObj_type (newEnv_comp ?_) (by show 0 ≤ sizeLine; decide)
  generalize hD : s2.heap.objs.size = D
  have hDn : H2 D = none := I2.hok.fresh (Nat.le_of_eq hD)
  obtain ⟨W, ⟨m0, w0⟩, turn⟩ := q D hDn
  generalize hs3 : ({ s2 with heap := s2.heap.push { cls := .type "list", data := .seq ([] : List Value).toArray } } : Shared) = s3
  have I3 : Inv X pins σ (upd H2 D (.lst [])) s3 := by
    rw [← hs3]
    refine I2.laid (t' := s2.toks) (fun b o e => Heap.get?_push_of_some _ e) (Nat.le_of_eq hD) ⟨Nat.zero_le _, [], 0, .nil, ?_⟩
    rw [← hD]
    exact Heap.get?_push_size _ rfl
  have h3 : s3.heap = s2.heap.push { cls := .type "list", data := .seq ([] : List Value).toArray } := by rw [← hs3]
  have sz : ∀ b ∈ fp, b < s2.heap.objs.size := fun b hb => let ⟨o, e, _⟩ := T.obj _ _ st2 b hb; Heap.lt_size e
  have f3 : ∀ b ∈ fp, FpOk X pins (upd H2 D (.lst [])) b ∧ b < s3.heap.objs.size := fun b hb => by
    have hlt := sz b hb
    refine ⟨⟨?_, (f2 b hb).2⟩, by rw [h3, Heap.size_push]; exact Nat.lt_succ_of_lt hlt⟩
    rw [upd_ne (by rw [← hD]; exact Nat.ne_of_lt hlt)]
    exact (f2 b hb).1
  have st3 : tn 0 s3.heap := T.keep _ _ _ st2 fun b _ o e => by rw [h3]; exact Heap.get?_push_of_some _ e
  have I4 := block_start I3 ok hN f3
  have pg := hg s3 (upd H2 D (.lst [])) s3.heap.objs.size (cellsFrom (s3.heap.objs.size + 1) scope.names (cloFrom X.env.cells scope.names [])) fp
  have pt := ht s3 (upd H2 D (.lst [])) s3.heap.objs.size (cellsFrom (s3.heap.objs.size + 1) scope.names (cloFrom X.env.cells scope.names [])) fp
  have pe := he s3 (upd H2 D (.lst [])) s3.heap.objs.size (cellsFrom (s3.heap.objs.size + 1) scope.names (cloFrom X.env.cells scope.names [])) fp
  have pi1 := hi1 s3 (upd H2 D (.lst [])) s3.heap.objs.size (cellsFrom (s3.heap.objs.size + 1) scope.names (cloFrom X.env.cells scope.names [])) fp
  have pg1 := hg1 s3 (upd H2 D (.lst [])) s3.heap.objs.size (cellsFrom (s3.heap.objs.size + 1) scope.names (cloFrom X.env.cells scope.names [])) fp
  have pt1 := ht1 s3 (upd H2 D (.lst [])) s3.heap.objs.size (cellsFrom (s3.heap.objs.size + 1) scope.names (cloFrom X.env.cells scope.names [])) fp
  show codeAny _ _ (.compStart (.ListComp elt [⟨tg, iter, ifs, 0⟩, ⟨tg1, iter1, ifs1, 0⟩] scope pos) 0 (.ref it) (.ref D) (compEnvC scope (cellsFrom (s3.heap.objs.size + 1) scope.names (cloFrom X.env.cells scope.names [])) s3.heap.objs.size X.env)) (compPost (model X.prog X.w) X.A X.xe use Qf (.ref D) s3.heap.objs.size) { s3 with heap := pushCells (s3.heap.push { cls := .type "dict", data := .dict #[] }) scope.names }
  have nfp : ∀ b ∈ fp, (upd H2 D (.lst [])) b = none := fun b hb => (f3 b hb).1.1
  generalize hce : compEnvC scope (cellsFrom (s3.heap.objs.size + 1) scope.names (cloFrom X.env.cells scope.names [])) s3.heap.objs.size X.env = ce at I4 pg pt pe pi1 pg1 pt1 ⊢
  have cL : ce.locals = s3.heap.objs.size := by subst hce; rfl
  generalize hH3 : upd H2 D (.lst []) = H3 at I3 I4 pg pt pe pi1 pg1 pt1 w0 nfp f3
  generalize hs4 : ({ s3 with heap := pushCells (s3.heap.push { cls := .type "dict", data := .dict #[] }) scope.names } : Shared) = s4 at I4 ⊢
  have st4 : tn 0 s4.heap := T.keep _ _ _ st3 fun b _ o e => by rw [← hs4]; exact pushCells_keeps _ _ _ _ (Heap.get?_push_of_some _ e)
  have stat : ∀ {σ' : L2.St} {H' : Hp} {s' : Shared}, Inv (X.blk s3 H3 scope ce fp) [] σ' H' s' → (∀ b ∈ fp, H' b = none) → ∀ b ∈ fp, FpOk (X.blk s3 H3 scope ce fp) [] H' b := fun {σ' H' s'} I' hn b hb =>
    ⟨hn b hb, (I'.ok.exf b hb).1, I'.ok.exfs b hb, .inl hb, fun x c e => (I'.ok.exf b hb).2 x c e, fun p hp => absurd (show p ∈ ([] : List (Addr × Obj)) ++ [] from hp) (by simp)⟩
  have nox : ∀ e s, ¬ (X.blk s3 H3 scope ce fp).xe e s := fun _ _ z => z
  have loop : codeAny (model X.prog X.w) X.A (.compLoop (.ListComp elt [⟨tg, iter, ifs, 0⟩, ⟨tg1, iter1, ifs1, 0⟩] scope pos) 0 (.ref it) (.ref D) ce) (compPost (model X.prog X.w) X.A X.xe use Qf (.ref D) s3.heap.objs.size) s4 := by
    refine compLoop2_out (hs1 ce) (fun n s' => ∃ i H', Inv (X.blk s3 H3 scope ce fp) [] (wipe σ (own.map (·.2))) H' s' ∧ tn i s'.heap ∧ (∀ b ∈ fp, H' b = none) ∧ W i n H') ?_ m0 ⟨0, H3, I4, st4, nfp, w0⟩
    rintro n s5 ⟨i, H5, I5, st5, n5, w5⟩
    rcases turn i n H5 w5 with ⟨stop, qq⟩ | ⟨go, Nx, hNx, step⟩
    · refine thnF (T.done (X.blk s3 H3 scope ce fp) rfl rfl rfl hc i [] s5 _ H5 (fun _ _ => False) I5 (stat I5 n5) st5 stop) fun r s6 ⟨hr, I6⟩ => ?_
      subst hr
      have I7 : Inv X pins σ H5 s6 := I3.call' (ch := fp) I6.os I6.base I6.hok I6.bare fun b hb => ⟨(f3 b hb).1.2.2.2.1, (f3 b hb).1.2.1, (f3 b hb).1.2.2.2.2.1, (f3 b hb).1.2.2.2.2.2⟩
      have nC : H5 s3.heap.objs.size = none := by
        have z : H5 ce.locals = none := I6.free
        rw [cL] at z
        exact z
      obtain ⟨m, hn, _⟩ := I6.loc
      have hn : s6.heap.Ns ce.locals m := hn
      rw [cL] at hn
      exact hRR D s3.heap.objs.size s6 m H5 I7 qq hn (I3.fpOk (Nat.le_refl _) nC)
    · refine thnF (T.item (X.blk s3 H3 scope ce fp) rfl rfl rfl hc i [] s5 _ H5 (fun _ _ => False) I5 (stat I5 n5) st5 go) fun r s6 ⟨u, hr, h6⟩ => ?_
      subst hr
      refine thnF h6 fun _ s7 ⟨x, H7, I7, r7, y7, st7, n7⟩ => ?_
      have I7' := I7.pinned (stat I7 n7) (T.obj _ _ st7)
      refine thnF (pg.run _ s7 _ H7 x u _ I7' r7 (step x H7 y7)) fun _ s8 ⟨σ8, H8, I8, hw8, q8⟩ => ?_
      refine thnF (pt.run _ s8 σ8 H8 _ I8 q8) fun b s9 ⟨H9, I9, q9⟩ => ?_
      have fin : ∀ {σ9 : L2.St} {s' : Shared} {H' : Hp}, Inv (X.blk s3 H3 scope ce fp) ([] ++ pinsAt fp s7.heap) σ9 H' s' → (wipe σ (own.map (·.2))).length = σ9.length → (∀ (j : Nat) v, (wipe σ (own.map (·.2)))[j]? = some (some v) → σ9[j]? = some (some v)) → Nx H' →
          ∃ m, m < n ∧ ∃ i H', Inv (X.blk s3 H3 scope ce fp) [] (wipe σ (own.map (·.2))) H' s' ∧ tn i s'.heap ∧ (∀ b ∈ fp, H' b = none) ∧ W i m H' := fun {σ9 s' H'} I' hl hk nx => by
        obtain ⟨m', hm, w'⟩ := hNx H' nx
        have pin' : ∀ b ∈ fp, ∀ o, s7.heap.get? b = some o → s'.heap.get? b = some o ∧ H' b = none := fun b hb o e =>
          let z := I'.pin (b, o) (List.mem_append_right _ (List.mem_append_right _ (mem_pinsAt hb e)))
          ⟨z.1, z.2.1⟩
        refine ⟨m', hm, i + 1, H', (I'.unpinned (pins := [])).weak hl hk, T.keep _ _ _ st7 fun b hb o e => (pin' b hb o e).1, fun b hb => ?_, w'⟩
        obtain ⟨o, e, _⟩ := T.obj _ _ st7 b hb
        exact (pin' b hb o e).2
      have hl8 : (wipe σ (own.map (·.2))).length = σ8.length := by rw [← hw8, wipe_length]
      have hk8 : ∀ (j : Nat) v, (wipe σ (own.map (·.2)))[j]? = some (some v) → σ8[j]? = some (some v) := fun j v e => by
        rw [← hw8] at e
        exact (wipe_some e).1
      have hk9 : ∀ (j : Nat) v, (wipe σ (own.map (·.2)))[j]? = some (some v) → (wipe σ8 vs1)[j]? = some (some v) := fun j v e => by
        rw [← hw8] at e
        obtain ⟨e1, e2⟩ := wipe_some e
        rw [wipe_out fun z => e2 (hv j z)]
        exact e1
      cases b with
      | false =>
        simp only [Bool.false_eq_true, if_false] at q9 ⊢
        exact fin I9 hl8 hk8 q9
      | true =>
        simp only [if_true] at q9 ⊢
        refine thnF (pi1.run _ s9 σ8 H9 _ I9 q9) fun xv s10 h10 => ?_
        obtain ⟨sp, ws, H11, sc, XA, a, gi, c, go, rfl, Ic, I11, hK, N, n1, hsp⟩ := h10
        have Iw : Inv (X.blk s3 H3 scope ce fp) ([] ++ pinsAt fp s7.heap) (wipe σ8 vs1) H11 s10 := I11.weak (wipe_length _ _) fun j v e => (wipe_some e).1
        have Icw : Inv (X.blk s3 H3 scope ce fp) ([] ++ pinsAt fp s7.heap) (wipe σ8 vs1) H11 sc := Ic.weak (wipe_length _ _) fun j v e => (wipe_some e).1
        obtain ⟨C, eC, con, at0⟩ := gen_first (X := X.blk s3 H3 scope ce fp) hr Icw Iw hK N hsp
        refine wpAny_pyIter_gen (N.isg _ N.obj) ?_
        have loop1 : codeAny (model X.prog X.w) X.A (.compLoop (.ListComp elt [⟨tg, iter, ifs, 0⟩, ⟨tg1, iter1, ifs1, 0⟩] scope pos) 1 (.ref a) (.ref D) ce)
            (fun r s' => match r with
              | .ok _ => ∃ m, m < n ∧ ∃ i H', Inv (X.blk s3 H3 scope ce fp) [] (wipe σ (own.map (·.2))) H' s' ∧ tn i s'.heap ∧ (∀ b ∈ fp, H' b = none) ∧ W i m H'
              | .error _ => False) s10 := by
          refine compLoop2_in (fun k s' => GAt (X.blk s3 H3 scope ce fp) (XA X.A.in1) C _ a gi k s') (fun k s12 G12 => ?_) n1 at0
          refine thnF (gen_turn (X := X.blk s3 H3 scope ce fp) (E := fun _ _ => False) con G12) fun r s13 h13 => ?_
          cases r with
          | none =>
            obtain ⟨τ, H13, I13, eτ, nx⟩ := h13
            subst eτ
            exact fin I13 (hl8.trans (wipe_length σ8 vs1).symm) hk9 nx
          | some v1 =>
            obtain ⟨τ, x1, H13, κ, gs, pv, hsl, g13, I13, r13, off, yp, ig, back⟩ := h13
            rw [eC] at yp
            refine go_gen (X := X.blk s3 H3 scope ce fp) ig ?_
            refine thnF (asleep (E' := fun _ _ => False) I13.bare g13 hsl nox (fun _ s' ⟨σ', H', I', q⟩ => ⟨I'.bare, fun G b => ⟨σ', H', inv_gens I' b, q⟩⟩) fun b => pg1.run _ _ τ (plus H13 pv) x1 v1 _ (inv_gens I13 b) r13 (yp pv off)) fun _ s15 ⟨⟨σ15, H15, I15, q15⟩, g15⟩ => ?_
            refine thnF (asleep (E' := fun _ _ => False) I15.bare g15 hsl nox (fun _ s' ⟨H', I', q⟩ => ⟨I'.bare, fun G b => ⟨H', inv_gens I' b, q⟩⟩) fun b => pt1.run _ _ σ15 H15 _ (inv_gens I15 b) q15) fun b1 s16 ⟨⟨H16, I16, q16⟩, g16⟩ => ?_
            have fin1 : ∀ {s' : Shared} {H' : Hp}, Inv (X.blk s3 H3 scope ce fp) ([] ++ pinsAt fp s7.heap) σ15 H' s' → s'.gens[gi]? = some gs → wkF pv κ (wipe σ15 vs1) H' → ∃ m, m < k ∧ GAt (X.blk s3 H3 scope ce fp) (XA X.A.in1) C _ a gi m s' := fun {s' H'} I' g' wk =>
              back s' (wipe σ15 vs1) H' (I'.weak (wipe_length _ _) fun j v e => (wipe_some e).1) g' wk.1 wk.2
            cases b1 with
            | false =>
              simp only [Bool.false_eq_true, if_false] at q16 ⊢
              exact fin1 I16 g16 q16
            | true =>
              simp only [if_true] at q16 ⊢
              refine thnF (asleep (E' := fun _ _ => False) I16.bare g16 hsl nox (fun _ s' ⟨y, H', I', r, q⟩ => ⟨I'.bare, fun G b => ⟨y, H', inv_gens I' b, r, q⟩⟩) fun b => pe.run _ _ σ15 H16 _ (inv_gens I16 b) q16) fun z s17 ⟨⟨yv, H17, I17, r17, acc, hD17, hz17, nx⟩, g17⟩ => ?_
              refine thnF (asleep (E := fun _ _ => False) (E' := fun _ _ => False) (R := fun _ s' => Inv (X.blk s3 H3 scope ce fp) ([] ++ pinsAt fp s7.heap) σ15 (upd H17 D (.lst (acc ++ [yv]))) s') I17.bare g17 hsl (fun _ _ z => z) (fun _ s' I' => ⟨I'.bare, fun G b => inv_gens I' b⟩) fun b => app_ok (X := X.blk s3 H3 scope ce fp) (inv_gens I17 b) hD17 hz17 r17 fun s18 I18 => I18) fun _ s18 ⟨I18, g18⟩ => ?_
              exact fin1 I18 g18 nx
        exact compStart1_ok loop1 (wpAny_pyIter_gen (N.isg _ N.obj) loop1)
  exact codeAny_compStart_list loop (T.self X.A 0 _ _ _ st4 loop)
theorem pe_lc2Y {elt tg iter tg1 iter1 : Expr} {ifs ifs1 : List Expr} {scope : Scope} {own : List (Str × Nat)} {vs1 : List Nat} {pos : Pos} {wi : TI} {k : Nat} {tge : TGe} {g g1 : TG} {tt tt1 : TT} {te : TE} (hc : X.calm = true) (hr : Room (k + 1) X.A) (hN : X.N.Nodup) (hi : PI X tg iter wi) (ok : BlkOk X.N X.env.scope scope own) (hv : ∀ i ∈ vs1, i ∈ own.map (·.2))
    (hg : ∀ (s : Shared) (H : Hp) (C : Addr) (cl : List (Str × Addr)) (fp : List Addr), PG (X.blk s H scope (compEnvC scope cl C X.env) fp) tg g) (ht : ∀ (s : Shared) (H : Hp) (C : Addr) (cl : List (Str × Addr)) (fp : List Addr), PTs (X.blk s H scope (compEnvC scope cl C X.env) fp) ifs tt)
    (hi1 : ∀ (s : Shared) (H : Hp) (C : Addr) (cl : List (Str × Addr)) (fp : List Addr), PGn (X.blk s H scope (compEnvC scope cl C X.env) fp) k iter1 tge)
    (hg1 : ∀ (s : Shared) (H : Hp) (C : Addr) (cl : List (Str × Addr)) (fp : List Addr), PG (X.blk s H scope (compEnvC scope cl C X.env) fp) tg1 g1) (ht1 : ∀ (s : Shared) (H : Hp) (C : Addr) (cl : List (Str × Addr)) (fp : List Addr), PTs (X.blk s H scope (compEnvC scope cl C X.env) fp) ifs1 tt1)
    (he : ∀ (s : Shared) (H : Hp) (C : Addr) (cl : List (Str × Addr)) (fp : List Addr), PE (X.blk s H scope (compEnvC scope cl C X.env) fp) elt te) (hs : ∀ x, foldedSetIterable iter X.env x = pure x := by intro _; rfl) (hs1 : ∀ env x, foldedSetIterable iter1 env x = pure x := by intro _ _; rfl) :
    PE X (.ListComp elt [⟨tg, iter, ifs, 0⟩, ⟨tg1, iter1, ifs1, 0⟩] scope pos) (tLc2Y wi g tt tge g1 tt1 te (own.map (·.2)) vs1) := by
  refine ⟨fun pins s σ H Q I h => ?_⟩
  rw [eval_ListComp]
  refine lc2Y hc hr hN I hi ok hv hg ht he hs hi1 hg1 ht1 hs1 h fun D C s' m H' I' q hn f => ⟨m, hn, fun h'' sb => ?_⟩
  obtain ⟨f0, f1, f2, f3, f4, f5⟩ := f
  exact ⟨.ref D, H', I'.turned (t' := s'.toks) (fun b o hb e => (sb.2 b hb).trans e) f0 f1 f3 f4 f5, rfl, q⟩
end
end Nm

set_option Elab.async false
set_option linter.all false
set_option maxRecDepth 100000
set_option maxHeartbeats 2000000
/-! Generators that walk generators: each waking is told exactly what its consumer knew. -/
namespace Nm
open PySem PySem.Spec L2 PyProof.Rows GenW

/-! ### a stretch of a generator's run, up to its next yield or its end -/
def SegP (M : Model) (A : Around) (Φ : End → Shared → Prop) (c : Code) (t : Sem PySem.Fin) (fs : List Frame) (s : Shared) : Prop := ∀ (Γ : PySem.Ctx) (p : Pos), Γ.code = c → Γ.Woken A → ∃ e s', Runs M Γ p t fs s e s' ∧ Φ e s'
section
variable {M : Model} {A : Around} {Φ : End → Shared → Prop} {c : Code} {fs : List Frame} {s : Shared}
theorem sgp_wrap {α : Type} {m : Sem α} {K : α → Sem PySem.Fin} {J : Value → Sem PySem.Fin} {gd : Bool → Bool} {lv : List Value → List Value} (h : wpAny M (A.over c fs) m (fun a s' => SegP M A Φ c (K a) fs s') (fun x s' => SegP M A Φ c (J x) fs s') s) : SegP M A Φ c (m.wrap K J gd lv) fs s := fun Γ p e woken => by
  subst e
  exact runs_wrap_of_wp K J gd lv m (h (Γ.over fs) p (woken.over fs)) (fun a p' s' z => z Γ p' rfl woken) fun x p' s' z => z Γ p' rfl woken
theorem sgp_at {p' : Pos} {k : Unit → Sem PySem.Fin} (h : SegP M A Φ c (k ()) fs s) : SegP M A Φ c (.at p' k) fs s := sgp_wrap (m := standAt p') (K := k) (J := .raise) (gd := id) (lv := id) (wpAny_standAt h)
theorem sgp_point {l : List Value} {k : Unit → Sem PySem.Fin} (h : SegP M A Φ c (k ()) fs s) : SegP M A Φ c (.point l k) fs s := sgp_wrap (m := point) (K := k) (J := .raise) (gd := id) (lv := fun _ => l) (wpAny_point h)
theorem sgp_call {c' : Code} {h g l} {k : Result → Sem PySem.Fin} (hc : ∀ p, SegP M A Φ c' (M.den c') (.ret k h g l c p [] :: fs) s) : SegP M A Φ c (.call c' h g l k) fs s := fun Γ p e woken => by
  subst e
  obtain ⟨e1, s1, run, z⟩ := hc p (Γ.goto c') p rfl (woken.goto c')
  exact ⟨e1, s1, runs_call_seg run, z⟩
theorem sgp_leaf {k h g l c₁ p₁ kp} (r : Result) (hk : SegP M A Φ c₁ (k r) fs s) : SegP M A Φ c (leafOf r) (.ret k h g l c₁ p₁ kp :: fs) s := fun Γ p e woken => by
  subst e
  obtain ⟨e1, s1, run, z⟩ := hk (Γ.goto c₁) p₁ rfl (woken.goto c₁)
  exact ⟨e1, s1, Runs.pop r run, z⟩
theorem sgp_again {c' : Code} (hq : c'.quiet = true) (hc : SegP M A Φ c' (M.den c') fs s) : SegP M A Φ c (.pure (.again c')) fs s := fun Γ p e woken => by
  subst e
  obtain ⟨e1, s1, run, z⟩ := hc (Γ.goto c') p rfl (woken.goto c')
  exact ⟨e1, s1, Runs.head (c₁ := c') (fun _ _ x => .again hq x) run, z⟩
theorem sgp_end (r : Result) (h : Φ (.ret r) s) : SegP M A Φ c (leafOf r) [] s := fun Γ p e _ => by
  subst e
  exact ⟨.ret r, s, Runs.leaf r, h⟩
theorem sgp_yield {v g l} {k : Resume → Sem PySem.Fin} (hfs : splitAtGen fs = none) (hg : g = false) (hfg : fs.any Frame.guarded = false) (h : ∀ p, (End.susp v g l k c p fs).quiet = true → Φ (.susp v g l k c p fs) s) : SegP M A Φ c (.yield v g l k) fs s := fun Γ p e _ => by
  subst e
  exact ⟨_, s, Runs.yield' fs hfs, h p (by simp [End.quiet, hg, hfg])⟩
variable {env : Env} {K : Flow → Sem PySem.Fin} {J : Value → Sem PySem.Fin} {gd : Bool → Bool} {lv : List Value → List Value}
theorem sgp_execs_cons {st : Stmt} {rest : List Stmt} (h : SegP M A Φ c ((exec st env).wrap (fun f => match f with | .next => (execs rest env).wrap K J gd lv | f => K f) J gd lv) fs s) : SegP M A Φ c ((execs (st :: rest) env).wrap K J gd lv) fs s := by
  rw [execs_cons_wrap]; exact h
theorem sgp_Yield {e : Expr} {ypos pos : Pos} (hfs : splitAtGen fs = none) (hgd : gd false = false) (hfg : fs.any Frame.guarded = false)
    (h : wpAny M (A.over c fs) (eval e env) (fun v s' => ∀ g l k p, (∀ Φ' s'', SegP M A Φ' c (K .next) fs s'' → SegP M A Φ' c (k (.send .none)) fs s'') → (End.susp v g l k c p fs).quiet = true → Φ (.susp v g l k c p fs) s') (fun x s' => SegP M A Φ c (J x) fs s') s)
    (hco : env.scope.isCoroutine = false := by rfl) (hi : interactive env = false := by rfl) : SegP M A Φ c ((exec (.Expr (.Yield (some e) ypos) pos) env).wrap K J gd lv) fs s := by
  rw [exec_Expr env _ pos hi rfl]
  show SegP M A Φ c (.at pos fun _ => ((eval e env >>= fun v => (standAt ypos >>= fun _ => yieldOut env v)) >>= fun x => dropValue (.Yield (some e) ypos) pos x).wrap K J gd lv) fs s
  have hy : ∀ v, yieldOut env v = yieldValue v := fun v => by simp only [yieldOut, hco, Bool.false_eq_true, if_false]
  simp only [hy]
  refine sgp_at ?_
  rw [Sem.bind_eq_wrap', Sem.bind_eq_wrap', Sem.wrap_wrap, Sem.wrap_wrap]
  refine sgp_wrap (wpAny_mono h (fun v s' z => ?_) fun _ _ x => x)
  exact sgp_at (sgp_yield hfs hgd hfg fun p q => z _ _ _ p (fun Φ' s'' hx => hx) q)
theorem sgp_For {target iter : Expr} {body : List Stmt} {pos : Pos} (hs : ∀ x, foldedSetIterable iter env x = pure x)
    (h : wpAny M (A.over c fs) (eval iter env) (fun x s1 => wpAny M (A.over c fs) (pyIter x) (fun it s2 => ∀ p, SegP M A Φ (.forLoop target it body [] env) (M.den (.forLoop target it body [] env))
      (.ret (fun r => ((match r with | .ok f => (.pure f : Sem Flow) | .error e => .raise e).onRaise fun (x : Value) => do
        if (← field x 1) == Value.none then unsupported "frame.own-activation:exception-without-traceback"
        setFlight x env.frame).wrap K J gd lv) none (gd false) (lv []) c p [] :: fs) s2) (fun x s2 => SegP M A Φ c (J x) fs s2) s1) (fun x s1 => SegP M A Φ c (J x) fs s1) s) :
    SegP M A Φ c ((exec (.For target iter body [] pos) env).wrap K J gd lv) fs s := by
  have e : exec (.For target iter body [] pos) env = (standAt pos >>= fun _ => eval iter env >>= fun x => standAt iter.pos >>= fun _ => holding [x] (pyIter x) >>= fun it => runOwn (.forLoop target it body [] env) env) := by
    rw [exec_For]
    refine congrArg (fun z => standAt pos >>= z) (funext fun _ => congrArg (fun z => eval iter env >>= z) (funext fun x => ?_))
    rw [hs]
    rfl
  rw [e]
  refine sgp_at ?_
  show SegP M A Φ c ((eval iter env >>= fun x => standAt iter.pos >>= fun _ => holding [x] (pyIter x) >>= fun it => runOwn (.forLoop target it body [] env) env).wrap K J gd lv) fs s
  rw [Sem.bind_eq_wrap', Sem.wrap_wrap]
  refine sgp_wrap (wpAny_mono h (fun x s1 h1 => ?_) fun _ _ z => z)
  refine sgp_at ?_
  show SegP M A Φ c ((holding [x] (pyIter x) >>= fun it => runOwn (.forLoop target it body [] env) env).wrap K J gd lv) fs s1
  rw [Sem.bind_eq_wrap', Sem.wrap_wrap]
  exact sgp_wrap (wpAny_holding (wpAny_mono h1 (fun it s2 h2 => sgp_call h2) fun _ _ z => z))
end
section
variable {prog : Program} {w : World} {A : Around} {Φ : End → Shared → Prop} {fs : List Frame} {s : Shared} {env : Env}
theorem sgp_func {body : List Stmt} (h : SegP (model prog w) A Φ (.func body env) ((execs body env).wrap (fun f => .pure (.done (.ret (match f with | .ret v => v | _ => .none))))
      (fun e => (leaving env e).wrap (fun _ => .raise e) .raise id id) id id) fs s) : SegP (model prog w) A Φ (.func body env) ((model prog w).den (.func body env)) fs s := by
  show SegP _ A Φ _ (.point [] fun _ => ((execs body env).onRaise (leaving env)) >>= _) fs s
  refine sgp_point ?_
  rw [Sem.onRaise_eq_wrap, Sem.bind_eq_wrap', Sem.wrap_wrap]
  rw [Sem.wrap_congr (execs body env) _ _ (K' := fun f => .pure (.done (.ret (match f with | .ret v => v | _ => .none))))
    (H' := fun e => (leaving env e).wrap (fun _ => .raise e) .raise id id) (fun f => by cases f <;> rfl)
    (fun e => by rw [Sem.bind_eq_wrap, Sem.wrap_wrap]; rfl)]
  exact h
theorem sgp_forLoop {target : Expr} {it : Value} {body : List Stmt}
    (h : wpAny (model prog w) (A.over (.forLoop target it body [] env) fs) (pyNext it) (fun r s1 => match r with
      | none => SegP (model prog w) A Φ (.forLoop target it body [] env) (.pure (.again (.block [] env))) fs s1
      | some v => wpAny (model prog w) (A.over (.forLoop target it body [] env) fs) (letOwnedTupleGo target it v) (fun _ s2 => wpAny (model prog w) (A.over (.forLoop target it body [] env) fs) (assign target env v) (fun _ s3 =>
          SegP (model prog w) A Φ (.forLoop target it body [] env) ((execs body env).wrap (fun f => match f with
            | .next | .cont => .pure (.again (.forLoop target it body [] env))
            | .brk => .pure (.done .next)
            | .ret v => .pure (.done (.ret v))) (fun e => (do noteFrame e env; theTreesLotGoes e : Sem Unit).wrap (fun _ => .raise e) .raise id id) id id) fs s3) (fun _ _ => False) s2) (fun _ _ => False) s1) (fun _ _ => False) s) :
    SegP (model prog w) A Φ (.forLoop target it body [] env) ((model prog w).den (.forLoop target it body [] env)) fs s := by
  show SegP _ A Φ _ ((forTurn target it body [] env).onRaise (fun x => do noteFrame x env; theTreesLotGoes x)) fs s
  unfold forTurn
  rw [Sem.onRaise_eq_wrap]
  refine sgp_at ?_
  show SegP _ A Φ _ (Sem.wrap _ _ _ _ (((pyNext it).onRaise fun _ => standAt { target.pos with line := 0 }) >>= _)) fs s
  rw [Sem.bind_eq_wrap', Sem.wrap_wrap]
  refine sgp_wrap (wpAny_onRaise (wpAny_mono h (fun r s1 h1 => ?_) fun _ _ z => z.elim))
  cases r with
  | none => exact h1
  | some v =>
    show SegP _ A Φ _ (Sem.wrap _ _ _ _ (letOwnedTupleGo target it v >>= fun _ => assign target env v >>= fun _ => execs body env >>= _)) fs s1
    rw [Sem.bind_eq_wrap', Sem.wrap_wrap]
    refine sgp_wrap (wpAny_mono h1 (fun _ s2 h2 => ?_) fun _ _ z => z.elim)
    show SegP _ A Φ _ (Sem.wrap _ _ _ _ (assign target env v >>= fun _ => execs body env >>= _)) fs s2
    rw [Sem.bind_eq_wrap', Sem.wrap_wrap]
    refine sgp_wrap (wpAny_mono h2 (fun _ s3 h3 => ?_) fun _ _ z => z.elim)
    show SegP _ A Φ _ (Sem.wrap _ _ _ _ (execs body env >>= _)) fs s3
    rw [Sem.bind_eq_wrap', Sem.wrap_wrap]
    rw [Sem.wrap_congr (execs body env) _ _ (K' := fun f => match f with
            | .next | .cont => .pure (.again (.forLoop target it body [] env))
            | .brk => .pure (.done .next)
            | .ret v => .pure (.done (.ret v))) (H' := (fun e => (do noteFrame e env; theTreesLotGoes e : Sem Unit).wrap (fun _ => .raise e) .raise id id))
        (fun f => by cases f <;> rfl)
        (fun e => by first | exact Sem.bind_eq_wrap _ _ | (show (do noteFrame e env; theTreesLotGoes e : Sem Unit).bind (fun _ => .raise e) = _; rw [Sem.bind_eq_wrap]))]
    exact h3
end
end Nm

set_option Elab.async false
set_option linter.all false
set_option maxRecDepth 100000
set_option maxHeartbeats 2000000
namespace Nm
open PySem PySem.Spec L2 PyProof.Rows GenW

/-! ### the protocol, exact -/
/-- the sleepers from B on are as they were -/
def KpG (B : Nat) (s s2 : Shared) : Prop := ∀ (i : Nat) y, B ≤ i → s.gens[i]? = some y → slp y = true → s2.gens[i]? = some y
def OEnd {X : Cx} {T : Type} (C : GCt X T) (DN : T → Hp → Prop) (M : Model) (A : Around) (B : Nat) : Nat → T → Hp → Shared → End → Shared → Prop
  | 0 => fun τ H₀ s₀ e s' => match e with
    | .ret r => (r = .ok (.ret .none) ∨ r = .ok .next) ∧ ∃ σ H1, Inv (reC X s₀ H₀) [] σ H1 s' ∧ DN τ H1
    | .susp .. => False
  | m + 1 => fun τ H₀ s₀ e s' => match e with
    | .ret r => (r = .ok (.ret .none) ∨ r = .ok .next) ∧ ∃ σ H1, Inv (reC X s₀ H₀) [] σ H1 s' ∧ DN τ H1
    | .susp v g l k c p fs => (End.susp v g l k c p fs).quiet = true ∧ ∃ σ x H1 κ, Inv (reC X s₀ H₀) [] σ H1 s' ∧ RelV x v ∧ C.YP m τ x H1 κ ∧
      ∀ τ' H2 s2, C.CI τ' H2 s2 → B ≤ s2.gens.size → KpG B s' s2 → Kept X s' s2 → Off X H2 → κ τ' H2 → SegP M A (OEnd C DN M A B m τ' H2 s2) c (k (.send .none)) fs s2
section
variable {X : Cx} {T : Type} {C : GCt X T} {DN : T → Hp → Prop} {M : Model} {A : Around} {B : Nat}
theorem oend_ret {n : Nat} {τ : T} {H₀ H1 : Hp} {s₀ s' : Shared} {r : Result} {σ : L2.St} (hr : r = .ok (.ret .none) ∨ r = .ok .next) (I : Inv (reC X s₀ H₀) [] σ H1 s') (h : DN τ H1) : OEnd C DN M A B n τ H₀ s₀ (.ret r) s' := by
  cases n <;> exact ⟨hr, σ, H1, I, h⟩
theorem ret_oend {n : Nat} {τ : T} {H₀ : Hp} {s₀ s' : Shared} {r : Result} (h : OEnd C DN M A B n τ H₀ s₀ (.ret r) s') : (r = .ok (.ret .none) ∨ r = .ok .next) ∧ ∃ σ H1, Inv (reC X s₀ H₀) [] σ H1 s' ∧ DN τ H1 := by
  cases n <;> exact h
structure GKonE (C : GCt X T) (DN : T → Hp → Prop) (A : Around) (B : Nat) (c : Code) (fs : List Frame) (F : Flow → Sem PySem.Fin) (D : GE T) : Prop where
  yp : D.yp = C.YP
  ok : ∀ (n : Nat) (τ : T) (s₀ : Shared) (H₀ : Hp) (s : Shared) (f : Flow), C.CI τ H₀ s₀ → B ≤ s.gens.size → SP (reC X s₀ H₀) [] (D.at n τ) f s → SegP (model X.prog X.w) A (OEnd C DN (model X.prog X.w) A B n τ H₀ s₀) c (F f) fs s
end
structure GStE (X : Cx) (T : Type) (st : Stmt) (t : TGp T) : Prop where
  run : ∀ (C : GCt X T) (A : Around) (B : Nat) (DN : T → Hp → Prop) (n : Nat) (τ : T) (s₀ : Shared) (H₀ : Hp) (c : Code) (fs : List Frame) (F : Flow → Sem PySem.Fin) (J : Value → Sem PySem.Fin) (gd : Bool → Bool) (lv : List Value → List Value) (s : Shared) (σ : L2.St) (H : Hp) (D : GE T),
    GPos X A c fs gd → GKonE C DN A B c fs F D → C.CI τ H₀ s₀ → B ≤ s.gens.size → Inv (reC X s₀ H₀) [] σ H s → t D n τ σ H → SegP (model X.prog X.w) A (OEnd C DN (model X.prog X.w) A B n τ H₀ s₀) c ((exec st X.env).wrap F J gd lv) fs s
structure GSsE (X : Cx) (T : Type) (sts : List Stmt) (t : TGp T) : Prop where
  run : ∀ (C : GCt X T) (A : Around) (B : Nat) (DN : T → Hp → Prop) (n : Nat) (τ : T) (s₀ : Shared) (H₀ : Hp) (c : Code) (fs : List Frame) (F : Flow → Sem PySem.Fin) (J : Value → Sem PySem.Fin) (gd : Bool → Bool) (lv : List Value → List Value) (s : Shared) (σ : L2.St) (H : Hp) (D : GE T),
    GPos X A c fs gd → GKonE C DN A B c fs F D → C.CI τ H₀ s₀ → B ≤ s.gens.size → Inv (reC X s₀ H₀) [] σ H s → t D n τ σ H → SegP (model X.prog X.w) A (OEnd C DN (model X.prog X.w) A B n τ H₀ s₀) c ((execs sts X.env).wrap F J gd lv) fs s
section
variable {X : Cx} {T : Type} {st : Stmt} {rest body orelse : List Stmt} {pos : Pos}
theorem gssE_nil : GSsE X T [] tGn := ⟨fun C A B DN n τ s₀ H₀ c fs F J gd lv s σ H D gp k ci hB I ht => k.ok n τ s₀ H₀ s .next ci hB ⟨σ, H, I, ht⟩⟩
theorem gssE_cons {t u : TGp T} (a : GStE X T st t) (b : GSsE X T rest u) : GSsE X T (st :: rest) (tGs t u) := by
  refine ⟨fun C A B DN n τ s₀ H₀ c fs F J gd lv s σ H D gp k ci hB I ht => sgp_execs_cons ?_⟩
  refine a.run C A B DN n τ s₀ H₀ c fs _ J gd lv s σ H { D with nx := u D } gp ⟨k.yp, fun n' τ' s₀' H₀' s' f ci' hB' hs => ?_⟩ ci hB I ht
  cases f with
  | next =>
    obtain ⟨σ', H', I', q⟩ := hs
    exact b.run C A B DN n' τ' s₀' H₀' c fs F J gd lv s' σ' H' D gp k ci' hB' I' q
  | brk => exact k.ok n' τ' s₀' H₀' s' .brk ci' hB' hs
  | cont => exact k.ok n' τ' s₀' H₀' s' .cont ci' hB' hs
  | ret u => exact k.ok n' τ' s₀' H₀' s' (.ret u) ci' hB' hs
theorem gssE_one {t : TGp T} (a : GStE X T st t) : GSsE X T [st] t := by
  refine ⟨fun C A B DN n τ s₀ H₀ c fs F J gd lv s σ H D gp k ci hB I ht => ?_⟩
  exact (gssE_cons (u := tGn) a gssE_nil).run C A B DN n τ s₀ H₀ c fs F J gd lv s σ H D gp k ci hB I ht
theorem gstE_if {e : Expr} {tc : TT} {t u : TGp T} (g : GOk X) (hc : ∀ s₀ H₀, PT (reC X s₀ H₀) e tc) (ha : GSsE X T body t) (hb : GSsE X T orelse u) : GStE X T (.If e body orelse pos) (tGIf tc t u) := by
  refine ⟨fun C A B DN n τ s₀ H₀ c fs F J gd lv s σ H D gp k ci hB I ht => ?_⟩
  rw [exec_If]
  refine sgp_at ?_
  show SegP (model X.prog X.w) A _ c ((isTrue e X.env (eval e X.env) >>= fun b => if b = true then execs body X.env else execs orelse X.env).wrap F J gd lv) fs s
  rw [Sem.bind_eq_wrap', Sem.wrap_wrap]
  refine sgp_wrap ?_
  rw [gp.over]
  refine wpAny_gsz hB (wpAny_mono ((hc s₀ H₀).run [] s σ H _ I ht) (fun b s' hb' hB2 => ?_) fun x s' hx => absurd hx (g.calm x s'))
  obtain ⟨H2, I2, q⟩ := hb'
  cases b with
  | true => exact ha.run C A B DN n τ s₀ H₀ c fs F J gd lv s' σ H2 D gp k ci hB2 I2 q
  | false => exact hb.run C A B DN n τ s₀ H₀ c fs F J gd lv s' σ H2 D gp k ci hB2 I2 q
theorem gstE_yield {e : Expr} {te : TE} {yp : Pos} (g : GOk X) (he : ∀ s₀ H₀, PE (reC X s₀ H₀) e te) (hco : X.env.scope.isCoroutine = false := by rfl) (hi : interactive X.env = false := by rfl) : GStE X T (.Expr (.Yield (some e) yp) pos) (tGy te) := by
  refine ⟨fun C A B DN n τ s₀ H₀ c fs F J gd lv s σ H D gp k ci hB I ht => ?_⟩
  obtain ⟨m, rfl, ht⟩ := ht
  refine sgp_Yield gp.split gp.gd gp.guard ?_ hco hi
  rw [gp.over]
  refine wpAny_mono ((he s₀ H₀).run [] s σ H _ I ht) (fun v s' hv => ?_) fun x s' hx => absurd hx (g.calm x s')
  obtain ⟨x, H1, I1, rv, q⟩ := hv
  intro gg ll kk pp hk hq
  rw [k.yp] at q
  refine ⟨hq, σ, x, H1, _, I1, rv, q, fun τ' H2 s2 ci2 hB2 _ hkept hoff hn => hk _ s2 ?_⟩
  obtain ⟨B', e0⟩ := C.env τ' H2 s2 ci2
  exact k.ok m τ' s2 H2 s2 .next ci2 hB2 ⟨σ, H2, inv_wake g I1 e0 hkept hoff, hn⟩
end
/-! ### a generator that has not begun -/
structure GNewE (P : Program) (w : World) (k : Nat) (outer : List Env) (sp : SpY) (vs : List V) (s : Shared) (XA : Around → Cx) (a : Addr) (g : Nat) (c : Code) (go : Obj) (s' : Shared) : Prop where
  gen : s'.gens[g]? = some (.fresh c)
  os : s'.os = s.os
  idx : s.gens.size ≤ g
  bare : AllBare s'.gens
  nolim : s'.heap.NoLimit
  keep : ∀ b o, s.heap.get? b = some o → s'.heap.get? b = some o
  obj : s'.heap.get? a = some go
  isg : ∀ h : Heap, h.get? a = some go → h.IsGen a g
  prog : ∀ A, (XA A).prog = P ∧ (XA A).w = w ∧ (XA A).outer = outer ∧ (XA A).pn = [(a, go)] ∧ (XA A).env.locals = s.heap.objs.size
  young : ∀ A, ∀ b ∈ prvA (XA A), s.heap.objs.size ≤ b
  gok : ∀ A, GOk (XA A)
  there : ∀ A, There (XA A) s'.heap
  wake : ∀ A, Room k A → A.frames = some outer → ∀ (T : Type) (C : GCt (XA A) T) (n : Nat) (τ : T) (s2 : Shared) (H2 : Hp) (DN : T → Hp → Prop), C.CI τ H2 s2 → Kept (XA A) s' s2 → Off (XA A) H2 → g + 1 ≤ s2.gens.size → sp T vs H2 n τ C.YP DN →
    SegP (model P w) A (OEnd C DN (model P w) A (g + 1) n τ H2 s2) c ((model P w).den c) [] s2
structure GFyE (P : Program) (w : World) (K : PySem.W.Frag) (mg : Str → Option Value) (base : Heap) (k : Nat) (f : Addr) (fd : FuncData) (ps : List Str) (sp : SpY) : Prop where
  run : ∀ (A : Around) (outer : List Env) (s : Shared) (H : Hp) (args : Args) (us : List Value) (vs : List V), Room k A → Env0 P w K mg base A outer s H → BindsTo s fd args (ps.zip us) → Vals vs us → vs.length = ps.length →
    codeAny (model P w) A (.call (.ref f) args) (fun r s' => match r with
      | .ok (.ret u) => ∃ XA a g c go, u = .ref a ∧ (∀ B, (XA B).K = K ∧ (XA B).mg = mg ∧ (XA B).base = base) ∧ GNewE P w k outer sp vs s XA a g c go s'
      | _ => False) s
/-- THE RULE: a generator def, by its body -/
theorem gen_ofE {P : Program} {w : World} {K : PySem.W.Frag} {mg : Str → Option Value} {base : Heap} {k : Nat} {f : Addr} {name qual : Str} {params : Arguments} {body : List Stmt} {scope : Scope} {dV kV doc pm cdv ct oc : Value} {an od : Option Addr}
    {osl : Array (Option Value)} {N ps : List Str} {sp : SpY} (lk : K.lookup f = some ⟨oc, od, .func (PySem.W.fnOf name qual params body scope dV kV doc pm an cdv ct), osl⟩) (hcd : PySem.W.codeIn K cdv qual = true) (S : GScope N ps scope)
    (hbody : ∀ (A : Around) (outer : List Env) (s : Shared) (H : Hp) (pn : List (Addr × Obj)) (T : Type), Room k (A.deeper (envOfC qual scope s.heap.objs.size f cdv)) →
      ∃ t : TGp T, GSsE (gX P w K mg base N qual scope f cdv A outer s H pn) T body t ∧ ∀ vs H2 n τ YP DN, sp T vs H2 n τ YP DN → t { nx := fun _ τ' _ H' => DN τ' H', rt := fun _ τ' v H' => v = .non ∧ DN τ' H', yp := YP } n τ (start N vs) H2) :
    GFyE P w K mg base (k + 1) f (PySem.W.fnOf name qual params body scope dV kV doc pm an cdv ct) ps sp := by
  refine ⟨fun A outer s H args us vs hr e0 hb r hl => ?_⟩
  have KX : K.In s.heap := e0.mod.kin.keeps fun b o e => (e0.bs b o e).1
  have lim : s.heap.NoLimit := e0.mod.nolimit.keeps fun b o e => (e0.bs b o e).1
  have hkind : ∀ y ∈ ps.zip us, scope.names.lookup y.1 = some .local ∨ (scope.names.lookup y.1 = some .cell ∧ ((cellsFrom (s.heap.objs.size + 1) scope.names []).lookup y.1).isSome = true) := fun ⟨n, v⟩ hy => by
    rcases S.par n (List.of_mem_zip hy).1 with q | q
    · exact .inl q
    · exact .inr ⟨q, PySem.W.cellsFrom_some _ _ _ (.inl q)⟩
  refine codeAny_call_generator hr.depth (KX _ _ lk) rfl S.co S.gen rfl (PySem.W.codeRec_of KX hcd) (hb _ _ _ _ ?_)
  refine wpAny_newFunctionEnv_cells S.kind hkind fun env he s1 x => ?_
  subst he
  have lim1 : s1.heap.NoLimit := lim.keeps x.toInCall.keep
  refine ⟨lim1, ?_⟩
  obtain ⟨h1, tk, es1, hk1⟩ := x.done
  have os1 : s1.os = s.os := by rw [es1]
  have gen1 : s1.gens = s.gens := by rw [es1]
  have lt1 : s.heap.objs.size < s1.heap.objs.size := x.toInCall.ns.lt
  have kp1 : ∀ b o, s.heap.get? b = some o → s1.heap.get? b = some o := x.toInCall.keep
  have hfo : ∀ b ∈ frs outer, b < s.heap.objs.size := fun b hb => by
    obtain ⟨_, o, h, _⟩ := e0.funs.mem hb
    exact Heap.lt_size h
  have main : ∀ (go : Obj) (nm qn : Value) (tk2 : Nat), go.cls = .type "generator" → go.data = .fields #[.int s1.gens.size 0, nm, qn] → go.slots = #[] → (∀ h : Heap, (h.push go).get? h.objs.size = some go) →
      ∃ XA a g c go', Value.ref s1.heap.objs.size = .ref a ∧ (∀ B : Around, (XA B).K = K ∧ (XA B).mg = mg ∧ (XA B).base = base) ∧
        GNewE P w (k + 1) outer sp vs s XA a g c go' { s1 with gens := s1.gens.push (.fresh (.func body (envOfC qual scope s.heap.objs.size f cdv))), toks := tk2, heap := s1.heap.push go } := by
    intro go nm qn tk2 hgc hgd0 hgs hgp
    have hgd : ∀ v, go.data ≠ .cell v := fun v q => by rw [hgd0] at q; cases q
    have kp2 : ∀ b o, s1.heap.get? b = some o → (s1.heap.push go).get? b = some o := fun b o e => Heap.get?_push_of_some _ e
    refine ⟨fun A' => gX P w K mg base N qual scope f cdv A' outer s H [(s1.heap.objs.size, go)], _, s1.gens.size, .func body (envOfC qual scope s.heap.objs.size f cdv), go, rfl, fun _ => ⟨rfl, rfl, rfl⟩, ?_⟩
    have cab : ∀ y c, (cellsFrom (s.heap.objs.size + 1) scope.names []).lookup y = some c → s.heap.objs.size < c := fun y c h => x.above y c (PySem.mem_of_lookup h)
    refine ⟨Array.getElem?_push_size .., os1, by rw [gen1]; exact Nat.le_refl _, AllBare.push (by rw [gen1]; exact e0.bare) rfl, lim1.keeps kp2, fun b o e => kp2 b o (kp1 b o e), hgp _, fun h e => ⟨go, nm, qn, e, hgc, hgd0, hgs⟩, fun _ => ⟨rfl, rfl, rfl, rfl, rfl⟩, fun A' b hb => ?_, fun A' => ⟨fun y c h => Nat.le_of_lt (cab y c h), rfl, fun _ _ z => z⟩, fun A' b hb => ?_, ?_⟩
    · unfold prvA at hb
      rcases List.mem_cons.mp hb with rfl | hb
      · exact Nat.le_refl _
      · rcases List.mem_append.mp hb with hb | hb
        · obtain ⟨p, _, hx⟩ := List.mem_filterMap.mp hb
          exact Nat.le_of_lt (cab p.1 b hx)
        · obtain ⟨p, hp, rfl⟩ := List.mem_map.mp hb
          rw [List.mem_singleton.mp hp]
          exact Nat.le_of_lt lt1
    · unfold prvA at hb
      rcases List.mem_cons.mp hb with rfl | hb
      · obtain ⟨o, _, _, h, _⟩ := x.toInCall.ns
        exact ⟨o, kp2 _ o h⟩
      · rcases List.mem_append.mp hb with hb | hb
        · obtain ⟨p, _, hx⟩ := List.mem_filterMap.mp hb
          obtain ⟨o, q1, _⟩ := x.cell p.1 b hx
          exact ⟨o, kp2 _ o q1⟩
        · obtain ⟨p, hp, rfl⟩ := List.mem_map.mp hb
          rw [List.mem_singleton.mp hp]
          exact ⟨go, hgp _⟩
    · intro A' hr' hfr T C n τ s2 H2 DN ci hkept hoff hB hsp
      obtain ⟨B, e2⟩ := C.env τ H2 s2 ci
      obtain ⟨t, ht, hq⟩ := hbody A' outer s H [(s1.heap.objs.size, go)] T (hr'.deeper _)
      have hk1 : Kept (gX P w K mg base N qual scope f cdv A' outer s H [(s1.heap.objs.size, go)]) s1 s2 := fun b hb o e => hkept b hb o (kp2 b o e)
      have I : Inv (reC (gX P w K mg base N qual scope f cdv A' outer s H [(s1.heap.objs.size, go)]) s2 H2) [] (start N vs) H2 s2 := by
        refine inv_first S hr'.hd hfr e2 hl r x e0.bsz hfo hk1 hoff fun p hp => ?_
        rw [List.mem_singleton.mp hp]
        exact ⟨hkept _ (.inr (.inr ⟨_, List.mem_singleton.mpr rfl, rfl⟩)) go (hgp _), lt1, hgd⟩
      refine sgp_func ?_
      refine ht.run C A' _ DN n τ s2 H2 _ [] _ _ id id s2 (start N vs) H2 { nx := fun _ τ' _ H' => DN τ' H', rt := fun _ τ' v H' => v = .non ∧ DN τ' H', yp := C.YP } ⟨over_func, rfl, rfl, rfl⟩ ⟨rfl, fun n' τ' s₀ H₀ s3 fl ci' hB' hs => ?_⟩ ci hB I (hq vs H2 n τ C.YP DN hsp)
      cases fl with
      | next =>
        obtain ⟨σ', H', I', q⟩ := hs
        exact sgp_end (.ok (.ret .none)) (oend_ret (.inl rfl) I' q)
      | brk => obtain ⟨_, _, _, q⟩ := hs; exact False.elim q
      | cont => obtain ⟨_, _, _, q⟩ := hs; exact False.elim q
      | ret u =>
        obtain ⟨v, σ', H', I', rv, ev, q⟩ := hs
        subst ev
        have eu : u = Value.none := rv
        subst eu
        exact sgp_end (.ok (.ret .none)) (oend_ret (.inl rfl) I' q)
  exact main _ _ _ _ rfl rfl rfl fun h => Heap.get?_push_size _ rfl
end Nm

set_option Elab.async false
set_option linter.all false
set_option maxRecDepth 100000
set_option maxHeartbeats 2000000
namespace Nm
open PySem PySem.Spec L2 PyProof.Rows GenW

/-! ### waking -/
def GoesE (M : Model) (A : Around) (Φ : End → Shared → Prop) (gs : GenState) (s : Shared) : Prop := match gs with
  | .fresh c => SegP M A Φ c (M.den c) [] s
  | .suspended k _ c _ fs _ => SegP M A Φ c (k (.send .none)) fs s
  | _ => False
theorem wake_sgp {M : Model} {A : Around} {Φ : End → Shared → Prop} {E : Value → Shared → Prop} {s : Shared} {g : Nat} {gs : GenState} {l : List Value} {α : Type} {k : GenResult → Sem α} {Q : α → Shared → Prop} (hg : s.gens[g]? = some gs) (hgo : GoesE M A Φ gs (s.setGen g .running))
    (hR : ∀ x s₁, Φ (.ret x) s₁ → wpAny M A (k (End.ret x).result) Q E (s₁.setGen g .finished))
    (hY : ∀ v g0 l0 k0 c0 p0 fs0 s₁, Φ (.susp v g0 l0 k0 c0 p0 fs0) s₁ → (End.susp v g0 l0 k0 c0 p0 fs0).quiet = true ∧ wpAny M A (k (.yielded v)) Q E (s₁.setGen g (End.susp v g0 l0 k0 c0 p0 fs0).genState)) :
    wpAny M A (.resume g (.send .none) l k) Q E s := by
  intro Γ p hΓ
  rw [Sem.wp_resume]
  have hB : ∀ c, (Γ.wake c p).Woken A := fun c => hΓ.wake c p
  have done : ∀ e₁ s₁, Φ e₁ s₁ → e₁.quiet = true ∧ Sem.wp M Γ (k e₁.result) (fun a _ s' => Q a s') (fun e _ s' => E e s') p (s₁.setGen g e₁.genState) := by
    intro e₁ s₁ he
    cases e₁ with
    | ret x => exact ⟨rfl, hR x s₁ he Γ p hΓ⟩
    | susp v g₀ l₀ k₀ c₀ p₀ fs₀ =>
      obtain ⟨q1, q2⟩ := hY v g₀ l₀ k₀ c₀ p₀ fs₀ s₁ he
      exact ⟨q1, q2 Γ p hΓ⟩
  cases gs with
  | fresh c =>
    obtain ⟨e₁, s₁, hr, he⟩ := hgo (Γ.wake c p) p rfl (hB c)
    obtain ⟨q1, q2⟩ := done e₁ s₁ he
    exact ⟨_, _, by unfold Wakes; rw [hg]; exact ⟨e₁, s₁, hr, q1, rfl, rfl⟩, q2⟩
  | suspended k₀ l₀ c₀ p₀ fs₀ cl =>
    obtain ⟨e₁, s₁, hr, he⟩ := hgo (Γ.wake c₀ p) p₀ rfl (hB c₀)
    obtain ⟨q1, q2⟩ := done e₁ s₁ he
    exact ⟨_, _, by unfold Wakes; rw [hg]; exact ⟨e₁, s₁, hr, q1, rfl, rfl⟩, q2⟩
  | running => exact hgo.elim
  | finished => exact hgo.elim
section
variable {P : Program} {w : World} {A : Around} {E : Value → Shared → Prop} {s : Shared}
theorem next_oend {X : Cx} {T : Type} {C : GCt X T} {DN : T → Hp → Prop} {B n : Nat} {t : T} {H₀ : Hp} {s₀ : Shared} {a : Addr} {g : Nat} {gs : GenState} {Q : Option Value → Shared → Prop} (hh : A.handled = none) (hl : s.heap.NoLimit) (hroom : A.depth < recursionLimit) (hg : s.heap.IsGen a g) (hgs : s.gens[g]? = some gs)
    (hgo : GoesE (model P w) A.in1 (OEnd C DN (model P w) A.in1 B n t H₀ s₀) gs (s.setGen g .running))
    (hY : ∀ m v s₁ gs' σ x H1 κ, n = m + 1 → slp gs' = true → gs'.bare = true → Inv (reC X s₀ H₀) [] σ H1 s₁ → RelV x v → C.YP m t x H1 κ →
      (∀ τ' H2 s2, C.CI τ' H2 s2 → B ≤ s2.gens.size → KpG B s₁ s2 → Kept X s₁ s2 → Off X H2 → κ τ' H2 → GoesE (model P w) A.in1 (OEnd C DN (model P w) A.in1 B m τ' H2 s2) gs' s2) → Q (some v) (s₁.setGen g gs'))
    (hP : ∀ σ H1 s₁, Inv (reC X s₀ H₀) [] σ H1 s₁ → DN t H1 → ∀ h', (∀ b o, s₁.heap.get? b = some o → h'.get? b = some o) → Q none { s₁.setGen g .finished with heap := h' }) : wpAny (model P w) A (pyNext (.ref a)) Q E s := by
  unfold pyNext
  refine wpAny_bind (wpAny_attempt (wpAny_callSpecial?_slot (name := Str.ofString "__next__") hg.typeIs slot_gen_next (wpAny_call_entry slot_gen_next hg.typeIs entry_gen_next ?_ (args_gen_next _))))
  show wpAny (model P w) A.in1 (Builtin.Generator.genWake (.ref a) (.send .none)) _ _ s
  unfold Builtin.Generator.genWake
  refine wpAny_bind (wpAny_holding (wpAny_genNumber hg (wpAny_bind (wpAny_genState hgs ?_))))
  cases gs with
  | running => exact hgo.elim
  | finished => exact hgo.elim
  | _ =>
    refine wpAny_bind (wpAny_roomToWake hl hroom ?_)
    show wpAny (model P w) A.in1 (.resume g (.send .none) [] _) _ _ s
    refine wake_sgp hgs hgo (fun x s₁ hx => ?_) fun v g0 l0 k0 c0 p0 fs0 s₁ hx => ?_
    · obtain ⟨hr, σ, H1, I1, dn⟩ := ret_oend hx
      have hres : End.result (.ret x) = .returned .none := by rcases hr with hr | hr <;> rw [hr] <;> rfl
      first | rw [hres] | simp only [hres]
      show wpAny (model P w) A.in1 (newExc (.type "StopIteration") [] >>= _) _ _ _
      refine wpAny_bind ?_
      simp only [newExc, newTuple]
      refine wpAny_bind (wpAny_newObj_type ?_ (by size_fits))
      refine wpAny_bind (m := firstArgMember _ _) (wpAny_of_eq (a := Value.none) (by first | rfl | (simp only [firstArgMember]; rfl)) ?_)
      refine wpAny_newObj_type ?_ (by size_fits)
      simp only [raiseNew]
      refine wpAny_bind (wpAny_bind (wpAny_handled ?_))
      first | rw [show A.in1.handled = none from hh] | rw [hh]
      refine wpAny_throw ?_
      refine wpAny_bind (wpAny_isInstance (T := "StopIteration") (b := true) ⟨_, Heap.get?_push_size _ rfl, rfl⟩ isSubtype_stop ?_)
      exact wpAny_pure (hP σ H1 s₁ I1 dn _ fun b o hb => Heap.get?_push_of_some _ (Heap.get?_push_of_some _ hb))
    · cases n with
      | zero => exact False.elim hx
      | succ m =>
        obtain ⟨q, σ, x, H1, κ, I1, rv, yp, kap⟩ := hx
        exact ⟨q, wpAny_pure ⟨v, rfl, wpAny_pure (hY m v s₁ _ σ x H1 κ rfl slp_susp (End.bare_of_quiet q) I1 rv yp fun τ' H2 s2 h1 h2 h3 h4 h5 h6 => kap τ' H2 s2 h1 h2 h3 h4 h5 h6)⟩⟩
end
/-! ### sleepers -/
theorem KpG.trans {B : Nat} {s s1 s2 : Shared} (a : KpG B s s1) (b : KpG B s1 s2) : KpG B s s2 := fun i y h e q => b i y h (a i y h e q) q
theorem KpG.weak {B B' : Nat} {s s1 : Shared} (a : KpG B s s1) (h : B ≤ B') : KpG B' s s1 := fun i y hi e q => a i y (Nat.le_trans h hi) e q
theorem setGen_ne {s : Shared} {g i : Nat} {x : GenState} (h : i ≠ g) : (s.setGen g x).gens[i]? = s.gens[i]? := by
  show (s.gens.setIfInBounds g x)[i]? = _
  rw [Array.getElem?_setIfInBounds, if_neg (Ne.symm h)]
theorem asleepE {M : Model} {A : Around} {α : Type} {t : Sem α} {R : α → Shared → Prop} {E E' : Value → Shared → Prop} {s : Shared} (hb : AllBare s.gens) (hE : ∀ e s', ¬ E e s')
    (hR : ∀ a s', R a s' → AllBare s'.gens ∧ ∀ G, AllBare G → R a { s' with gens := G }) (h : AllBare (s.gens.map stk) → wpAny M A t R E { s with gens := s.gens.map stk }) : wpAny M A t (fun a s' => R a s' ∧ KpG 0 s s') E' s := by
  refine wpAny_mono (wpAny_sleepers (h (allBare_map hb))) (fun a s' ⟨t', e, hid, r⟩ => ?_) fun e s' ⟨t', _, _, z⟩ => absurd z (hE e t')
  subst e
  obtain ⟨b1, b2⟩ := hR a t' r
  exact ⟨b2 _ (allBare_tru hb b1), fun i y _ hg hs => tru_at hid hg hs⟩
/-! ### the consumer -/
structure KOk (X : Cx) {T : Type} (KI : T → Hp → Shared → Prop) (Bl : Nat → Prop) (Sv : T → Hp → Prop) : Prop where
  env : ∀ t H s, KI t H s → Env0 X.prog X.w X.K X.mg X.base X.A X.stack s H
  gens : ∀ t H s G, KI t H s → AllBare G → s.gens.size ≤ G.size → KI t H { s with gens := G }
  grow : ∀ t H s h', KI t H s → (∀ b o, s.heap.get? b = some o → h'.get? b = some o) → KI t H { s with heap := h' }
  back : ∀ (Y : Cx) (L : Nat) (pv0 pv : List (Addr × Obj)) (H' H1 : Hp) (t : T) (s0 s1 : Shared) (σg : L2.St), OnP H' pv0 → (∀ p ∈ pv0, L ≤ p.1) → KI t H' s0 → Bl L → GOk Y → Y.outer = X.stack → Y.env.locals = L → Y.prog = X.prog → Y.w = X.w →
    Inv (reC Y s0 (minus H' pv0)) [] σg H1 s1 → OffP H1 pv → (∀ p ∈ pv, s1.heap.get? p.1 = some p.2) → (∀ p ∈ pv, L ≤ p.1) → s0.gens.size ≤ s1.gens.size → Sv t H1 → KI t (plus H1 pv) s1
def cInE {T : Type} (KI : T → Hp → Shared → Prop) (L : Nat) (t : T) (H : Hp) (s : Shared) : Prop := ∃ pv H', H = minus H' pv ∧ OnP H' pv ∧ (∀ p ∈ pv, L ≤ p.1) ∧ KI t H' s
theorem env_nolim {P : Program} {w : World} {K : PySem.W.Frag} {mg : Str → Option Value} {base : Heap} {A : Around} {outer : List Env} {s : Shared} {H : Hp} (e0 : Env0 P w K mg base A outer s H) : s.heap.NoLimit := e0.mod.nolimit.keeps fun b o e => (e0.bs b o e).1
/-- the plain consumer -/
theorem kok_plain (X : Cx) (pins : List (Addr × Obj)) : KOk X (fun τ H s => Inv X pins τ H s) (Below X pins) (fun _ _ => True) := by
  refine ⟨fun t H s I => I.env0, fun t H s G I b _ => inv_gens I b, fun t H s h' I k => ?_, fun Y L pv0 pv H' H1 t s0 s1 σg on y0 I bl g y3 y4 yP yw J off hs hL _ _ => ?_⟩
  · exact inv_grow (G := s.gens) I k I.bare
  · exact inv_back (X := X) (Y := Y) ⟨pv0, H', rfl, on, y0, I⟩ bl g y3 y4 yP yw J off hs hL
/-- a generator as the consumer -/
structure NT (T : Type) where
  n : Nat
  τ : T
  s₀ : Shared
  H₀ : Hp
  σ : L2.St
def NK (X : Cx) {T : Type} (C : GCt X T) (B : Nat) (t : NT T) (H : Hp) (s : Shared) : Prop := C.CI t.τ t.H₀ t.s₀ ∧ B ≤ s.gens.size ∧ Inv (reC X t.s₀ t.H₀) [] t.σ H s
structure BelowN (X : Cx) (L : Nat) : Prop where
  loc : X.env.locals < L
  cell : ∀ x c, X.env.cells.lookup x = some c → c < L
  pin : ∀ p ∈ X.pn, p.1 < L
  base : X.base.objs.size ≤ L
theorem belowN_of {X : Cx} {s₀ : Shared} {H₀ : Hp} {σ : L2.St} {H : Hp} {s : Shared} (I : Inv (reC X s₀ H₀) [] σ H s) : BelowN X s.heap.objs.size := by
  have b := below_of I
  exact ⟨b.loc, b.cell, fun p hp => b.pin p (List.mem_append_left _ hp), b.base⟩
theorem BelowN.re {X : Cx} {L : Nat} (b : BelowN X L) (s₀ : Shared) (H₀ : Hp) : Below (reC X s₀ H₀) [] L := by
  refine ⟨?_, b.loc, b.cell, fun p hp => ?_, b.base⟩
  · show (s₀.heap.objs.extract 0 X.env.locals).size ≤ L
    rw [Array.size_extract]
    have h1 : (X.env.locals : Nat) < L := b.loc
    exact Nat.le_trans (Nat.le_trans (Nat.sub_le _ _) (Nat.min_le_left _ _)) (Nat.le_of_lt h1)
  · rw [List.append_nil] at hp
    exact b.pin p hp
theorem kok_nest (X : Cx) {T : Type} (C : GCt X T) (B : Nat) : KOk X (NK X C B) (BelowN X) (fun _ _ => True) := by
  refine ⟨fun t H s I => I.2.2.env0, fun t H s G I b hz => ⟨I.1, Nat.le_trans I.2.1 hz, inv_gens I.2.2 b⟩, fun t H s h' I k => ⟨I.1, I.2.1, ?_⟩, fun Y L pv0 pv H' H1 t s0 s1 σg on y0 I bl g y3 y4 yP yw J off hs hL hz _ => ⟨I.1, Nat.le_trans I.2.1 hz, ?_⟩⟩
  · exact inv_grow (G := s.gens) I.2.2 k I.2.2.bare
  · exact inv_back (X := reC X t.s₀ t.H₀) (Y := Y) ⟨pv0, H', rfl, on, y0, I.2.2⟩ (bl.re _ _) g y3 y4 yP yw J off hs hL
/-- what is known of a generator and its consumer for good -/
structure ConE (X Y : Cx) {T : Type} (KI : T → Hp → Shared → Prop) (Bl : Nat → Prop) (Sv : T → Hp → Prop) (L a gi : Nat) (go : Obj) (C : GCt Y T) (DN : T → Hp → Prop) : Prop where
  hh : X.A.handled = none
  hd : X.A.depth < recursionLimit
  bl : Bl L
  prog : Y.prog = X.prog
  w : Y.w = X.w
  outer : Y.outer = X.stack
  pn : Y.pn = [(a, go)]
  loc : Y.env.locals = L
  young : ∀ b ∈ prvA Y, L ≤ b
  gok : GOk Y
  isg : ∀ h : Heap, h.get? a = some go → h.IsGen a gi
  ci : C.CI = cInE KI L
  kok : KOk X KI Bl Sv
  yS : ∀ m t x H κ, C.YP m t x H κ → Sv t H
  dS : ∀ t H, DN t H → Sv t H
/-- the generator stands where it may be woken -/
def GAtE (X Y : Cx) {T : Type} (C : GCt Y T) (DN : T → Hp → Prop) (a gi : Nat) (n : Nat) (t : T) (H : Hp) (s : Shared) : Prop := ∃ gs, s.gens[gi]? = some gs ∧ C.CI t H (s.setGen gi .running) ∧
  GoesE (model X.prog X.w) X.A.in1 (OEnd C DN (model X.prog X.w) X.A.in1 (gi + 1) n t H (s.setGen gi .running)) gs (s.setGen gi .running) ∧ s.heap.IsGen a gi ∧ s.heap.NoLimit
def GOutE (X Y : Cx) {T : Type} (KI : T → Hp → Shared → Prop) (C : GCt Y T) (DN : T → Hp → Prop) (a gi : Nat) (n : Nat) (t : T) (v : Value) (s : Shared) : Prop := ∃ m x H κ gs pv, n = m + 1 ∧ slp gs = true ∧ s.gens[gi]? = some gs ∧ KI t (plus H pv) s ∧ RelV x v ∧ OffP H pv ∧ C.YP m t x H κ ∧ s.heap.IsGen a gi ∧
  ∀ s' t' H', KI t' H' s' → KpG gi s s' → OnP H' pv → κ t' (minus H' pv) → GAtE X Y C DN a gi m t' (minus H' pv) s'
theorem gen_turnE {X Y : Cx} {T : Type} {KI : T → Hp → Shared → Prop} {Bl : Nat → Prop} {Sv : T → Hp → Prop} {L a gi : Nat} {go : Obj} {C : GCt Y T} {DN : T → Hp → Prop} {n : Nat} {t : T} {H₀ : Hp} {s : Shared} {E : Value → Shared → Prop} (c : ConE X Y KI Bl Sv L a gi go C DN) (G : GAtE X Y C DN a gi n t H₀ s) :
    wpAny (model X.prog X.w) X.A (pyNext (.ref a)) (fun r s' => match r with
      | none => ∃ H, KI t H s' ∧ DN t H
      | some v => GOutE X Y KI C DN a gi n t v s') E s := by
  obtain ⟨gs, hgs, hci, hgo, hig, hnl⟩ := G
  have aP : a ∈ prvA Y := mem_prvA (.inr (.inr ⟨(a, go), by rw [c.pn]; exact List.mem_singleton.mpr rfl, rfl⟩))
  have hgl : gi + 1 ≤ s.gens.size := (Array.getElem?_eq_some_iff.mp hgs).1
  rw [c.ci] at hci
  obtain ⟨pv0, Hk, rfl, on0, L0, ki0⟩ := hci
  have sz0 : (s.setGen gi .running).gens.size = s.gens.size := setGen_size _ _ _
  refine wpAny_gsz (Nat.le_refl s.gens.size) (next_oend c.hh hnl c.hd hig hgs hgo (fun m v s4 gs' σg x H4 κ hn hsl hbare I4 rv yp kap hsz => ?_) fun σg H4 s4 I4 dn h' hk hsz => ?_)
  case refine_2 =>
    have hsz4 : s.gens.size ≤ s4.gens.size := by
      have q : (s4.setGen gi .finished).gens.size = s4.gens.size := setGen_size _ _ _
      have : s.gens.size ≤ (s4.setGen gi .finished).gens.size := hsz
      omega
    have I5 : KI t (plus H4 []) s4 := c.kok.back Y L pv0 [] Hk H4 t _ s4 σg on0 L0 ki0 c.bl c.gok c.outer c.loc c.prog c.w I4 (fun p hp => by simp at hp) (fun p hp => by simp at hp) (fun p hp => by simp at hp) (by rw [sz0]; exact hsz4) (c.dS t H4 dn)
    have e0 : plus H4 [] = H4 := by
      funext b
      rw [plus_out]
      rintro ⟨p, hp, _⟩
      simp at hp
    rw [e0] at I5
    have I6 := c.kok.gens t H4 s4 (s4.setGen gi .finished).gens I5 (allBare_setGen I4.bare rfl) (by rw [setGen_size]; exact Nat.le_refl _)
    exact ⟨H4, c.kok.grow t H4 _ h' I6 hk, dn⟩
  have hsz4 : s.gens.size ≤ s4.gens.size := by
    have q : (s4.setGen gi gs').gens.size = s4.gens.size := setGen_size _ _ _
    have : s.gens.size ≤ (s4.setGen gi gs').gens.size := hsz
    omega
  obtain ⟨th, off⟩ := there_inv I4
  generalize hpv : prv Y s4.heap = pv at *
  have pvs : ∀ p ∈ pv, s4.heap.get? p.1 = some p.2 := fun p hp => by rw [← hpv] at hp; exact (mem_prv.mp hp).2
  have pvL : ∀ p ∈ pv, L ≤ p.1 := fun p hp => by rw [← hpv] at hp; exact c.young p.1 (mem_prv.mp hp).1
  have I5 : KI t (plus H4 pv) s4 := c.kok.back Y L pv0 pv Hk H4 t _ s4 σg on0 L0 ki0 c.bl c.gok c.outer c.loc c.prog c.w I4 off pvs pvL (by rw [sz0]; exact hsz4) (c.yS m t x H4 κ yp)
  have go4 : s4.heap.get? a = some go := (I4.pin (a, go) (List.mem_append_left _ (by
    show (a, go) ∈ Y.pn
    rw [c.pn]; exact List.mem_singleton.mpr rfl))).1
  have hg4 : (s4.setGen gi gs').gens[gi]? = some gs' := setGen_at (by omega)
  refine ⟨m, x, H4, κ, gs', pv, hn, hsl, hg4, c.kok.gens t _ s4 (s4.setGen gi gs').gens I5 (allBare_setGen I4.bare hbare) (by rw [setGen_size]; exact Nat.le_refl _), rv, off, yp, c.isg _ go4, fun s7 t7 H7 K7 kg7 on7 k7 => ?_⟩
  have e7 := c.kok.env t7 H7 s7 K7
  have hp7 : ∀ p ∈ pv, s7.heap.get? p.1 = some p.2 := on7.heap e7.hok fun p h1 q h2 => by rw [← hpv] at h1 h2; exact prv_fn p h1 q h2
  have kp : ∀ b ∈ prvA Y, ∀ o, s4.heap.get? b = some o → s7.heap.get? b = some o := fun b hb o e => hp7 (b, o) (by rw [← hpv]; exact mem_prv.mpr ⟨hb, e⟩)
  have g7 : s7.gens[gi]? = some gs' := kg7 gi gs' (Nat.le_refl _) hg4 hsl
  have lt7 : gi + 1 ≤ s7.gens.size := (Array.getElem?_eq_some_iff.mp g7).1
  have ci7 : C.CI t7 (minus H7 pv) (s7.setGen gi .running) := by
    rw [c.ci]
    exact ⟨pv, H7, rfl, on7, pvL, c.kok.gens t7 H7 s7 (s7.setGen gi .running).gens K7 (allBare_setGen e7.bare rfl) (by rw [setGen_size]; exact Nat.le_refl _)⟩
  have kpg : KpG (gi + 1) s4 (s7.setGen gi .running) := fun i y hi e q => by
    have ne : i ≠ gi := by omega
    rw [setGen_ne ne]
    exact kg7 i y (by omega) (by rw [setGen_ne ne]; exact e) q
  have run := kap t7 (minus H7 pv) (s7.setGen gi .running) ci7 (by rw [setGen_size]; exact lt7) kpg (fun b hb o e => kp b (mem_prvA hb) o e) (by rw [← hpv]; exact off_minus th) k7
  exact ⟨gs', g7, ci7, run, c.isg _ (kp a aP go go4), env_nolim e7⟩
/-- a generator that was just made may be woken -/
theorem gen_firstF {X : Cx} {T : Type} {KI : T → Hp → Shared → Prop} {Bl : Nat → Prop} {Sv : T → Hp → Prop} {t : T} {H : Hp} {k : Nat} {sp : SpY} {vs : List V} {sc s s1 : Shared} {XA : Around → Cx} {a gi : Nat} {c : Code} {go : Obj} {YP : YPt T} {DN : T → Hp → Prop} {n : Nat}
    (hr : Room (k + 1) X.A) (hfr : X.A.frames = some X.stack) (kok : KOk X KI Bl Sv) (yS : ∀ m t x H κ, YP m t x H κ → Sv t H) (dS : ∀ t H, DN t H → Sv t H) (bl : Bl sc.heap.objs.size) (hfree : ∀ b ∈ prvA (XA X.A.in1), H b = none) (hg : s1.gens = s.gens) (hk : ∀ b o, s.heap.get? b = some o → s1.heap.get? b = some o) (I : KI t H s1) (hK : ∀ B : Around, (XA B).K = X.K ∧ (XA B).mg = X.mg ∧ (XA B).base = X.base) (N : GNewE X.prog X.w k X.stack sp vs sc XA a gi c go s) (h : sp T vs H n t YP DN) :
    ∃ C : GCt (XA X.A.in1) T, C.YP = YP ∧ ConE X (XA X.A.in1) KI Bl Sv sc.heap.objs.size a gi go C DN ∧ GAtE X (XA X.A.in1) C DN a gi n t H s1 := by
  obtain ⟨y1, y2, y3, y4, y5⟩ := N.prog X.A.in1
  obtain ⟨k1, k2, k3⟩ := hK X.A.in1
  have cenv : ∀ τ H' s', cInE KI sc.heap.objs.size τ H' s' → ∃ B, Env0 (XA X.A.in1).prog (XA X.A.in1).w (XA X.A.in1).K (XA X.A.in1).mg (XA X.A.in1).base B (XA X.A.in1).outer s' H' := by
    rintro τ _ s' ⟨pv, H2, rfl, hon, _, I2⟩
    refine ⟨X.A, ?_⟩
    rw [y1, y2, k1, k2, k3, y3]
    exact env_minus (X := X) (kok.env τ H2 s' I2) hon
  have hgen : s1.gens[gi]? = some (.fresh c) := by rw [hg]; exact N.gen
  have hlt : gi < s1.gens.size := (Array.getElem?_eq_some_iff.mp hgen).1
  have e1 := kok.env t H s1 I
  have m0 : H = minus H [] := by
    funext b
    unfold minus
    rw [if_neg]
    rintro ⟨p, hp, _⟩
    simp at hp
  have ci : cInE KI sc.heap.objs.size t H (s1.setGen gi .running) := ⟨[], H, m0, fun p hp => by simp at hp, fun p hp => by simp at hp, kok.gens t H s1 (s1.setGen gi .running).gens I (allBare_setGen e1.bare rfl) (by rw [setGen_size]; exact Nat.le_refl _)⟩
  refine ⟨⟨cInE KI sc.heap.objs.size, cenv, YP⟩, rfl, ⟨hr.hd, hr.depth, bl, y1, y2, y3, y4, y5, N.young _, N.gok _, N.isg, rfl, kok, yS, dS⟩, ?_⟩
  refine ⟨_, hgen, ci, ?_, N.isg _ (hk _ _ N.obj), env_nolim e1⟩
  refine N.wake X.A.in1 hr.in1 hfr T _ n t _ H DN ci (fun b hb o e => hk b o e) ?_ (by rw [setGen_size]; exact hlt) h
  have hn := hfree
  exact ⟨hn _ (mem_prvA (.inl rfl)), fun x c h => hn c (mem_prvA (.inr (.inl ⟨x, h⟩))), fun p hp => hn p.1 (mem_prvA (.inr (.inr ⟨p, hp, rfl⟩)))⟩
/-- a generator that was just made may be woken -/
theorem gen_firstE {X : Cx} {T : Type} {KI : T → Hp → Shared → Prop} {Bl : Nat → Prop} {Sv : T → Hp → Prop} {t : T} {H : Hp} {k : Nat} {sp : SpY} {vs : List V} {sc s : Shared} {XA : Around → Cx} {a gi : Nat} {c : Code} {go : Obj} {YP : YPt T} {DN : T → Hp → Prop} {n : Nat}
    (hr : Room (k + 1) X.A) (hfr : X.A.frames = some X.stack) (kok : KOk X KI Bl Sv) (yS : ∀ m t x H κ, YP m t x H κ → Sv t H) (dS : ∀ t H, DN t H → Sv t H) (bl : Bl sc.heap.objs.size) (hfree : ∀ b, sc.heap.objs.size ≤ b → H b = none) (I : KI t H s) (hK : ∀ B : Around, (XA B).K = X.K ∧ (XA B).mg = X.mg ∧ (XA B).base = X.base) (N : GNewE X.prog X.w k X.stack sp vs sc XA a gi c go s) (h : sp T vs H n t YP DN) :
    ∃ C : GCt (XA X.A.in1) T, C.YP = YP ∧ ConE X (XA X.A.in1) KI Bl Sv sc.heap.objs.size a gi go C DN ∧ GAtE X (XA X.A.in1) C DN a gi n t H s := gen_firstF hr hfr kok yS dS bl (fun b hb => hfree b (N.young _ b hb)) rfl (fun _ _ e => e) I hK N h
/-! ### calls -/
structure PGnE (X : Cx) (k : Nat) (e : Expr) (tg : TGe) : Prop where
  run : ∀ (pins : List (Addr × Obj)) (s : Shared) (σ : L2.St) (H : Hp) (Φ : SpY → List V → Hp → Prop) (B : Nat), Inv X pins σ H s → B ≤ s.gens.size → tg σ H Φ → wpAny (model X.prog X.w) X.A (eval e X.env)
    (fun u s' => ∃ sp vs H1 sc XA a g c go, u = .ref a ∧ B ≤ g ∧ Inv X pins σ H1 sc ∧ Inv X pins σ H1 s' ∧ (∀ B : Around, (XA B).K = X.K ∧ (XA B).mg = X.mg ∧ (XA B).base = X.base) ∧ GNewE X.prog X.w k X.stack sp vs sc XA a g c go s' ∧ Φ sp vs H1) X.xe s
section
variable {X : Cx} {k : Nat} {f C : Addr} {fd : FuncData} {ps : List Str} {sp : SpY} {x m : Str} {p pos' apos : Pos} {o e : Expr} {es : List Expr} {ta : TE} {t : TA} {pl : Sem Bool}
theorem run_gfyE {pins : List (Addr × Obj)} {σ : L2.St} {H : Hp} {s : Shared} {us : List Value} {vs : List V} {Φ : SpY → List V → Hp → Prop} {E : Value → Shared → Prop} {B : Nat} (F : GFyE X.prog X.w X.K X.mg X.base k f fd ps sp) (hr : Room k X.A) (hb : Binds X.K fd ps []) (I : Inv X pins σ H s) (hB : B ≤ s.gens.size) (r : Vals vs us) (hl : vs.length = ps.length) (h : Φ sp vs H) :
    wpAny (model X.prog X.w) X.A (call (.ref f) us) (fun u s' => ∃ sp vs H1 sc XA a g c go, u = .ref a ∧ B ≤ g ∧ Inv X pins σ H1 sc ∧ Inv X pins σ H1 s' ∧ (∀ B : Around, (XA B).K = X.K ∧ (XA B).mg = X.mg ∧ (XA B).base = X.base) ∧ GNewE X.prog X.w k X.stack sp vs sc XA a g c go s' ∧ Φ sp vs H1) E s := by
  have hl2 : us.length = ps.length := by rw [← r.length]; exact hl
  have hbi := hb s us I.kIn (by rw [List.append_nil]; exact hl2)
  rw [List.append_nil] at hbi
  refine wpAny_call (codeAny_mono (F.run X.A X.stack s H ⟨us, []⟩ us vs hr I.env0 hbi r hl) fun r s' hq => ?_)
  cases r with
  | error e => exact False.elim hq
  | ok fl =>
    cases fl with
    | ret u =>
      obtain ⟨XA, a, g, c, go, rfl, hK, N⟩ := hq
      exact ⟨sp, vs, H, s, XA, a, g, c, go, rfl, Nat.le_trans hB N.idx, I, I.call' (ch := []) N.os (Un.kept N.keep) (I.hok.kept N.keep) N.bare (fun b z => by simp at z), hK, N, h⟩
    | next => exact False.elim hq
    | brk => exact False.elim hq
    | cont => exact False.elim hq
theorem pgn_callE (F : GFyE X.prog X.w X.K X.mg X.base k f fd ps sp) (hr : Room k X.A) (hg : Gl X x) (hm : X.mg x = some (.ref f)) (hk : PySem.W.keepIn X.K (.ref f) = true) (hb : Binds X.K fd ps []) (ha : PA X (e :: es) t) (hx : ∀ e s, ¬ X.xe e s) (hdb : (x == ("__debug__" : Str)) = false := by decide)
    (he : starEach (e :: es) X.env = (false, eval e X.env) :: starEach es X.env := by rfl) (hpl : (backTo pos' (starEach es X.env)).any (·.1) = false := by rfl) :
    PGnE X k (.Call (.Name x p) (e :: es) [] pos') (tCallY ps.length sp t) := by
  refine ⟨fun pins s σ H Φ B I hB h => ?_⟩
  refine wpAny_Call_Name_kw (ld_glob I hg hm ?_ hdb)
  refine PySem.W.callWith_K (h₀ := X.base) I.ok.mod.kin hk (wpAny_gsz hB (wpAny_mono (ha.run pos' pins s σ H _ I h) (fun us s1 hh hB1 => ?_) fun _ _ z _ => z)) he hpl
  obtain ⟨vs, H1, I1, r, hn, q⟩ := hh
  exact ⟨I1.kIn, run_gfyE F hr hb I1 hB1 r hn q⟩
end
end Nm

set_option Elab.async false
set_option linter.all false
set_option maxRecDepth 100000
set_option maxHeartbeats 2000000
namespace Nm
open PySem PySem.Spec L2 PyProof.Rows GenW

/-! ### for x in gen(..): yield e -/
def ypN {T : Type} (g : TG) (te : TE) (D : GE T) : YPt (NT T) := fun m t x H1 κ => ∀ pv, OffP H1 pv → g x t.σ (plus H1 pv) fun σ2 H2 => ∃ m', t.n = m' + 1 ∧ te σ2 H2 fun y H3 => D.yp m' t.τ y H3 fun τ' H4 => OnP H4 pv ∧ ∀ s₀ H₀, κ ⟨m', τ', s₀, H₀, σ2⟩ (minus H4 pv)
def tGFor1 {T : Type} (tge : TGe) (g : TG) (te : TE) : TGp T := fun D n τ σ H => tge σ H fun sp vs H1 => ∃ n1, ∀ s₀ H₀, sp (NT T) vs H1 n1 ⟨n, τ, s₀, H₀, σ⟩ (ypN g te D) (fun t H' => D.nx t.n t.τ t.σ H')
theorem gstE_forY1 {X : Cx} {T : Type} {iter tgt e : Expr} {yp p2 pos : Pos} {k : Nat} {tge : TGe} {g : TG} {te : TE} (gk : GOk X) (hr : Room (k + 1) X.A) (hit : ∀ s₀ H₀, PGnE (reC X s₀ H₀) k iter tge) (hg : ∀ s₀ H₀, PG (reC X s₀ H₀) tgt g) (he : ∀ s₀ H₀, PE (reC X s₀ H₀) e te)
    (hs : ∀ x, foldedSetIterable iter X.env x = pure x := by intro _; rfl) (hco : X.env.scope.isCoroutine = false := by rfl) (hi : interactive X.env = false := by rfl) : GStE X T (.For tgt iter [.Expr (.Yield (some e) yp) p2] [] pos) (tGFor1 tge g te) := by
  refine ⟨fun C A B DN n τ s₀ H₀ c fs F J gd lv s σ H D gp k ci hB I ht => ?_⟩
  refine sgp_For hs ?_
  rw [gp.over]
  refine wpAny_mono ((hit s₀ H₀).run [] s σ H _ B I hB ht) (fun u s1 h1 => ?_) fun x s' hx => absurd hx (gk.calm x s')
  obtain ⟨sp, vs, H1, sc, XA, a, gi, cI, go, rfl, hgi, Ic, I1, hK, N, n1, hsp⟩ := h1
  refine wpAny_pyIter_gen (N.isg _ N.obj) fun p => ?_
  have hB1 : B ≤ s1.gens.size := by
    have hlt : gi < s1.gens.size := (Array.getElem?_eq_some_iff.mp N.gen).1
    omega
  obtain ⟨C1, eC, con, at0⟩ := gen_firstE (X := X) (KI := NK X C B) (t := ⟨n, τ, s₀, H₀, σ⟩) hr Ic.ok.frames (kok_nest X C B) (fun _ _ _ _ _ _ => trivial) (fun _ _ _ => trivial) (belowN_of Ic) (fun b hb => Ic.hok.fresh hb) ⟨ci, hB1, I1⟩ hK N (hsp s₀ H₀)
  generalize hk0 : (fun r : Result => ((match r with | .ok f => (.pure f : Sem Flow) | .error e => .raise e).onRaise fun (x : Value) => do
        if (← field x 1) == Value.none then unsupported "frame.own-activation:exception-without-traceback"
        setFlight x X.env.frame).wrap F J gd lv) = k0
  have leaf : ∀ (f : Flow), k0 (.ok f) = F f := fun f => by rw [← hk0]; rfl
  have gl : GPos X A (.forLoop tgt (.ref a) [.Expr (.Yield (some e) yp) p2] [] X.env) (.ret k0 none (gd false) (lv []) c p [] :: fs) id := gpos_in gp rfl rfl
  have loop : ∀ (m : Nat) (t : NT T) (H : Hp) (s : Shared), GAtE X (XA X.A.in1) C1 (fun t H' => D.nx t.n t.τ t.σ H') a gi m t H s →
      SegP (model X.prog X.w) A (OEnd C DN (model X.prog X.w) A B t.n t.τ t.H₀ t.s₀) (.forLoop tgt (.ref a) [.Expr (.Yield (some e) yp) p2] [] X.env) ((model X.prog X.w).den (.forLoop tgt (.ref a) [.Expr (.Yield (some e) yp) p2] [] X.env)) (.ret k0 none (gd false) (lv []) c p [] :: fs) s := by
    intro m
    induction m using Nat.strongRecOn with
    | ind m ih =>
      intro t H s G
      refine sgp_forLoop ?_
      rw [gl.over]
      refine wpAny_mono (gen_turnE (E := fun _ _ => False) con G) (fun r s2 h2 => ?_) fun _ _ z => z
      cases r with
      | none =>
        obtain ⟨H2, ⟨ci2, hB2, I2⟩, dn⟩ := h2
        refine sgp_again rfl ?_
        show SegP _ _ _ _ (leafOf (.ok .next)) _ _
        exact sgp_leaf (.ok .next) (by rw [leaf]; exact k.ok t.n t.τ t.s₀ t.H₀ s2 .next ci2 hB2 ⟨t.σ, H2, I2, dn⟩)
      | some v =>
        obtain ⟨m', x, H2, κ, gs, pv, hm, hsl, hg2, ⟨ci2, hB2, I2⟩, rv, off, yq, ig, back⟩ := h2
        rw [eC] at yq
        refine go_gen (X := X) ig ?_
        refine wpAny_gsz hB2 (wpAny_mono (asleepE (E' := fun _ _ => False) I2.bare (fun e s' => gk.calm e s') (fun _ s' ⟨σ', H', I', q⟩ => ⟨I'.bare, fun G b => ⟨σ', H', inv_gens I' b, q⟩⟩) fun b => (hg t.s₀ t.H₀).run [] _ t.σ (plus H2 pv) x v _ (inv_gens I2 b) rv (yq pv off)) (fun _ s3 h3 hB3 => ?_) fun _ _ z => z.elim)
        obtain ⟨⟨σ3, H3, I3, m2, em, q3⟩, kg3⟩ := h3
        refine sgp_execs_cons (sgp_Yield gl.split gl.gd gl.guard ?_ hco hi)
        rw [gl.over]
        refine wpAny_gsz hB3 (wpAny_mono (asleepE (E' := fun _ _ => False) I3.bare (fun e s' => gk.calm e s') (fun _ s' ⟨y, H', I', r, q⟩ => ⟨I'.bare, fun G b => ⟨y, H', inv_gens I' b, r, q⟩⟩) fun b => (he t.s₀ t.H₀).run [] _ σ3 H3 _ (inv_gens I3 b) q3) (fun v4 s4 h4 hB4 => ?_) fun _ _ z => z.elim)
        obtain ⟨⟨y, H4, I4, rv4, q4⟩, kg4⟩ := h4
        intro gg ll kk pp hk hq
        rw [k.yp] at q4
        rw [em]
        refine ⟨hq, σ3, y, H4, _, I4, rv4, q4, fun τ' H5 s5 ci5 hB5 kg5 hkept hoff hn => hk _ s5 ?_⟩
        obtain ⟨B', e0⟩ := C.env τ' H5 s5 ci5
        have I5 := inv_wake gk I4 e0 hkept hoff
        refine sgp_again rfl ?_
        exact ih m' (by omega) ⟨m2, τ', s5, H5, σ3⟩ (minus H5 pv) s5 (back s5 _ H5 ⟨ci5, hB5, I5⟩ (((kg3.trans kg4).weak (Nat.zero_le _)).trans (kg5.weak hgi)) hn.1 (hn.2 _ _))
  exact loop n1 ⟨n, τ, s₀, H₀, σ⟩ H1 s1 at0
/-! ### a for over a generator -/
theorem ps_forYE {X : Cx} {k : Nat} {iter tgt : Expr} {body : List Stmt} {tg : TGe} {g : TG} {tb : TS} {pos : Pos} (hp : PassesOwn (model X.prog X.w) X.A X.env X.xe) (hx : ∀ e s, ¬ X.xe e s) (hr : Room (k + 1) X.A) (hi : PGnE X k iter tg) (hg : PG X tgt g) (hb : PSs X body tb)
    (hs : ∀ x, foldedSetIterable iter X.env x = pure x := by intro _; rfl) : PS X (.For tgt iter body [] pos) (tForY tg g tb) := by
  refine ⟨fun pins s σ H D I h => ?_⟩
  refine wpAny_For (thn (hi.run pins s σ H _ 0 I (Nat.zero_le _) h) fun v s1 h1 => ?_) hs
  obtain ⟨sp, vs, H1, sc, XA, a, gi, c, go, rfl, _, Ic, I1, hK, N, n0, hsp⟩ := h1
  refine wpAny_pyIter_gen (N.isg _ N.obj) ?_
  obtain ⟨C, eC, con, at0⟩ := gen_firstE (X := X) (KI := fun τ H s => Inv X pins τ H s) (t := σ) hr Ic.ok.frames (kok_plain X pins) (fun _ _ _ _ _ _ => trivial) (fun _ _ _ => trivial) (below_of Ic) (fun b hb => Ic.hok.fresh hb) I1 hK N hsp
  refine codeAny_forLoop_any (fun n s' => ∃ τ H, GAtE X (XA X.A.in1) C D.nx a gi n τ H s') (fun n s3 ⟨τ3, H3, G3⟩ => ?_) n0 ⟨σ, H1, at0⟩
  refine wpAny_passesOwn hp (thn (gen_turnE con G3) fun r s4 h4 => ?_)
  cases r with
  | none =>
    obtain ⟨H4, I4, dn⟩ := h4
    exact wpAny_execs_nil ⟨τ3, H4, I4, dn⟩
  | some v =>
    obtain ⟨m, x, H4, κ, gs, pv, hm, hsl, g4, I4, rv, off, yp, ig, back⟩ := h4
    rw [eC] at yp
    refine wpAny_passesOwn hp (go_gen ig ?_)
    refine wpAny_passesOwn hp (thn (asleepE I4.bare hx (fun _ s' ⟨σ', H', I', q⟩ => ⟨I'.bare, fun G b => ⟨σ', H', inv_gens I' b, q⟩⟩) fun b => hg.run pins _ τ3 (plus H4 pv) x v _ (inv_gens I4 b) rv (yp pv off)) fun _ s6 ⟨⟨σ6, H6, I6, q6⟩, g6⟩ => ?_)
    refine wpAny_passesOwn hp (thn (asleepE I6.bare hx (fun _ s' h => sp_gens h) fun b => hb.run pins _ σ6 H6 _ (inv_gens I6 b) q6) fun f s7 ⟨q7, g7⟩ => ?_)
    have kg : KpG gi s4 s7 := (g6.trans g7).weak (Nat.zero_le _)
    cases f with
    | next => obtain ⟨σ7, H7, J7, w7⟩ := q7; exact ⟨m, by omega, σ7, _, back s7 σ7 H7 J7 kg w7.1 w7.2⟩
    | cont => obtain ⟨σ7, H7, J7, w7⟩ := q7; exact ⟨m, by omega, σ7, _, back s7 σ7 H7 J7 kg w7.1 w7.2⟩
    | brk => obtain ⟨σ7, H7, J7, q⟩ := q7; exact ⟨σ7, H7, J7, q⟩
    | ret u => obtain ⟨x7, σ7, H7, J7, r7, q⟩ := q7; exact ⟨x7, σ7, H7, J7, r7, q⟩
end Nm

set_option Elab.async false
set_option linter.all false
set_option maxRecDepth 100000
set_option maxHeartbeats 2000000
namespace Nm
open PySem PySem.Spec L2 PyProof.Rows GenW

/-! ### [e for x in gen(..)] -/
structure BT where
  σ : L2.St
  o : Obj
theorem minus_plus {H : Hp} {pv : List (Addr × Obj)} (ho : OffP H pv) : minus (plus H pv) pv = H := by
  funext b
  by_cases z : inPv pv b
  · rw [minus_in z]
    obtain ⟨p, hp, rfl⟩ := z
    exact (ho p hp).symm
  · rw [minus_out z, plus_out z]
theorem minus_nil {H : Hp} : minus H [] = H := by
  funext b
  rw [minus_out]
  rintro ⟨p, hp, _⟩
  simp at hp
theorem plus_nil {H : Hp} : plus H [] = H := by
  funext b
  rw [plus_out]
  rintro ⟨p, hp, _⟩
  simp at hp
theorem cutH_self {h : Heap} : cutH h h.objs.size = h := by
  unfold cutH
  rw [Array.extract_size]
def BK (X : Cx) (pins : List (Addr × Obj)) (τX : L2.St) (Xb : Cx) (C : Addr) (t : BT) (H : Hp) (s : Shared) : Prop := ∃ s₀ H₀, cIn X pins C τX H₀ s₀ ∧ Inv (reC Xb s₀ H₀) [] t.σ (minus H [(C, t.o)]) s ∧ s.heap.get? C = some t.o ∧ OnP H [(C, t.o)] ∧ Inv X pins τX H s
section
variable {X : Cx} {pins : List (Addr × Obj)} {τX : L2.St} {sB : Shared} {HB : Hp} {scope : Scope} {ce : Env}
theorem gok_blk (hcl : ce.cells = []) : GOk (X.blk sB HB scope ce []) := ⟨fun x c h => by
  have h : ce.cells.lookup x = some c := h
  rw [hcl] at h; simp at h, rfl, fun _ _ z => z⟩
theorem one_mem {C : Addr} {o : Obj} {p : Addr × Obj} (h : p ∈ [(C, o)]) : p = (C, o) := List.mem_singleton.mp h
theorem kok_blk (hcl : ce.cells = []) : KOk X (BK X pins τX (X.blk sB HB scope ce []) ce.locals) (Below X pins) (fun t H => OnP H [(ce.locals, t.o)]) := by
  refine ⟨fun t H s ⟨s₀, H₀, _, _, _, _, I⟩ => I.env0, fun t H s G ⟨s₀, H₀, ci, Ib, h, on, I⟩ b hz => ⟨s₀, H₀, ci, inv_gens Ib b, h, on, inv_gens I b⟩, fun t H s h' ⟨s₀, H₀, ci, Ib, h, on, I⟩ k => ⟨s₀, H₀, ci, ?_, k _ _ h, on, ?_⟩, ?_⟩
  · exact inv_grow (G := s.gens) Ib k Ib.bare
  · exact inv_grow (G := s.gens) I k I.bare
  · intro Y L pv0 pv H' H1 t s0 s1 σg on y0 ki bl g y3 y4 yP yw J off hs hL hz sv
    obtain ⟨s₀, H₀, ci, Ib, h, onC, IX⟩ := ki
    have IX1 : Inv X pins τX (plus H1 pv) s1 := inv_back (X := X) (Y := Y) ⟨pv0, H', rfl, on, y0, IX⟩ bl g y3 y4 yP yw J off hs hL
    have on1 : OnP (plus H1 pv) [(ce.locals, t.o)] := fun p hp => by
      obtain ⟨q, hq, e, h⟩ := sv p hp
      exact ⟨q, hq, e, plus_some off h⟩
    have h1 : s1.heap.get? ce.locals = some t.o := on1.heap IX1.hok (fun p hp q hq _ => by rw [one_mem hp, one_mem hq]) (ce.locals, t.o) (List.mem_singleton.mpr rfl)
    have e0 := env_minus (X := X) IX1.env0 on1
    have Ib1 := inv_wake (X := X.blk sB HB scope ce []) (s2 := s1) (H2 := minus (plus H1 pv) [(ce.locals, t.o)]) (gok_blk hcl) Ib e0 (fun b hb o e => by
      rcases hb with rfl | ⟨x, hx⟩ | ⟨p, hp, _⟩
      · have e : s0.heap.get? ce.locals = some o := e
        rw [h] at e; cases e
        exact h1
      · have hx : ce.cells.lookup x = some b := hx
        rw [hcl] at hx; simp at hx
      · exact absurd (show p ∈ ([] : List (Addr × Obj)) from hp) (by simp)) ⟨minus_in ⟨(ce.locals, t.o), List.mem_singleton.mpr rfl, rfl⟩, fun x c hx => by
      have hx : ce.cells.lookup x = some c := hx
      rw [hcl] at hx; simp at hx, fun p hp => absurd (show p ∈ ([] : List (Addr × Obj)) from hp) (by simp)⟩
    exact ⟨s1, _, ⟨_, _, rfl, on1, fun p hp => by rw [one_mem hp]; exact Nat.le_refl _, IX1⟩, Ib1, h1, on1, IX1⟩
end
def ypL (g : TG) (te : TE) (C D : Addr) (vs : List Nat) : YPt BT := fun m t x H1 κ => OnP H1 [(C, t.o)] ∧ ∀ pv, OffP H1 pv → g x t.σ (minus (plus H1 pv) [(C, t.o)]) fun σ2 H2 => wipe σ2 vs = t.σ ∧ te σ2 H2 fun y H3 => ∃ acc, H3 D = some (.lst acc) ∧ acc.length < sizeLine ∧
  ∀ o', OffP (upd H3 D (.lst (acc ++ [y]))) [(C, o')] → OnP (plus (upd H3 D (.lst (acc ++ [y]))) [(C, o')]) pv ∧ κ ⟨t.σ, o'⟩ (minus (plus (upd H3 D (.lst (acc ++ [y]))) [(C, o')]) pv)
def tLcY (tge : TGe) (g : TG) (te : TE) (vs : List Nat) : TE := fun σ H Q => tge σ H fun sp ws H1 => ∀ D C, D ≠ C → H1 D = none → H1 C = none → ∃ n, ∀ o, sp BT ws (plus (upd H1 D (.lst [])) [(C, o)]) n ⟨wipe σ vs, o⟩ (ypL g te C D vs) (fun t H' => OnP H' [(C, t.o)] ∧ Q (.ref D) (minus H' [(C, t.o)]))
section
variable {X : Cx}
theorem lcYE {pins : List (Addr × Obj)} {s : Shared} {σ : L2.St} {H : Hp} {Q : VK} {elt tg iter : Expr} {scope : Scope} {own : List (Str × Nat)} {pos pos' : Pos} {k : Nat} {tge : TGe} {g : TG} {te : TE} {use : Option (Value → Sem Unit)} {Qf : Value → Shared → Prop}
    (hr : Room (k + 1) X.A) (hN : X.N.Nodup) (I : Inv X pins σ H s) (hi : PGnE X k iter tge) (ok : BlkOk X.N X.env.scope scope own) (hnc : ∀ (n : Nat) (cs : List (Str × Addr)), cellsFrom n scope.names (cloFrom cs scope.names []) = [])
    (hg : ∀ (s : Shared) (H : Hp) (C : Addr) (cl : List (Str × Addr)) (fp : List Addr), PG (X.blk s H scope (compEnvC scope cl C X.env) fp) tg g)
    (he : ∀ (s : Shared) (H : Hp) (C : Addr) (cl : List (Str × Addr)) (fp : List Addr), PE (X.blk s H scope (compEnvC scope cl C X.env) fp) elt te) (hs : ∀ x, foldedSetIterable iter X.env x = pure x)
    (h : tLcY tge g te (own.map (·.2)) σ H Q)
    (hRR : ∀ D C s' m H', Inv X pins σ H' s' → Q (.ref D) H' → s'.heap.Ns C m → FpOk X pins H' C → compPost (model X.prog X.w) X.A X.xe use Qf (.ref D) C (.ok .next) s') :
    wpAny (model X.prog X.w) X.A (comprehension (.ListComp elt [⟨tg, iter, [], 0⟩] scope pos) scope X.env pos' (newList []) false (eval iter X.env) use) Qf X.xe s := by
  have hfree : ∀ y ∈ scope.names, y.2 = .free → ∃ c, X.env.cells.lookup y.1 = some c := fun y hy e => (ok.free y hy e).elim (fun k => I.ok.has _ (.inl k)) fun k => I.ok.has _ (.inr k)
  refine wpAny_comprehension_free (use := use) rfl hs (closure_ok hfree) ok.kind (fun y hy e => by rw [ok.uniq y hy, e]) (thn (hi.run pins s σ H _ 0 I (Nat.zero_le _) h) fun xv s2 hx => ?_)
  obtain ⟨sp, ws, H2, sc, XA, a, gi, c, go, rfl, _, Ic, I2, hK, N, q⟩ := hx
  refine wpAny_pyIter_gen (N.isg _ N.obj) ?_
  refine wpAny_newObj_type (newEnv_comp ?_) (by show 0 ≤ sizeLine; decide)
  generalize hD : s2.heap.objs.size = D
  have hDn : H2 D = none := I2.hok.fresh (Nat.le_of_eq hD)
  generalize hs3 : ({ s2 with heap := s2.heap.push { cls := .type "list", data := .seq ([] : List Value).toArray } } : Shared) = s3
  have I3 : Inv X pins σ (upd H2 D (.lst [])) s3 := by
    rw [← hs3]
    refine I2.laid (t' := s2.toks) (fun b o e => Heap.get?_push_of_some _ e) (Nat.le_of_eq hD) ⟨Nat.zero_le _, [], 0, .nil, ?_⟩
    rw [← hD]
    exact Heap.get?_push_size _ rfl
  have h3 : s3.heap = s2.heap.push { cls := .type "list", data := .seq ([] : List Value).toArray } := by rw [← hs3]
  have g3 : s3.gens = s2.gens := by rw [← hs3]
  have k3 : ∀ b o, s2.heap.get? b = some o → s3.heap.get? b = some o := fun b o e => by rw [h3]; exact Heap.get?_push_of_some _ e
  have I4 := block_start (fp := []) I3 ok hN (fun b hb => absurd hb (by simp))
  have pg := fun s H => hg s H s3.heap.objs.size (cellsFrom (s3.heap.objs.size + 1) scope.names (cloFrom X.env.cells scope.names [])) []
  have pe := fun s H => he s H s3.heap.objs.size (cellsFrom (s3.heap.objs.size + 1) scope.names (cloFrom X.env.cells scope.names [])) []
  show codeAny _ _ (.compStart (.ListComp elt [⟨tg, iter, [], 0⟩] scope pos) 0 (.ref a) (.ref D) (compEnvC scope (cellsFrom (s3.heap.objs.size + 1) scope.names (cloFrom X.env.cells scope.names [])) s3.heap.objs.size X.env)) (compPost (model X.prog X.w) X.A X.xe use Qf (.ref D) s3.heap.objs.size) { s3 with heap := pushCells (s3.heap.push { cls := .type "dict", data := .dict #[] }) scope.names }
  generalize hce : compEnvC scope (cellsFrom (s3.heap.objs.size + 1) scope.names (cloFrom X.env.cells scope.names [])) s3.heap.objs.size X.env = ce at I4 pg pe ⊢
  have cL : ce.locals = s3.heap.objs.size := by subst hce; rfl
  have hcl : ce.cells = [] := by subst hce; exact hnc _ _
  generalize hH3 : upd H2 D (.lst []) = H3 at I3 I4
  have k4 : ∀ b o, s3.heap.get? b = some o → (pushCells (s3.heap.push { cls := .type "dict", data := .dict #[] }) scope.names).get? b = some o := fun b o e => pushCells_keeps _ _ _ _ (Heap.get?_push_of_some _ e)
  generalize hs4 : ({ s3 with heap := pushCells (s3.heap.push { cls := .type "dict", data := .dict #[] }) scope.names } : Shared) = s4 at I4 ⊢
  have g4 : s4.gens = s2.gens := by rw [← hs4]; exact g3
  have k4 : ∀ b o, s2.heap.get? b = some o → s4.heap.get? b = some o := fun b o e => by rw [← hs4]; exact k4 _ _ (k3 _ _ e)
  have gb : GOk (X.blk s3 H3 scope ce []) := gok_blk hcl
  have bl : Below X pins ce.locals := by rw [cL]; exact below_of I3
  have I4' : Inv (reC (X.blk s3 H3 scope ce []) s3 H3) [] (wipe σ (own.map (·.2))) H3 s4 := by
    have e : (reC (X.blk s3 H3 scope ce []) s3 H3) = X.blk s3 H3 scope ce [] := by
      show X.blk { s3 with heap := cutH s3.heap ce.locals } H3 scope ce [] = _
      rw [cL, cutH_self]
    rw [e]; exact I4
  have ci3 : cIn X pins ce.locals σ H3 s3 := ⟨[], H3, minus_nil.symm, fun p hp => by simp at hp, fun p hp => by simp at hp, I3⟩
  -- the block, between the turns
  have toK : ∀ {s₀ H₀ σ' H' s'}, cIn X pins ce.locals σ H₀ s₀ → Inv (reC (X.blk s3 H3 scope ce []) s₀ H₀) [] σ' H' s' → ∃ o, OffP H' [(ce.locals, o)] ∧ BK X pins σ (X.blk s3 H3 scope ce []) ce.locals ⟨σ', o⟩ (plus H' [(ce.locals, o)]) s' := by
    intro s₀ H₀ σ' H' s' ci Ib
    obtain ⟨m, ⟨o, _, _, ho, _⟩, _⟩ := Ib.loc
    have ho : s'.heap.get? ce.locals = some o := ho
    have hf : H' ce.locals = none := Ib.free
    have off : OffP H' [(ce.locals, o)] := fun p hp => by rw [one_mem hp]; exact hf
    refine ⟨o, off, s₀, H₀, ci, by rw [minus_plus off]; exact Ib, ho, onP_plus, ?_⟩
    exact inv_back (X := X) (Y := X.blk s3 H3 scope ce []) ci bl gb rfl rfl rfl rfl Ib off (fun p hp => by rw [one_mem hp]; exact ho) (fun p hp => by rw [one_mem hp]; exact Nat.le_refl _)
  obtain ⟨o0, off0, K0⟩ := toK ci3 I4'
  have hDC : D ≠ ce.locals := by
    rw [cL, h3, Heap.size_push, hD]
    exact Nat.ne_of_lt (Nat.lt_succ_self D)
  have hCn : H2 ce.locals = none := by
    have z : H3 ce.locals = none := off0 (ce.locals, o0) (List.mem_singleton.mpr rfl)
    rw [← hH3, upd_ne (Ne.symm hDC)] at z
    exact z
  obtain ⟨n0, hsp⟩ := q D ce.locals hDC hDn hCn
  rw [hH3] at hsp
  obtain ⟨Cg, eC, con, at0⟩ := gen_firstF (X := X) (s1 := s4) hr Ic.ok.frames (kok_blk (X := X) (pins := pins) (τX := σ) (sB := s3) (HB := H3) (scope := scope) hcl) (fun m t x H κ z => z.1) (fun t H z => z.1) (below_of Ic) (fun b hb => by
    obtain ⟨o, ho⟩ := N.there X.A.in1 b hb
    have lt : b < D := by rw [← hD]; exact Heap.lt_size ho
    have hCD : D < ce.locals := by
      rw [cL, h3, Heap.size_push, hD]
      exact Nat.lt_succ_self D
    rw [plus_out (by rintro ⟨p, hp, e⟩; rw [one_mem hp] at e; exact absurd e (Nat.ne_of_gt (Nat.lt_trans lt hCD))), ← hH3, upd_ne (Nat.ne_of_lt lt)]
    exact Ic.hok.fresh (N.young _ b hb)) g4 k4 K0 hK N (hsp o0)
  have loop : codeAny (model X.prog X.w) X.A (.compLoop (.ListComp elt [⟨tg, iter, [], 0⟩] scope pos) 0 (.ref a) (.ref D) ce) (compPost (model X.prog X.w) X.A X.xe use Qf (.ref D) s3.heap.objs.size) s4 := by
    refine compLoop_any (fun n s' => ∃ t H, GAtE X (XA X.A.in1) Cg _ a gi n t H s') ?_ n0 ⟨_, _, at0⟩
    rintro n s5 ⟨t, H5, G5⟩
    refine thnF (gen_turnE (E := fun _ _ => False) con G5) fun r s6 h6 => ?_
    cases r with
    | none =>
      obtain ⟨H6, ⟨s₀, H₀, ci, Ib, hC, on, IX⟩, _, qq⟩ := h6
      have I7 : Inv X pins σ (minus H6 [(ce.locals, t.o)]) s6 := by
        have z := inv_back (X := X) (Y := X.blk s3 H3 scope ce []) (pv := []) ci bl gb rfl rfl rfl rfl Ib (fun p hp => by simp at hp) (fun p hp => by simp at hp) (fun p hp => by simp at hp)
        rw [plus_nil] at z
        exact z
      have nC : minus H6 [(ce.locals, t.o)] s3.heap.objs.size = none := by
        rw [← cL]
        exact minus_in ⟨(ce.locals, t.o), List.mem_singleton.mpr rfl, rfl⟩
      obtain ⟨m, hn, _⟩ := Ib.loc
      have hn : s6.heap.Ns ce.locals m := hn
      rw [cL] at hn
      exact hRR D s3.heap.objs.size s6 m _ I7 qq hn (I3.fpOk (Nat.le_refl _) nC)
    | some v =>
      obtain ⟨m, x, H6, κ, gs, pv, hm, hsl, hg6, ⟨s₀, H₀, ci, Ib, hC, on, IX⟩, rv, off, yp, ig, back⟩ := h6
      rw [eC] at yp
      refine go_gen (X := X) ig ?_
      refine thnF (asleepE (E' := fun _ _ => False) Ib.bare (fun _ _ z => z) (fun _ s' ⟨σ', H', I', q⟩ => ⟨I'.bare, fun G b => ⟨σ', H', inv_gens I' b, q⟩⟩) fun b => (pg { s₀ with heap := cutH s₀.heap ce.locals } H₀).run [] _ t.σ (minus (plus H6 pv) [(ce.locals, t.o)]) x v _ (inv_gens Ib b) rv (yp.2 pv off)) fun _ s7 ⟨⟨σ7, H7, I7, hw, q7⟩, kg7⟩ => ?_
      refine wpAny_tests_nil ?_
      rw [if_pos rfl]
      refine thnF (asleepE (E' := fun _ _ => False) I7.bare (fun _ _ z => z) (fun _ s' ⟨y, H', I', r, q⟩ => ⟨I'.bare, fun G b => ⟨y, H', inv_gens I' b, r, q⟩⟩) fun b => (pe { s₀ with heap := cutH s₀.heap ce.locals } H₀).run [] _ σ7 H7 _ (inv_gens I7 b) q7) fun z s8 ⟨⟨yv, H8, I8, r8, acc, hD8, hz8, nx⟩, kg8⟩ => ?_
      refine thnF (asleepE (E := fun _ _ => False) (E' := fun _ _ => False) (R := fun _ s' => Inv (reC (X.blk s3 H3 scope ce []) s₀ H₀) [] σ7 (upd H8 D (.lst (acc ++ [yv]))) s') I8.bare (fun _ _ z => z) (fun _ s' I' => ⟨I'.bare, fun G b => inv_gens I' b⟩) fun b => app_ok (X := reC (X.blk s3 H3 scope ce []) s₀ H₀) (inv_gens I8 b) hD8 hz8 r8 fun s9 I9 => I9) fun _ s9 ⟨I9, kg9⟩ => ?_
      have I9w : Inv (reC (X.blk s3 H3 scope ce []) s₀ H₀) [] t.σ (upd H8 D (.lst (acc ++ [yv]))) s9 := by
        rw [← hw]
        exact I9.weak (wipe_length _ _) fun j v e => (wipe_some e).1
      obtain ⟨o', off', K'⟩ := toK ci I9w
      obtain ⟨n1, n2⟩ := nx o' off'
      exact ⟨m, by omega, _, _, back s9 ⟨t.σ, o'⟩ _ K' (((kg7.trans kg8).trans kg9).weak (Nat.zero_le _)) n1 n2⟩
  exact codeAny_compStart_list loop (wpAny_pyIter_gen (con.isg _ (k4 _ _ N.obj)) loop)
theorem pe_lcYE {elt tg iter : Expr} {scope : Scope} {own : List (Str × Nat)} {pos : Pos} {k : Nat} {tge : TGe} {g : TG} {te : TE} (hr : Room (k + 1) X.A) (hN : X.N.Nodup) (hi : PGnE X k iter tge) (ok : BlkOk X.N X.env.scope scope own) (hnc : ∀ (n : Nat) (cs : List (Str × Addr)), cellsFrom n scope.names (cloFrom cs scope.names []) = [])
    (hg : ∀ (s : Shared) (H : Hp) (C : Addr) (cl : List (Str × Addr)) (fp : List Addr), PG (X.blk s H scope (compEnvC scope cl C X.env) fp) tg g)
    (he : ∀ (s : Shared) (H : Hp) (C : Addr) (cl : List (Str × Addr)) (fp : List Addr), PE (X.blk s H scope (compEnvC scope cl C X.env) fp) elt te) (hs : ∀ x, foldedSetIterable iter X.env x = pure x := by intro _; rfl) :
    PE X (.ListComp elt [⟨tg, iter, [], 0⟩] scope pos) (tLcY tge g te (own.map (·.2))) := by
  refine ⟨fun pins s σ H Q I h => ?_⟩
  rw [eval_ListComp]
  refine lcYE hr hN I hi ok hnc hg he hs h fun D C s' m H' I' q hn f => ⟨m, hn, fun h'' sb => ?_⟩
  obtain ⟨f0, f1, f2, f3, f4, f5⟩ := f
  exact ⟨.ref D, H', I'.turned (t' := s'.toks) (fun b o hb e => (sb.2 b hb).trans e) f0 f1 f3 f4 f5, rfl, q⟩
end
end Nm

set_option Elab.async false
set_option linter.all false
set_option maxRecDepth 100000
set_option maxHeartbeats 1000000
namespace Nm
open PySem PySem.Spec L2
section
variable {K : PySem.W.Frag} {F H : Hp} {σ : L2.St} {ta tb tc te : TE} {d : D}
theorem rvA_eq_int {i j : Int} : RvD K (rEqA K) (.int i) (.int j) (.bl (decide (i = j))) := fun F H x y s hx hy Q q => .inl (rv_eq_int (K := K) F H x y s hx hy Q q)
theorem rvA_eq_str {i j : Str} : RvD K (rEqA K) (.str i) (.str j) (.bl (decide (i = j))) := fun F H x y s hx hy Q q => .inl (rv_eq_str (K := K) F H x y s hx hy Q q)
theorem rvA_ne_int {i j : Int} : RvD K (rNeA K) (.int i) (.int j) (.bl (!decide (i = j))) := fun F H x y s hx hy Q q => .inl (rv_ne_int (K := K) F H x y s hx hy Q q)
theorem rvA_ne_str {i j : Str} : RvD K (rNeA K) (.str i) (.str j) (.bl (!decide (i = j))) := fun F H x y s hx hy Q q => .inl (rv_ne_str (K := K) F H x y s hx hy Q q)
theorem rc_isiA {t n : String} {b : Bool} (e : tyD d = some t) (hb : kitB t n = some b) : RcD K (rIsiA K) [d, .ty n] (.bl b) := fun F H xs s hx Q q => .inl (rc_isi (K := K) e hb F H xs s hx Q q)
theorem rv_lt_int {i j : Int} : RvD K (rLtA K) (.int i) (.int j) (.bl (decide (i < j))) := rv_cmp_int
theorem rv_le_int {i j : Int} : RvD K (rLeA K) (.int i) (.int j) (.bl (decide (i ≤ j))) := rv_cmp_int
theorem rv_gt_int {i j : Int} : RvD K (rGtA K) (.int i) (.int j) (.bl (decide (j < i))) := rv_cmp_int
theorem rv_ge_int {i j : Int} : RvD K (rGeA K) (.int i) (.int j) (.bl (decide (j ≤ i))) := rv_cmp_int
theorem rv_mul_int {i j : Int} (h : CMul i j) : RvD K (rMulA K) (.int i) (.int j) (.int (i * j)) := fun F H x y s hx hy Q q => .inl (rv_I (g := fun i j => i * j) h F H x y s hx hy Q q)
theorem rv_ix_str {z : Str} {i : Int} {c : Nat} (hz : z.length ≤ sizeLine) (h : atI z.cps.toList i = some c) : RvD K (rIxA K) (.str z) (.int i) (.str ⟨#[c]⟩) := fun F H x y s hx hy Q q => by
  cases hx; cases hy
  exact .inl (.inr (.inr ⟨z, i, c, rfl, rfl, hz, h, q _ F H (Ext.refl s) (.str _)⟩))
theorem atI_den {F : Hp} {xs : List V} {ds : List D} {i : Int} (l : DenL K F xs ds) (h : atI ds i = some d) : ∃ v, atI xs i = some v ∧ Den K F v d := by
  unfold atI at h ⊢
  rw [l.length]
  cases e : ixN ds.length i with
  | none => rw [e] at h; cases h
  | some j =>
    rw [e] at h
    exact l.get h
theorem rv_ix_lst {ds : List D} {i : Int} (h : atI ds i = some d) : RvD K (rIxA K) (.lst ds) (.int i) d := fun F H x y s hx hy Q q => by
  cases hy
  cases hx with
  | lst a l =>
    obtain ⟨v, h1, h2⟩ := atI_den l h
    exact .inl (.inl ⟨_, _, i, v, rfl, rfl, SqL.of (s _ _ a), h1, q _ F H (Ext.refl s) h2⟩)
theorem rv_ix_tup {ds : List D} {i : Int} (h : atI ds i = some d) : RvD K (rIxA K) (.tup ds) (.int i) d := fun F H x y s hx hy Q q => by
  cases hy
  cases hx with
  | tup a l =>
    obtain ⟨v, h1, h2⟩ := atI_den l h
    exact .inl (.inr (.inl ⟨_, _, i, v, rfl, rfl, same_t s a, h1, q _ F H (Ext.refl s) h2⟩))
theorem rc_abs {i : Int} : RcD K rAbs [.int i] (.int (if i < 0 then -i else i)) := fun F H xs s hx Q q => by
  cases hx with | cons h t => cases h; cases t; exact ⟨i, rfl, q _ F H (Ext.refl s) (.int _)⟩
theorem rc_max2 {i j : Int} : RcD K rMax2 [.int i, .int j] (.int (if j > i then j else i)) := fun F H xs s hx Q q => by
  cases hx with | cons h t => cases h; cases t with | cons h t => cases h; cases t; exact ⟨i, j, rfl, q _ F H (Ext.refl s) (.int _)⟩
theorem rc_min2 {i j : Int} : RcD K rMin2 [.int i, .int j] (.int (if j < i then j else i)) := fun F H xs s hx Q q => by
  cases hx with | cons h t => cases h; cases t with | cons h t => cases h; cases t; exact ⟨i, j, rfl, q _ F H (Ext.refl s) (.int _)⟩
theorem ev_chain {r r' : R2} {a b c : D} {p q : Bool} (ha : EvD K ta σ F a) (hb : EvD K tb σ F b) (hr : RvD K r a b (.bl p)) (hc : p = true → EvD K tc σ F c) (hr' : p = true → RvD K r' b c (.bl q)) : EvD K (tChain r r' ta tb tc) σ F (.bl (p && q)) := fun H s Q k =>
  ha H s _ fun x F1 H1 x1 d1 => (hb.up x1.f) H1 x1.s _ fun y F2 H2 x2 d2 => hr F2 H2 x y x2.s (d1.up x2.f) d2 _ fun z F3 H3 x3 d3 => by
    cases d3
    refine ⟨p, rfl, ?_⟩
    cases p with
    | true =>
      rw [if_pos rfl]
      exact ((hc rfl).up (x1.f.trans (x2.f.trans x3.f))) H3 x3.s _ fun w F4 H4 x4 d4 => hr' rfl F4 H4 y w x4.s ((d2.up x3.f).up x4.f) d4 _ fun v F5 H5 x5 d5 => k v F5 H5 ((((x1.tr x2).tr x3).tr x4).tr x5) d5
    | false =>
      rw [if_neg (by decide)]
      exact k _ F3 H3 ((x1.tr x2).tr x3) (.bl false)
theorem if_some {α : Type} {c : Bool} {a d : α} (h : (if c = true then some a else none) = some d) : c = true ∧ a = d := by
  cases c with
  | true => exact ⟨rfl, Option.some.inj h⟩
  | false => cases h
theorem ev_andF (h1 : EvD K ta σ F (.bl false)) : EvD K (tAndV ta tb) σ F (.bl false) := ev_and (b := false) h1 (fun z => nomatch z)
theorem ev_andT {b : Bool} (h1 : EvD K ta σ F (.bl true)) (h2 : EvD K tb σ F (.bl b)) : EvD K (tAndV ta tb) σ F (.bl b) := ev_and (a := true) h1 fun _ => h2
theorem et_andF {tt tu : TT} (h1 : EvT K tt σ F false) : EvT K (tAnd tt tu) σ F false := et_and (b := false) h1 (fun z => nomatch z)
/-- sep.join(texts) -/
theorem ev_join {sep : Str} {ys : List Str} (h1 : EvD K ta σ F (.str sep)) (h2 : EvD K tb σ F (.lst (ys.map D.str))) (hz : (ys.map (·.length)).sum + ys.length * sep.length ≤ 16777216) : EvD K (tM1 (rJoin K) ta tb) σ F (.str (Txt.join sep ys)) := fun H s Q q =>
  h1 H s _ fun x F1 H1 x1 d1 => by
    cases d1
    refine ⟨⟨_, rfl⟩, (h2.up x1.f) H1 x1.s _ fun y F2 H2 x2 d2 => ?_⟩
    cases d2 with
    | lst a l =>
      rw [denL_strs l] at a
      exact ⟨sep, _, ys, rfl, rfl, .inl (SqL.of (x2.s _ _ a)), hz, q _ F2 H2 (x1.tr x2) (.str _)⟩
/-- text[lo:hi] -/
def EvO (K : PySem.W.Frag) (to : TO) (σ : L2.St) (F : Hp) (o : Option Int) : Prop := ∀ H, Same F H → ∀ Q : Option Int → Hp → Prop, (∀ F' H', Ext [] F H F' H' → Q o H') → to σ H Q
theorem eo_none : EvO K tNo σ F none := fun H s Q q => q F H (Ext.refl s)
theorem eo_some {i : Int} (h : EvD K te σ F (.int i)) : EvO K (tSome te) σ F (some i) := fun H s Q q => h H s _ fun v F1 H1 x1 d1 => by cases d1; exact ⟨i, rfl, q F1 H1 x1⟩
theorem EvO.up {to : TO} {o : Option Int} {F' : Hp} (h : EvO K to σ F o) (e : Same F F') : EvO K to σ F' o := fun H s Q q => h H (e.trans s) Q fun F2 H2 x => q _ H2 (Ext.uni e s x)
theorem ev_sl_str {z : Str} {tl th : TO} {lo hi : Option Int} (h : EvD K te σ F (.str z)) (hl : EvO K tl σ F lo) (hh : EvO K th σ F hi) (hz : z.length ≤ sizeLine) : EvD K (L2.tSl (rSlAny K) te tl th) σ F (.str (cutS z lo hi)) := fun H s Q q =>
  h H s _ fun x F1 H1 x1 d1 => (hl.up x1.f) H1 x1.s _ fun F2 H2 x2 => (hh.up (x1.f.trans x2.f)) H2 x2.s _ fun F3 H3 x3 => by
    cases d1
    exact .inl ⟨z, rfl, hz, q _ F3 H3 ((x1.tr x2).tr x3) (.str _)⟩
def cutD (xs : List D) (lo hi : Option Int) : List D := (xs.drop (HT.sIx xs.length 0 lo)).take (HT.sIx xs.length xs.length hi - HT.sIx xs.length 0 lo)
theorem DenL.drop : ∀ {vs : List V} {ds : List D} (n : Nat), DenL K F vs ds → DenL K F (vs.drop n) (ds.drop n)
  | _, _, 0, h => h
  | _, _, _ + 1, .nil => .nil
  | _, _, n + 1, .cons _ t => DenL.drop n t
theorem DenL.take : ∀ {vs : List V} {ds : List D} (n : Nat), DenL K F vs ds → DenL K F (vs.take n) (ds.take n)
  | _, _, 0, _ => .nil
  | _, _, _ + 1, .nil => .nil
  | _, _, n + 1, .cons h t => .cons h (DenL.take n t)
theorem ev_sl_lst {ds : List D} {tl th : TO} {lo hi : Option Int} (h : EvD K te σ F (.lst ds)) (hl : EvO K tl σ F lo) (hh : EvO K th σ F hi) : EvD K (L2.tSl (rSlAny K) te tl th) σ F (.lst (cutD ds lo hi)) := fun H s Q q =>
  h H s _ fun x F1 H1 x1 d1 => (hl.up x1.f) H1 x1.s _ fun F2 H2 x2 => (hh.up (x1.f.trans x2.f)) H2 x2.s _ fun F3 H3 x3 => by
    cases d1 with
    | lst a l =>
      refine .inr (.inl ⟨_, _, rfl, SqL.of (x3.s _ _ (x3.f _ _ (x2.f _ _ a))), fun p hp => q _ _ _ (((x1.tr x2).tr x3).tr (Ext.new x3.s hp)) (.lst upd_same ?_)⟩)
      refine DenL.up (F := F3) ?_ (Ext.new x3.s hp).f
      unfold cutD cutV
      rw [l.length]
      exact ((l.up (x2.f.trans x3.f)).drop _).take _
end

/-! ### starting a pure def -/
section
variable {K : PySem.W.Frag} {vs : List V} {H : Hp} {Q : VK} {E : XK} {f : List D → Option D}
theorem spP1 (h : spP K 1 f vs H Q E) : ∃ F v x d, vs = [v] ∧ Same F H ∧ Den K F v x ∧ f [x] = some d ∧ ∀ v F' H', Ext [] F H F' H' → Den K F' v d → Q v H' := by
  obtain ⟨F, ds, d, S, l, hf, hn, k⟩ := h
  match ds, l, hn with
  | [x], .cons hv .nil, _ => exact ⟨F, _, x, d, rfl, S, hv, hf, k⟩
theorem spP2 (h : spP K 2 f vs H Q E) : ∃ F v w x y d, vs = [v, w] ∧ Same F H ∧ Den K F v x ∧ Den K F w y ∧ f [x, y] = some d ∧ ∀ v F' H', Ext [] F H F' H' → Den K F' v d → Q v H' := by
  obtain ⟨F, ds, d, S, l, hf, hn, k⟩ := h
  match ds, l, hn with
  | [x, y], .cons hv (.cons hw .nil), _ => exact ⟨F, _, _, x, y, d, rfl, S, hv, hw, hf, k⟩
theorem spP3 (h : spP K 3 f vs H Q E) : ∃ F v w u x y z d, vs = [v, w, u] ∧ Same F H ∧ Den K F v x ∧ Den K F w y ∧ Den K F u z ∧ f [x, y, z] = some d ∧ ∀ v F' H', Ext [] F H F' H' → Den K F' v d → Q v H' := by
  obtain ⟨F, ds, d, S, l, hf, hn, k⟩ := h
  match ds, l, hn with
  | [x, y, z], .cons hv (.cons hw (.cons hu .nil)), _ => exact ⟨F, _, _, _, x, y, z, d, rfl, S, hv, hw, hu, hf, k⟩
end

/-! ### the bag of numbers that are drawn from -/
/-- a bag at b, from which n more numbers may be drawn -/
def BagAt (F H : Hp) (b : Addr) (n : Nat) : Prop := ∃ x y z : Int, Own F H b (.lst [.int x, .int y, .int z]) ∧ 0 ≤ x ∧ 0 ≤ y ∧ y < 2305843009213693951 ∧ 0 ≤ z ∧ z + n ≤ 1000000000
section
variable {F H F1 H1 : Hp} {b : Addr} {n m : Nat}
theorem BagAt.ext0 (w : BagAt F H b n) (x : Ext [] F H F1 H1) : BagAt F1 H1 b n := by
  obtain ⟨p, q, r, o, h⟩ := w
  exact ⟨p, q, r, o.ext0 x, h⟩
theorem BagAt.less (w : BagAt F H b n) (h : m ≤ n) : BagAt F H b m := by
  obtain ⟨p, q, r, o, h1, h2, h3, h4, h5⟩ := w
  exact ⟨p, q, r, o, h1, h2, h3, h4, by omega⟩
theorem BagAt.ne (w : BagAt F H b n) : H b ≠ none := by
  obtain ⟨p, q, r, o, h⟩ := w
  rw [o.h]; simp
theorem BagAt.nf (w : BagAt F H b n) : F b = none := by
  obtain ⟨p, q, r, o, h⟩ := w
  exact o.f
end
/-- an expression that may draw c numbers from the bag at b: what R says of its worth -/
def EvB (K : PySem.W.Frag) (b : Addr) (c : Nat) (te : TE) (σ : L2.St) (F : Hp) (R : D → Prop) : Prop :=
  ∀ H n, Same F H → BagAt F H b (n + c) → ∀ Q : VK, (∀ v d F' H', Ext [b] F H F' H' → BagAt F' H' b n → R d → Den K F' v d → Q v H') → te σ H Q
def EvBA (K : PySem.W.Frag) (b : Addr) (c : Nat) (ta : TA) (σ : L2.St) (F : Hp) (R : List D → Prop) : Prop :=
  ∀ H n, Same F H → BagAt F H b (n + c) → ∀ Q : List V → Hp → Prop, (∀ vs ds F' H', Ext [b] F H F' H' → BagAt F' H' b n → R ds → DenL K F' vs ds → Q vs H') → ta σ H Q
def EvBI (K : PySem.W.Frag) (b : Addr) (c : Nat) (wi : TI) (σ : L2.St) (F : Hp) (R : List D → Prop) : Prop :=
  ∀ H n, Same F H → BagAt F H b (n + c) → ∀ Q : It → Hp → Prop, (∀ J ds F' H', Ext [b] F H F' H' → BagAt F' H' b n → R ds → WalkD K F' J ds → Q J H') → wi σ H Q
/-- a def that draws at most c numbers from the bag, its first argument -/
def spB (K : PySem.W.Frag) (m c : Nat) (pre : List D → Prop) (post : List D → D → Prop) : Sp := fun vs H Q _ => ∃ F b n ws ds, vs = .ref b :: ws ∧ Same F H ∧ BagAt F H b (n + c) ∧ DenL K F ws ds ∧ ds.length = m ∧ pre ds ∧
  ∀ v d F' H', Ext [b] F H F' H' → BagAt F' H' b n → post ds d → Den K F' v d → Q v H'
section
variable {K : PySem.W.Frag} {F F' H : Hp} {σ : L2.St} {ta tb te : TE} {d : D} {b : Addr} {c c1 c2 n : Nat} {R RA RB : D → Prop}
theorem Ext.uniB {F1 F2 H1 H2 : Hp} (e : Same F F1) (e1 : Same F1 H1) (fb : F1 b = none) (x : Ext [b] F H1 F2 H2) : Ext [b] F1 H1 (Nm.uni F1 F2) H2 := by
  have e1' : Same F1 H2 := fun a o h => x.h a o (by
    intro z
    have : a = b := by simpa using z
    rw [this, fb] at h; cases h) (e1 a o h)
  refine ⟨uni_l, x.h, uni_s e1' x.s, fun a h k => ?_, x.k⟩
  unfold Nm.uni
  rw [h]
  exact x.n a (e.free h) k
theorem Ext.sameB {F1 H1 F2 H2 : Hp} (e1 : Same F1 H1) (fb : F1 b = none) (x : Ext [b] F H1 F2 H2) : Same F1 H2 := fun a o h => x.h a o (by
    intro z
    have : a = b := by simpa using z
    rw [this, fb] at h; cases h) (e1 a o h)
theorem BagAt.down {G : Hp} (w : BagAt F' H b n) (e : Same F F') : BagAt F H b n := by
  obtain ⟨p, q, r, o, h⟩ := w
  exact ⟨p, q, r, ⟨e.free o.f, o.h⟩, h⟩
theorem BagAt.fz {G : Hp} (w : BagAt F H b n) (h : G b = none) : BagAt G H b n := by
  obtain ⟨p, q, r, o, k⟩ := w
  exact ⟨p, q, r, ⟨h, o.h⟩, k⟩
theorem EvB.up (h : EvB K b c te σ F R) (e : Same F F') : EvB K b c te σ F' R := fun H n s w Q q => h H n (e.trans s) (w.fz (e.free w.nf)) Q fun v d F2 H2 x w2 r dv => by
  have x' := Ext.uniB e s w.nf x
  exact q v d _ H2 x' (w2.fz (x'.n b w.nf w.ne)) r (dv.up (uni_r (Ext.sameB s w.nf x) x.s))
theorem EvBA.up {ta : TA} {R : List D → Prop} (h : EvBA K b c ta σ F R) (e : Same F F') : EvBA K b c ta σ F' R := fun H n s w Q q => h H n (e.trans s) (w.fz (e.free w.nf)) Q fun v d F2 H2 x w2 r dv => by
  have x' := Ext.uniB e s w.nf x
  exact q v d _ H2 x' (w2.fz (x'.n b w.nf w.ne)) r (dv.up (uni_r (Ext.sameB s w.nf x) x.s))
theorem eb_of (h : EvD K te σ F d) : EvB K b 0 te σ F (· = d) := fun H n s w Q q => h H s Q fun v F' H' x dv => q v d F' H' (x.wide (by simp)) (w.ext0 x) rfl dv
theorem eb_weak (h : EvB K b c te σ F R) (hc : c ≤ c1) (hR : ∀ d, R d → RA d) : EvB K b c1 te σ F RA := fun H n s w Q q => h H n s (w.less (by omega)) Q fun v d F' H' x w' r dv => q v d F' H' x w' (hR d r) dv
theorem eb_op {r : R2} (ha : EvB K b c1 ta σ F RA) (hb : EvB K b c2 tb σ F RB) (hr : ∀ x y, RA x → RB y → ∃ z, RvD K r x y z ∧ R z) : EvB K b (c1 + c2) (tOp r ta tb) σ F R := fun H n s w Q q =>
  ha H (n + c2) s (w.less (by omega)) _ fun x dx F1 H1 x1 w1 r1 d1 => (hb.up x1.f) H1 n x1.s w1 _ fun y dy F2 H2 x2 w2 r2 d2 => by
    obtain ⟨z, h1, h2⟩ := hr dx dy r1 r2
    exact h1 F2 H2 x y x2.s (d1.up x2.f) d2 Q fun v F3 H3 x3 d3 => q v z F3 H3 ((x1.trans x2).tl x3) (w2.ext0 x3) h2 d3
theorem ea_ofB {ta : TA} {ds : List D} (h : EvA K ta σ F ds) : EvBA K b 0 ta σ F (· = ds) := fun H n s w Q q => h H s Q fun v F' H' x dv => q v ds F' H' (x.wide (by simp)) (w.ext0 x) rfl dv
theorem eb_nil : EvBA K b 0 tNil σ F (· = []) := ea_ofB ea_nil
theorem eb_cons {tr : TA} {S T : List D → Prop} (ha : EvB K b c1 ta σ F RA) (hr : EvBA K b c2 tr σ F S) (hT : ∀ x xs, RA x → S xs → T (x :: xs)) : EvBA K b (c1 + c2) (tCons ta tr) σ F T := fun H n s w Q q =>
  ha H (n + c2) s (w.less (by omega)) _ fun x dx F1 H1 x1 w1 r1 d1 => (hr.up x1.f) H1 n x1.s w1 _ fun y dy F2 H2 x2 w2 r2 d2 =>
    q (x :: y) (dx :: dy) F2 H2 (x1.trans x2) w2 (hT dx dy r1 r2) (.cons (d1.up x2.f) d2)
theorem eb_tup {ta : TA} {S : List D → Prop} (h : EvBA K b c ta σ F S) (hl : ∀ ds, S ds → ds.length ≤ sizeLine) (hR : ∀ ds, S ds → R (.tup ds)) : EvB K b c (tTup ta) σ F R := fun H n s w Q q =>
  h H n s w _ fun vs ds F1 H1 x1 w1 r1 d1 => ⟨by rw [d1.length]; exact hl ds r1, fun p hp => q _ (.tup ds) _ _ (x1.tl (Ext.new x1.s hp)) (w1.ext0 (Ext.new x1.s hp)) (hR ds r1) (.tup (SqT.of upd_same) (d1.up (Ext.new (o := .tup vs) x1.s hp).f))⟩
theorem eb_lst {ta : TA} {S : List D → Prop} (h : EvBA K b c ta σ F S) (hl : ∀ ds, S ds → ds.length ≤ sizeLine) (hR : ∀ ds, S ds → R (.lst ds)) : EvB K b c (tLst ta) σ F R := fun H n s w Q q =>
  h H n s w _ fun vs ds F1 H1 x1 w1 r1 d1 => ⟨by rw [d1.length]; exact hl ds r1, fun p hp => q _ (.lst ds) _ _ (x1.tl (Ext.new x1.s hp)) (w1.ext0 (Ext.new x1.s hp)) (hR ds r1) (.lst upd_same (d1.up (Ext.new (o := .lst vs) x1.s hp).f))⟩
/-- a call that draws -/
theorem eb_call {r : List Sl} {i m : Nat} {tr : TA} {E : XK} {pre : List D → Prop} {post : List D → D → Prop} {S : List D → Prop} (EV : EnvD K F r σ) (hi : r[i]? = some (.v (.ref b))) (ha : EvBA K b c1 tr σ F S)
    (hS : ∀ ds, S ds → ds.length = m ∧ pre ds) (hR : ∀ ds d, S ds → post ds d → R d) : EvB K b (c1 + c2) (tCall (spB K m c2 pre post) [] E (tCons (tVar i) tr)) σ F R := fun H n s w Q q => by
  obtain ⟨o, h1, h2⟩ := EV.get hi
  have h2 : o = some (.ref b) := h2
  subst h2
  refine ⟨.ref b, h1, ha H (n + c2) s (w.less (by omega)) _ fun vs ds F1 H1 x1 w1 r1 d1 => ?_⟩
  obtain ⟨l1, l2⟩ := hS ds r1
  refine ⟨F1, b, n, vs, ds, by simp, x1.s, w1, d1, l1, l2, fun v d F2 H2 x2 w2 p2 d2 => q v d F2 H2 (x1.trans x2) w2 (hR ds d r1 p2) d2⟩
/-- what is walked, its making drawing -/
theorem ei_ofB {wi : TI} {ds : List D} (h : EvI K wi σ F ds) : EvBI K b 0 wi σ F (· = ds) := fun H n s w Q q => h H s Q fun J F' H' x W => q J ds F' H' (x.wide (by simp)) (w.ext0 x) rfl W
theorem ebi_rng1 {ta : TA} {S : List D → Prop} {T : List D → Prop} (h : EvBA K b c ta σ F S) (hS : ∀ ds, S ds → ∃ m : Nat, ds = [.int (m : Nat)] ∧ m ≤ 1000000 ∧ T ((List.range m).map fun i => .int (i : Nat))) : EvBI K b c (iRng1 ta) σ F T := fun H n s w Q q =>
  h H n s w _ fun vs ds F1 H1 x1 w1 r1 d1 => by
    obtain ⟨m, rfl, hm, t⟩ := hS ds r1
    have one : EvA K (fun _ H2 R => R vs H2) σ F1 [.int (m : Nat)] := fun H2 s2 R2 q2 => q2 vs F1 H2 (Ext.refl s2) d1
    have := ei_rng1 one (by omega) (by omega) H1 x1.s Q fun J F2 H2 x2 W => q J _ F2 H2 (x1.tl x2) (w1.ext0 x2) (by rw [Int.toNat_natCast] at *; exact t) (by rw [Int.toNat_natCast] at W; exact W)
    exact this
theorem ebi_seq_tup {S : List D → Prop} (h : EvB K b c te σ F R) (hS : ∀ d, R d → ∃ ds, d = .tup ds ∧ S ds) : EvBI K b c (iSeq K te) σ F S := fun H n s w Q q => .inr (.inl (h H n s w _ fun v d F1 H1 x1 w1 r1 d1 => by
  obtain ⟨ds, rfl, t⟩ := hS d r1
  have one : EvD K (fun _ H2 R => R v H2) σ F1 (.tup ds) := fun H2 s2 R2 q2 => q2 v F1 H2 (Ext.refl s2) d1
  cases d1 with
  | tup hh l =>
    rename_i a xs
    refine ⟨a, rfl, ⟨xs, same_t x1.s hh⟩, q _ ds F1 H1 x1 w1 t ⟨fun H => SqT K H a xs, YAt xs, ?_, fun H s => same_t s hh, fun i H x H' hi s y => ?_⟩⟩
    · rw [← l.length]; exact walk_tup
    · obtain ⟨rfl, y⟩ := y
      obtain ⟨d, h1, h2⟩ := l.getV y
      exact ⟨d, F1, h1, Ext.refl s, h2⟩))
/-- a comprehension whose elements draw: each as RE says -/
theorem eb_lc {r : List Sl} {j : Nat} {vs : List Nat} {wi : TI} {N ce ci : Nat} {I : List D → Prop} {RE : D → D → Prop} (E : EnvD K F r σ) (hi : EvBI K b ci wi σ F I) (hI : ∀ ds, I ds → ds.length ≤ N) (hN : N < sizeLine)
    (hw : ∀ (σ' : L2.St) (x : Option V), wipe ((wipe σ' vs).set j x) vs = wipe σ' vs)
    (he : ∀ ds d F' σ', I ds → d ∈ ds → Same F F' → EnvD K F' ((wipeR r vs).set j (.d d)) σ' → EvB K b ce te σ' F' (RE d))
    (hR : ∀ ds es, I ds → es.length = ds.length → (∀ (i : Nat) d e, ds[i]? = some d → es[i]? = some e → RE d e) → R (.lst es)) :
    EvB K b (ci + N * ce) (tLc wi (gName j) tYes te vs) σ F R := fun H n s w Q q => hi H (n + N * ce) s (w.less (by omega)) _ fun J items F1 H1 x1 w1 i1 W1 Dl hD => by
  obtain ⟨G, Y, wk, hg, hy⟩ := W1
  have hlen := hI items i1
  have bne : b ≠ Dl := fun z => by rw [z] at w1; exact w1.ne hD
  refine lc_it wk (fun i H' => ∃ F' acc es, Ext [b] F1 H1 F' H' ∧ BagAt F' H' b (n + (N - i) * ce) ∧ F' Dl = none ∧ H' Dl = some (.lst acc) ∧ DenL K F' acc es ∧ es.length = i ∧ ∀ (k : Nat) d e, k < i → items[k]? = some d → es[k]? = some e → RE d e) ?_ ?_ ?_ ?_
  · refine ⟨F1, [], [], (Ext.newM x1.s hD).wide (by simp), ?_, x1.s.free hD, upd_same, .nil, rfl, fun k d e hk => absurd hk (by omega)⟩
    exact (w1.ext0 (Ext.newM x1.s hD)).less (by simp)
  · rintro i H' _ ⟨F', acc, es, x, _⟩
    exact hg H' (x.f.trans x.s)
  · rintro i v H' H'' hlt ⟨F', acc, es, x, w', fD, eD, l, el, hre⟩ y
    obtain ⟨d, F2, h1, h2, h3⟩ := hy i H' v H'' hlt (x.f.trans x.s) y
    have hd : d ∈ items := List.mem_of_getElem? h1
    have x2 := Ext.uni x.f x.s h2
    have h3' : Den K (uni F' F2) v d := h3.up (uni_r (x.s.trans h2.same) h2.s)
    have fD2 : uni F' F2 Dl = none := x2.n Dl fD (by rw [eD]; simp)
    have eD2 : H'' Dl = some (.lst acc) := x2.same _ _ eD
    have sF : Same F (uni F' F2) := (x1.f.trans x.f).trans x2.f
    have E2 : EnvD K (uni F' F2) ((wipeR r vs).set j (.d d)) ((wipe σ vs).set j (some v)) := EnvD.set j ((EnvD.wipe E vs).up sF) ⟨v, rfl, h3'⟩
    refine ⟨hw σ _, ?_⟩
    unfold tYes
    dsimp only
    rw [if_pos rfl]
    have bud : (N - i) * ce = (N - (i + 1)) * ce + ce := by
      have : N - i = (N - (i + 1)) + 1 := by omega
      rw [this, Nat.add_mul, Nat.one_mul]
    refine he items d _ _ i1 hd sF E2 H'' (n + (N - (i + 1)) * ce) x2.s ((w'.ext0 x2).less (by omega)) _ fun z e F4 H4 x4 w4 r4 d4 => ?_
    have fD4 : F4 Dl = none := x4.n Dl fD2 (by rw [eD2]; simp)
    have eD4 : H4 Dl = some (.lst acc) := x4.h Dl _ (by simpa using bne.symm) eD2
    have xx : Ext [b] F1 H1 F4 H4 := (x.tl x2).trans x4
    refine ⟨acc, eD4, ?_, F4, acc ++ [z], es ++ [e], Ext.mutNew xx hD fD4, ?_, fD4, upd_same, (l.up (x2.f.trans x4.f)).append (.cons d4 .nil), by simp [el], fun k d' e' hk hd' he' => ?_⟩
    · rw [l.length, el]; omega
    · obtain ⟨p, q, rr, o, hh⟩ := w4
      exact ⟨p, q, rr, ⟨o.f, by rw [upd_ne bne]; exact o.h⟩, hh⟩
    · by_cases hk' : k < i
      · rw [List.getElem?_append_left (by omega)] at he'
        exact hre k d' e' hk' hd' he'
      · have : k = i := by omega
        subst this
        rw [h1] at hd'
        cases hd'
        rw [List.getElem?_append_right (by omega), el] at he'
        simp at he'
        subst he'
        exact r4
  · rintro H' ⟨F', acc, es, x, w', fD, eD, l, el, hre⟩
    have xf := Ext.freeze x hD eD fD
    refine q _ (.lst es) _ _ (x1.trans xf) (w'.less (by omega) |>.fz (by rw [upd_ne bne]; exact w'.nf)) (hR items es i1 el fun i d e hd he => hre i d e (by have := (List.getElem?_eq_some_iff.mp hd).1; omega) hd he) (.lst upd_same (l.up (same_new fD)))
theorem eb_join {sep : Str} (h1 : EvD K ta σ F (.str sep)) (h2 : EvB K b c tb σ F RA) (hR : ∀ d, RA d → ∃ ys : List Str, d = .lst (ys.map D.str) ∧ (ys.map (·.length)).sum + ys.length * sep.length ≤ 16777216 ∧ R (.str (Txt.join sep ys))) : EvB K b c (tM1 (rJoin K) ta tb) σ F R := fun H n s w Q q =>
  h1 H s _ fun x F1 H1 x1 d1 => by
    cases d1
    refine ⟨⟨_, rfl⟩, (h2.up x1.f) H1 n x1.s (w.ext0 x1) _ fun y d F2 H2 x2 w2 r2 d2 => ?_⟩
    obtain ⟨ys, rfl, hz, hr⟩ := hR d r2
    cases d2 with
    | lst a l =>
      rw [denL_strs l] at a
      exact ⟨sep, _, ys, rfl, rfl, .inl (SqL.of (x2.s _ _ a)), hz, q _ _ F2 H2 (x1.tr x2) w2 hr (.str _)⟩
/-! statements -/
variable {DE : Ends} {tz tu : TS} {r : List Sl} {j : Nat}
theorem q_asgB (S : Same F H) (E : EnvD K F r σ) (w : BagAt F H b (n + c)) (h : EvB K b c te σ F R) (k : ∀ d F' H' σ', R d → Ext [b] F H F' H' → BagAt F' H' b n → EnvD K F' (r.set j (.d d)) σ' → tz DE σ' H') : tSeq (tAsg te (gName j)) tz DE σ H :=
  h H n S w _ fun v d F' H' x w' rd dv => k d F' H' _ rd x w' (EnvD.set j (E.up x.f) ⟨v, rfl, dv⟩)
theorem s_retB (S : Same F H) (w : BagAt F H b (n + c)) (h : EvB K b c te σ F R) (k : ∀ v d F' H', R d → Ext [b] F H F' H' → BagAt F' H' b n → Den K F' v d → DE.rt v H') : tRet te DE σ H :=
  h H n S w _ fun v d F' H' x w' rd dv => k v d F' H' rd x w' dv
end
end Nm

set_option Elab.async false
set_option linter.all false
set_option maxRecDepth 100000
set_option maxHeartbeats 1000000
namespace Nm
open PySem PySem.Spec L2
/-! ### data as the library shows it -/
mutual
def toPy : D → PyData
  | .bl b => .bool b
  | .int i => .int i
  | .str x => .str x
  | .lst ds => .list (toPyL ds)
  | .tup ds => .tuple (toPyL ds)
  | .dic es => .dict (toPyK es)
  | _ => .none
def toPyL : List D → List PyData
  | [] => []
  | d :: ds => toPy d :: toPyL ds
def toPyK : List (Key × D) → List (PyData × PyData)
  | [] => []
  | (k, d) :: es => (kPy k, toPy d) :: toPyK es
end
mutual
/-- no dicts, no objects -/
def plain : D → Bool
  | .non => true
  | .bl _ => true
  | .int _ => true
  | .str _ => true
  | .lst ds => plainL ds
  | .tup ds => plainL ds
  | _ => false
def plainL : List D → Bool
  | [] => true
  | d :: ds => plain d && plainL ds
end
section
variable {K : PySem.W.Frag} {F H : Hp}
mutual
theorem den_dp (s : Same F H) : ∀ (d : D) {v : V}, Den K F v d → plain d = true → Dp K H v (toPy d)
  | .non, _, h, _ => by cases h; unfold toPy; exact .non
  | .bl _, _, h, _ => by cases h; unfold toPy; exact .bl _
  | .int _, _, h, _ => by cases h; unfold toPy; exact .int _
  | .str _, _, h, _ => by cases h; unfold toPy; exact .str _
  | .lst ds, _, h, p => by
    cases h with
    | lst a l => unfold toPy; unfold plain at p; exact .lst (SqL.of (s _ _ a)) (den_dpL s ds l p)
  | .tup ds, _, h, p => by
    cases h with
    | tup a l => unfold toPy; unfold plain at p; exact .tup (same_t s a) (den_dpL s ds l p)
  | .dic _, _, _, p => by unfold plain at p; cases p
  | .obj _ _, _, _, p => by unfold plain at p; cases p
  | .ty _, _, _, p => by unfold plain at p; cases p
  | .cls _, _, _, p => by unfold plain at p; cases p
theorem den_dpL (s : Same F H) : ∀ (ds : List D) {vs : List V}, DenL K F vs ds → plainL ds = true → DpAll K H vs (toPyL ds)
  | [], _, h, _ => by cases h; unfold toPyL; exact .nil
  | d :: ds, _, h, p => by
    cases h with
    | cons a l =>
      unfold plainL at p
      rw [Bool.and_eq_true] at p
      unfold toPyL
      exact .cons (den_dp s d a p.1) (den_dpL s ds l p.2)
end
/-- what repr gives -/
def shownD (d : D) : Str := (toPy d).shown
def flatD : D → Bool
  | .non => true
  | .bl _ => true
  | .int _ => true
  | .str _ => true
  | _ => false
/-- data that repr is asked of -/
def okR (d : D) : Bool := (plain d || (match d with | .dic es => es.all fun e => flatD e.2 | _ => false)) && (toPy d).showable && decide ((toPy d).depth ≤ 40) && decide ((shownD d).length ≤ 16777216)
theorem kvPy_den : ∀ {kvs : List (Key × V)} {es : List (Key × D)}, DenK K F kvs es → (es.all fun e => flatD e.2) = true → kvPy kvs = toPyK es ∧ (kvs.all fun p => flatV p.2) = true
  | _, _, .nil, _ => ⟨rfl, rfl⟩
  | _, (k, d) :: es, .cons h t, f => by
    rw [List.all_cons, Bool.and_eq_true] at f
    obtain ⟨h1, h2⟩ := kvPy_den t f.2
    rw [List.all_cons, h2]
    unfold kvPy at h1 ⊢
    unfold toPyK
    rw [List.map_cons, h1]
    cases h with
    | non => exact ⟨by unfold toPy; rfl, rfl⟩
    | bl b => exact ⟨by unfold toPy; rfl, rfl⟩
    | int b => exact ⟨by unfold toPy; rfl, rfl⟩
    | str b => exact ⟨by unfold toPy; rfl, rfl⟩
    | _ => exact Bool.noConfusion f.1
theorem rc_repr {d : D} (ok : okR d = true) : RcD K (rReprA K) [d] (.str (shownD d)) := fun F H xs s hx Q q => by
  unfold okR at ok
  simp only [Bool.and_eq_true, decide_eq_true_eq] at ok
  obtain ⟨⟨⟨h1, h2⟩, h3⟩, h4⟩ := ok
  cases hx with
  | cons h t =>
    cases t
    by_cases p : plain d = true
    · exact .inl ⟨_, toPy d, rfl, den_dp s d h p, h2, h3, by rw [sizeLine_eq]; exact h4, q _ F H (Ext.refl s) (.str _)⟩
    · rw [show plain d = false by simpa using p, Bool.false_or] at h1
      cases h with
      | dic a l =>
        rename_i ad kvs es
        obtain ⟨e1, e2⟩ := kvPy_den l h1
        have e : PyData.dict (kvPy kvs) = toPy (.dic es) := by rw [e1]; unfold toPy; rfl
        refine .inr ⟨_, kvs, rfl, .inr ⟨_, s _ _ a⟩, e2, by rw [e]; exact h2, by rw [e, sizeLine_eq]; exact h4, by rw [e]; exact h3, ?_⟩
        rw [e]
        exact q _ F H (Ext.refl s) (.str _)
      | _ => cases h1
/-- small texts can be shown -/
theorem okR_str {z : Str} (h : z.length ≤ 100000) (hc : ∀ c ∈ z.cps.toList, c < 1114112) : okR (.str z) = true := by
  have := PySem.StrLaws.reprText_len z (fun c m => Nat.lt_trans (hc c m) (by decide))
  unfold okR shownD plain toPy
  simp only [PyData.showable, PyData.depth, PyData.shown]
  have : (reprText z).length ≤ 16777216 := by omega
  simp [this]
theorem shown_list1 (p : PyData) : (PyData.list [p]).shown.length = p.shown.length + 2 := PyProof.Rows.shownLen_list1 p
theorem shown_tuple1 (p : PyData) : (PyData.tuple [p]).shown.length = p.shown.length + 3 := PyProof.Rows.shownLen_tuple1 p
theorem okR_one {z : Str} (h : z.length ≤ 100000) (hc : ∀ c ∈ z.cps.toList, c < 1114112) : okR (.lst [.str z]) = true ∧ okR (.tup [.str z]) = true := by
  have := PySem.StrLaws.reprText_len z (fun c m => Nat.lt_trans (hc c m) (by decide))
  have e1 : (PyData.list [.str z]).shown.length ≤ 16777216 := by rw [shown_list1]; simp only [PyData.shown]; omega
  have e2 : (PyData.tuple [.str z]).shown.length ≤ 16777216 := by rw [shown_tuple1]; simp only [PyData.shown]; omega
  constructor
  · unfold okR shownD
    simp only [plain, plainL, toPy, toPyL, PyData.showable, PyData.showableAll, PyData.depth, PyData.depthAll]
    simp [e1]
  · unfold okR shownD
    simp only [plain, plainL, toPy, toPyL, PyData.showable, PyData.showableAll, PyData.depth, PyData.depthAll]
    simp [e2]

/-! ### dicts that are written -/
variable {σ : L2.St} {te tk tv : TE}
/-! ### drawing -/
def preTake : List D → Prop
  | [.int m] => 0 < m ∧ m < 1073741824
  | _ => False
def postTake : List D → D → Prop
  | [.int m], .int r => 0 ≤ r ∧ r < m
  | _, _ => False
abbrev spTake (K : PySem.W.Frag) : Sp := spB K 1 1 preTake postTake
theorem spB_len {m c : Nat} {pre : List D → Prop} {post : List D → D → Prop} {vs : List V} {H : Hp} {Q : VK} {E : XK} (h : spB K m c pre post vs H Q E) : vs.length = m + 1 := by
  obtain ⟨F, b, n, ws, ds, rfl, _, _, l, e, _⟩ := h
  rw [List.length_cons, l.length, e]
def spBag (K : PySem.W.Frag) : Sp := fun vs H Q _ => ∃ (F : Hp) (a : Addr) (ns : List Int) (i : Int), vs = [.ref a, .int i] ∧ Same F H ∧ SqL K F a (ns.map V.int) ∧ 0 ≤ i ∧ i ≤ 1000 ∧ ∀ b H', H b = none → Ext [] F H F H' → BagAt F H' b 1000000000 → Q (.ref b) H'
theorem spBag_len {vs : List V} {H : Hp} {Q : VK} {E : XK} (h : spBag K vs H Q E) : vs.length = 2 := by
  obtain ⟨F, a, ns, i, rfl, _⟩ := h
  rfl
variable {r : List Sl} {i : Nat} {b : Addr} {E : XK} {tm ta : TE}
theorem eb_take {m : Nat} (EV : EnvD K F r σ) (hi : r[i]? = some (.v (.ref b))) (hm : EvD K tm σ F (.int (m : Nat))) (h0 : 0 < m) (h1 : m < 1073741824) :
    EvB K b 1 (tCall (spTake K) [] E (tCons (tVar i) (tCons tm tNil))) σ F (fun d => ∃ k : Nat, d = .int (k : Nat) ∧ k < m) := by
  have := eb_call (c1 := 0) (c2 := 1) (m := 1) (pre := preTake) (post := postTake) (E := E) (R := fun d => ∃ k : Nat, d = .int (k : Nat) ∧ k < m) EV hi (ea_ofB (ea_cons hm ea_nil)) (fun ds e => ?_) (fun ds d e p => ?_)
  · exact this
  · subst e; exact ⟨rfl, by omega, by omega⟩
  · subst e
    cases d with
    | int k =>
      obtain ⟨p1, p2⟩ := p
      exact ⟨k.toNat, by rw [Int.toNat_of_nonneg p1], by omega⟩
    | _ => exact p.elim
/-- a sign of a text, drawn -/
theorem eb_pick_str {z : Str} {m : Nat} (EV : EnvD K F r σ) (hi : r[i]? = some (.v (.ref b))) (ha : EvD K ta σ F (.str z)) (hm : EvD K tm σ F (.int (m : Nat))) (h0 : 0 < m) (hz : m = z.length) (hz2 : z.length ≤ 100000) :
    EvB K b 1 (tOp (rIxA K) ta (tCall (spTake K) [] E (tCons (tVar i) (tCons tm tNil)))) σ F (fun d => ∃ c, d = .str ⟨#[c]⟩ ∧ c ∈ z.cps.toList) := by
  refine eb_weak (eb_op (R := fun d => ∃ c, d = .str ⟨#[c]⟩ ∧ c ∈ z.cps.toList) (eb_of ha) (eb_take EV hi hm h0 (by omega)) ?_) (by decide) (fun _ h => h)
  rintro x y rfl ⟨k, rfl, hk⟩
  have hk' : k < z.cps.toList.length := by
    have : z.length = z.cps.toList.length := by simp [Str.length]
    omega
  exact ⟨_, rv_ix_str (by rw [sizeLine_eq]; omega) (atI_nat (List.getElem?_eq_getElem hk')), _, rfl, List.getElem_mem hk'⟩
theorem eb_pick_lst {ds : List D} {m : Nat} (EV : EnvD K F r σ) (hi : r[i]? = some (.v (.ref b))) (ha : EvD K ta σ F (.lst ds)) (hm : EvD K tm σ F (.int (m : Nat))) (h0 : 0 < m) (hz : m = ds.length) (hz2 : m ≤ 100000) :
    EvB K b 1 (tOp (rIxA K) ta (tCall (spTake K) [] E (tCons (tVar i) (tCons tm tNil)))) σ F (fun d => d ∈ ds) := by
  refine eb_weak (eb_op (R := fun d => d ∈ ds) (eb_of ha) (eb_take EV hi hm h0 (by omega)) ?_) (by decide) (fun _ h => h)
  rintro x y rfl ⟨k, rfl, hk⟩
  exact ⟨_, rv_ix_lst (atI_nat (List.getElem?_eq_getElem (by omega))), List.getElem_mem _⟩
/-! ### more -/
theorem ru_neg {i : Int} : RuD K (rU fun i => .int (-i)) (.int i) (.int (-i)) := fun F H x s hx Q q => by
  cases hx
  exact ⟨i, rfl, q _ F H (Ext.refl s) (.int _)⟩
theorem ev_chainU {ra rb : L2.R2} {tb tc : TE} {x y z : D} {p q : Bool} (ha : EvD K ta σ F x) (hb : EvD K tb σ F y) (hr : RvD K ra x y (.bl p)) (hc : EvD K tc σ F z) (hr' : RvD K rb y z (.bl q)) : EvD K (tChain ra rb ta tb tc) σ F (.bl (p && q)) :=
  ev_chain ha hb hr (fun _ => hc) fun _ => hr'
theorem Ext.forget {F1 H1 F2 H2 : Hp} (x : Ext [] F H F1 H1) (y : Ext [b] F1 H1 F2 H2) (hb : H b = none) : Ext [] F H F2 H2 :=
  Ext.of (x.f.trans y.f) (fun a o h => y.h a o (by
    intro z
    have : a = b := by simpa using z
    rw [this, hb] at h; cases h) (x.same a o h)) y.s (fun a h k => y.n a (x.n a h k) (x.k a k))
theorem joinL_nil : ∀ ps : List (List Nat), TL.joinL [] ps = ps.flatten
  | [] => rfl
  | [p] => by simp [TL.joinL]
  | p :: q :: r => by
    have := joinL_nil (q :: r)
    simp [TL.joinL, this]
theorem join_toList (ys : List Str) : (Txt.join Str.empty ys).cps.toList = (ys.map fun y => y.cps.toList).flatten := by
  have h := TL.tl_join Str.empty ys
  rw [← TL.join_eq] at h
  have e : TL.tl Str.empty = [] := rfl
  rw [e, joinL_nil] at h
  exact h
/-- a for whose body draws; what is walked may be drawn too -/
theorem s_forB {DE : Ends} {tb : TS} {I : List D → Prop} {wi : TI} {j n ci : Nat} (Pv : List D → Nat → Hp → Hp → List Sl → Prop) (S : Same F H) (EV : EnvD K F r σ) (w : BagAt F H b (n + ci)) (hi : EvBI K b ci wi σ F I)
    (h0 : ∀ items F' H', I items → Ext [b] F H F' H' → BagAt F' H' b n → Pv items 0 F' H' r)
    (hs : ∀ items i d F1 H1 F2 H2 r' σ' (N : L2.St → Hp → Prop), I items → items[i]? = some d → Ext [b] F H F1 H1 → Pv items i F1 H1 r' → Ext [] F1 H1 F2 H2 → EnvD K F2 (r'.set j (.d d)) σ' →
      (∀ F3 H3 r3 σ3, Ext [b] F2 H2 F3 H3 → EnvD K F3 r3 σ3 → Pv items (i + 1) F3 H3 r3 → N σ3 H3) → tb { DE with nx := N, ct := N, bk := DE.nx } σ' H2)
    (hd : ∀ items F' H' r' σ', I items → Ext [b] F H F' H' → EnvD K F' r' σ' → Pv items items.length F' H' r' → DE.nx σ' H') : tFor wi (gName j) tb DE σ H :=
  hi H n S w _ fun J items F1 H1 x1 w1 i1 W1 => by
    obtain ⟨G, Y, wk, hg, hy⟩ := W1
    refine ⟨fun i m σ3 H3 => m = items.length - i ∧ i ≤ items.length ∧ ∃ F3 r3, Ext [b] F H F3 H3 ∧ Same F1 F3 ∧ EnvD K F3 r3 σ3 ∧ Pv items i F3 H3 r3, ⟨items.length, by simp, Nat.zero_le _, F1, r, x1, Same.refl _, EV.up x1.f, h0 items F1 H1 i1 x1 w1⟩, ?_⟩
    rintro i m σ3 H3 ⟨rfl, hle, F3, r3, x, e, E3, p⟩
    have hG := hg H3 (e.trans x.s)
    by_cases hlt : i < items.length
    · refine .inr ⟨wk.goes i H3 hlt hG, fun σ' H' => ∃ F4 r4, Ext [b] F H F4 H' ∧ Same F1 F4 ∧ EnvD K F4 r4 σ' ∧ Pv items (i + 1) F4 H' r4, fun σ' H' q => ⟨items.length - (i + 1), by omega, rfl, hlt, q⟩, fun v H4 y => ?_⟩
      obtain ⟨d, F2, h1, h2, h3⟩ := hy i H3 v H4 hlt (e.trans x.s) (wk.yields i H3 v H4 hlt hG y)
      have x2 := Ext.uni e x.s h2
      have h3' : Den K (uni F3 F2) v d := h3.up (uni_r (x.s.trans h2.same) h2.s)
      exact hs items i d F3 H3 _ H4 r3 _ _ i1 h1 x p x2 (EnvD.set j (E3.up x2.f) ⟨v, rfl, h3'⟩) fun F5 H5 r5 σ5 x5 E5 p5 => ⟨F5, r5, (x.tl x2).trans x5, (e.trans x2.f).trans x5.f, E5, p5⟩
    · have ei : i = items.length := by omega
      subst ei
      exact .inl ⟨wk.stops H3 hG, hd items F3 H3 r3 σ3 i1 x E3 p⟩
/-- bag = _law_bag(script, at) -/
theorem q_bag {DE : Ends} {tz : TS} {a : Addr} {ns : List Int} {i0 j0 t m : Nat} (S : Same F H) (EV : EnvD K F r σ) (hi : r[i0]? = some (.v (.ref a))) (hj : r[j0]? = some (.d (.int (m : Nat)))) (hm : m ≤ 1000) (sq : SqL K F a (ns.map V.int))
    (k : ∀ b H' σ', H b = none → Ext [] F H F H' → BagAt F H' b 1000000000 → EnvD K F (r.set t (.v (.ref b))) σ' → tz DE σ' H') : tSeq (tAsg (tCall (spBag K) [] E (tCons (tVar i0) (tCons (tVar j0) tNil))) (gName t)) tz DE σ H := by
  obtain ⟨o, g1, g2⟩ := EV.get hi
  have g2 : o = some (.ref a) := g2
  subst g2
  obtain ⟨o, g3, v, g4, g5⟩ := EV.get hj
  subst g4
  cases g5
  exact ⟨.ref a, g1, .int (m : Nat), g3, F, a, ns, m, rfl, S, sq, by omega, by omega, fun b H' hb x w => k b H' _ hb x w (EnvD.set t EV rfl)⟩
end
end Nm

set_option linter.all false
set_option maxHeartbeats 1000000
namespace Nm
/-! ### tables by plain lists: folds from codes to codes, marks from codes to classes -/
abbrev Fo := List (Nat × List Nat)
abbrev Ma := List (Nat × Nat)
def lk {α : Type} (m : List (Nat × α)) (c : Nat) : Option α := (m.find? fun p => decide (p.1 = c)).map (·.2)
def foldS (fo : Fo) (c : Nat) : List Nat := (lk fo c).getD [c]
def folded (fo : Fo) (l : List Nat) : List Nat := (l.map (foldS fo)).flatten
def ofCls (ma : Ma) (n : Nat) (c : Nat) : Bool := decide (lk ma c = some n)
def inOrd (ma : Ma) (run : List Nat) : List Nat := run.filter (ofCls ma 1) ++ (run.filter (ofCls ma 2) ++ run.filter (ofCls ma 3))
def runs (ma : Ma) : List Nat → List Nat → List Nat
  | r, [] => inOrd ma r
  | r, c :: l => if (lk ma c).isSome then runs ma (r ++ [c]) l else inOrd ma r ++ (c :: runs ma [] l)
def key (fo : Fo) (ma : Ma) (l : List Nat) : List Nat := runs ma [] (folded fo l)
/-- classes are 1, 2, 3 -/
def okMa (ma : Ma) : Prop := ∀ c n, lk ma c = some n → n = 1 ∨ n = 2 ∨ n = 3
/-- a and b stand the wrong way about -/
def wrong (ma : Ma) (a b : Nat) : Bool := match lk ma a, lk ma b with
  | some m, some n => decide (n < m)
  | _, _ => false

theorem runs_congr {ma : Ma} : ∀ (l r1 r2 : List Nat), (∀ s, inOrd ma (r1 ++ s) = inOrd ma (r2 ++ s)) → runs ma r1 l = runs ma r2 l
  | [], r1, r2, h => by unfold runs; simpa using h []
  | c :: l, r1, r2, h => by
    unfold runs
    split
    · exact runs_congr l _ _ fun s => by simpa [List.append_assoc] using h (c :: s)
    · rw [show inOrd ma r1 = inOrd ma r2 by simpa using h []]
theorem inOrd_swap {ma : Ma} {a b : Nat} (h : lk ma a ≠ lk ma b) (r s : List Nat) : inOrd ma (r ++ a :: b :: s) = inOrd ma (r ++ b :: a :: s) := by
  have f : ∀ n, (r ++ a :: b :: s).filter (ofCls ma n) = (r ++ b :: a :: s).filter (ofCls ma n) := fun n => by
    rw [List.filter_append, List.filter_append]
    congr 1
    by_cases ha : ofCls ma n a = true
    · have hb : ofCls ma n b = false := by
        unfold ofCls at ha ⊢
        have ha := of_decide_eq_true ha
        exact decide_eq_false fun z => h (ha.trans z.symm)
      simp [List.filter_cons, ha, hb]
    · simp [List.filter_cons, ha]
  unfold inOrd
  rw [f 1, f 2, f 3]
/-- two neighbouring marks of unlike classes change places: the same runs -/
theorem runs_swap {ma : Ma} {a b : Nat} (ha : (lk ma a).isSome = true) (hb : (lk ma b).isSome = true) (h : lk ma a ≠ lk ma b) (y : List Nat) : ∀ (x r : List Nat), runs ma r (x ++ a :: b :: y) = runs ma r (x ++ b :: a :: y)
  | [], r => by
    show runs ma r (a :: b :: y) = runs ma r (b :: a :: y)
    simp only [runs, ha, hb, if_true]
    refine runs_congr y _ _ fun s => ?_
    simpa [List.append_assoc] using inOrd_swap h r s
  | c :: x, r => by
    show runs ma r (c :: (x ++ a :: b :: y)) = runs ma r (c :: (x ++ b :: a :: y))
    unfold runs
    split
    · exact runs_swap ha hb h y x _
    · rw [runs_swap ha hb h y x []]
theorem wrong_ne {ma : Ma} {a b : Nat} (h : wrong ma a b = true) : (lk ma a).isSome = true ∧ (lk ma b).isSome = true ∧ lk ma a ≠ lk ma b := by
  unfold wrong at h
  cases h1 : lk ma a with
  | none => rw [h1] at h; cases h
  | some m =>
    cases h2 : lk ma b with
    | none => rw [h1, h2] at h; cases h
    | some n =>
      rw [h1, h2] at h
      have h := of_decide_eq_true h
      exact ⟨rfl, rfl, fun z => by cases z; omega⟩
/-- no neighbours stand the wrong way about -/
def calmL (ma : Ma) : List Nat → Bool
  | a :: b :: l => !wrong ma a b && calmL ma (b :: l)
  | _ => true
theorem calm_app {ma : Ma} : ∀ (x y : List Nat), calmL ma (x ++ y) = true → calmL ma x = true ∧ calmL ma y = true
  | [], y, h => ⟨rfl, h⟩
  | [a], y, h => by
    refine ⟨rfl, ?_⟩
    cases y with
    | nil => rfl
    | cons b y => simp only [List.singleton_append, calmL, Bool.and_eq_true] at h; exact h.2
  | a :: b :: x, y, h => by
    simp only [List.cons_append, calmL, Bool.and_eq_true] at h ⊢
    obtain ⟨h1, h2⟩ := calm_app (b :: x) y h.2
    exact ⟨⟨h.1, h1⟩, h2⟩
/-- a calm run of marks is in order already -/
theorem inOrd_calm {ma : Ma} (ok : okMa ma) : ∀ (r : List Nat), (∀ c ∈ r, (lk ma c).isSome = true) → calmL ma r = true → inOrd ma r = r := by
  -- by classes that do not fall
  have mono : ∀ (r : List Nat) (a : Nat), (∀ c ∈ a :: r, (lk ma c).isSome = true) → calmL ma (a :: r) = true → ∀ c ∈ r, ∀ m n, lk ma a = some m → lk ma c = some n → m ≤ n := by
    intro r
    induction r with
    | nil => intro a _ _ c hc; exact nomatch hc
    | cons b r ih =>
      intro a hm hcalm c hc m n h1 h2
      simp only [calmL, Bool.and_eq_true, Bool.not_eq_true'] at hcalm
      obtain ⟨k, hk⟩ := Option.isSome_iff_exists.mp (hm b (by simp))
      have hab : m ≤ k := by
        have := hcalm.1
        unfold wrong at this
        rw [h1, hk] at this
        have := of_decide_eq_false this
        omega
      rcases List.mem_cons.mp hc with rfl | hc
      · rw [hk] at h2; cases h2; exact hab
      · exact Nat.le_trans hab (ih b (fun d hd => hm d (List.mem_cons_of_mem _ hd)) hcalm.2 c hc k n hk h2)
  intro r
  induction r with
  | nil => intro _ _; rfl
  | cons a r ih =>
    intro hm hcalm
    have tail := ih (fun c hc => hm c (List.mem_cons_of_mem _ hc)) (by
      cases r with
      | nil => rfl
      | cons b r => simp only [calmL, Bool.and_eq_true] at hcalm; exact hcalm.2)
    have hm' := mono r a hm hcalm
    obtain ⟨k, hk⟩ := Option.isSome_iff_exists.mp (hm a (by simp))
    have none_of : ∀ n, n < k → r.filter (ofCls ma n) = [] := fun n hn => by
      rw [List.filter_eq_nil_iff]
      intro c hc h
      have := hm' c hc k n hk (of_decide_eq_true h)
      omega
    have at_a : ∀ n, ofCls ma n a = decide (k = n) := fun n => by
      unfold ofCls
      rw [hk]
      by_cases e : k = n
      · subst e; simp
      · rw [decide_eq_false e]; exact decide_eq_false fun z => e (Option.some.inj z)
    unfold inOrd at tail ⊢
    simp only [List.filter_cons, at_a]
    rcases ok a k hk with rfl | rfl | rfl
    · simp [tail]
    · have n1 := none_of 1 (by omega)
      rw [n1] at tail
      simp [n1]
      simpa using tail
    · have n1 := none_of 1 (by omega)
      have n2 := none_of 2 (by omega)
      rw [n1, n2] at tail
      simp [n1, n2]
      simpa using tail
theorem runs_calm {ma : Ma} (ok : okMa ma) : ∀ (l r : List Nat), (∀ c ∈ r, (lk ma c).isSome = true) → calmL ma (r ++ l) = true → runs ma r l = r ++ l
  | [], r, hm, h => by unfold runs; rw [List.append_nil] at h ⊢; exact inOrd_calm ok r hm h
  | c :: l, r, hm, h => by
    unfold runs
    split
    · rename_i hc
      have := runs_calm ok l (r ++ [c]) (fun d hd => by
        rcases List.mem_append.mp hd with hd | hd
        · exact hm d hd
        · have : d = c := by simpa using hd
          rw [this]; exact hc) (by simpa [List.append_assoc] using h)
      rw [this]; simp
    · have h2 := (calm_app r (c :: l) h)
      have h3 := (calm_app [c] l h2.2).2
      rw [inOrd_calm ok r hm h2.1, runs_calm ok l [] (fun _ h => nomatch h) h3]; rfl
/-- what is not a mark parts calm texts -/
theorem calm_cons {ma : Ma} {c : Nat} (hc : lk ma c = none) : ∀ (l : List Nat), calmL ma l = true → calmL ma (c :: l) = true
  | [], _ => rfl
  | b :: l, h => by
    simp only [calmL, Bool.and_eq_true, Bool.not_eq_true']
    refine ⟨?_, h⟩
    unfold wrong; rw [hc]
theorem calm_mid {ma : Ma} {c : Nat} (hc : lk ma c = none) : ∀ (x l : List Nat), calmL ma x = true → calmL ma l = true → calmL ma (x ++ c :: l) = true
  | [], l, _, h => calm_cons hc l h
  | [a], l, _, h => by
    simp only [List.singleton_append, calmL, Bool.and_eq_true, Bool.not_eq_true']
    refine ⟨?_, calm_cons hc l h⟩
    unfold wrong; rw [hc]; cases lk ma a <;> rfl
  | a :: b :: x, l, hx, h => by
    simp only [List.cons_append, calmL, Bool.and_eq_true] at hx ⊢
    exact ⟨hx.1, calm_mid hc (b :: x) l hx.2 h⟩
theorem calm_const {ma : Ma} {n : Nat} : ∀ (l : List Nat), (∀ c ∈ l, lk ma c = some n) → calmL ma l = true
  | [], _ => rfl
  | [a], _ => rfl
  | a :: b :: l, h => by
    simp only [calmL, Bool.and_eq_true, Bool.not_eq_true']
    refine ⟨?_, calm_const (b :: l) fun c hc => h c (List.mem_cons_of_mem _ hc)⟩
    unfold wrong
    rw [h a (by simp), h b (by simp)]
    simp
theorem calm_two {ma : Ma} : ∀ (x y : List Nat), calmL ma x = true → calmL ma y = true → (∀ a ∈ x, ∀ b ∈ y, wrong ma a b = false) → calmL ma (x ++ y) = true
  | [], y, _, h, _ => h
  | [a], [], _, _, _ => rfl
  | [a], b :: y, _, h, w => by
    simp only [List.singleton_append, calmL, Bool.and_eq_true, Bool.not_eq_true']
    exact ⟨w a (by simp) b (by simp), h⟩
  | a :: b :: x, y, hx, h, w => by
    simp only [List.cons_append, calmL, Bool.and_eq_true] at hx ⊢
    exact ⟨hx.1, calm_two (b :: x) y hx.2 h fun c hc => w c (List.mem_cons_of_mem _ hc)⟩
theorem calm_inOrd (ma : Ma) (r : List Nat) : calmL ma (inOrd ma r) = true := by
  have mem : ∀ n c, c ∈ r.filter (ofCls ma n) → lk ma c = some n := fun n c h => of_decide_eq_true (List.mem_filter.mp h).2
  have w : ∀ a b m n, lk ma a = some m → lk ma b = some n → m ≤ n → wrong ma a b = false := fun a b m n h1 h2 h3 => by
    unfold wrong; rw [h1, h2]; exact decide_eq_false (by omega)
  unfold inOrd
  refine calm_two _ _ (calm_const (n := 1) _ (mem 1)) (calm_two _ _ (calm_const (n := 2) _ (mem 2)) (calm_const (n := 3) _ (mem 3)) fun a ha b hb => w a b 2 3 (mem 2 a ha) (mem 3 b hb) (by omega)) fun a ha b hb => ?_
  rcases List.mem_append.mp hb with hb | hb
  · exact w a b 1 2 (mem 1 a ha) (mem 2 b hb) (by omega)
  · exact w a b 1 3 (mem 1 a ha) (mem 3 b hb) (by omega)
theorem calm_runs (ma : Ma) : ∀ (l r : List Nat), calmL ma (runs ma r l) = true
  | [], r => by unfold runs; exact calm_inOrd ma r
  | c :: l, r => by
    unfold runs
    split
    · exact calm_runs ma l _
    · rename_i h
      have hc : lk ma c = none := by simpa using h
      exact calm_mid hc _ _ (calm_inOrd ma r) (calm_runs ma l [])
/-- the key of a key -/
theorem runs_runs {ma : Ma} (ok : okMa ma) (l : List Nat) : runs ma [] (runs ma [] l) = runs ma [] l :=
  runs_calm ok _ [] (fun _ h => nomatch h) (calm_runs ma l [])
theorem inOrd_mem {ma : Ma} {r : List Nat} {c : Nat} (h : c ∈ inOrd ma r) : c ∈ r := by
  unfold inOrd at h
  simp only [List.mem_append, List.mem_filter] at h
  rcases h with h | h | h <;> exact h.1
theorem runs_mem {ma : Ma} : ∀ (l r : List Nat) {c : Nat}, c ∈ runs ma r l → c ∈ r ∨ c ∈ l
  | [], r, c, h => by unfold runs at h; exact .inl (inOrd_mem h)
  | d :: l, r, c, h => by
    unfold runs at h
    split at h
    · rcases runs_mem l _ h with h | h
      · rcases List.mem_append.mp h with h | h
        · exact .inl h
        · exact .inr (by simp at h; simp [h])
      · exact .inr (List.mem_cons_of_mem _ h)
    · rcases List.mem_append.mp h with h | h
      · exact .inl (inOrd_mem h)
      · rcases List.mem_cons.mp h with h | h
        · exact .inr (by simp [h])
        · rcases runs_mem l [] h with h | h
          · exact nomatch h
          · exact .inr (List.mem_cons_of_mem _ h)
theorem inOrd_len {ma : Ma} (ok : okMa ma) : ∀ (r : List Nat), (∀ c ∈ r, (lk ma c).isSome = true) → (inOrd ma r).length = r.length
  | [], _ => rfl
  | c :: r, h => by
    have ih := inOrd_len ok r fun d hd => h d (List.mem_cons_of_mem _ hd)
    obtain ⟨k, hk⟩ := Option.isSome_iff_exists.mp (h c (by simp))
    have at_c : ∀ n, ofCls ma n c = decide (k = n) := fun n => by
      unfold ofCls
      rw [hk]
      by_cases e : k = n
      · subst e; simp
      · rw [decide_eq_false e]; exact decide_eq_false fun z => e (Option.some.inj z)
    unfold inOrd at ih ⊢
    simp only [List.filter_cons, at_c, List.length_append] at ih ⊢
    rcases ok c k hk with rfl | rfl | rfl <;> simp <;> omega
theorem runs_len {ma : Ma} (ok : okMa ma) : ∀ (l r : List Nat), (∀ c ∈ r, (lk ma c).isSome = true) → (runs ma r l).length = r.length + l.length
  | [], r, h => by unfold runs; rw [inOrd_len ok r h]; rfl
  | c :: l, r, h => by
    unfold runs
    split
    · rename_i hc
      rw [runs_len ok l _ (fun d hd => by
        rcases List.mem_append.mp hd with hd | hd
        · exact h d hd
        · have : d = c := by simpa using hd
          rw [this]; exact hc)]
      simp; omega
    · rw [List.length_append, List.length_cons, inOrd_len ok r h, runs_len ok l [] (fun _ h => nomatch h)]
      simp
/-! ### tables that can stand -/
structure okTab (sg : Nat → Bool) (fo : Fo) (ma : Ma) : Prop where
  fn : (fo.map (·.1)).Nodup
  mn : (ma.map (·.1)).Nodup
  fs : ∀ p ∈ fo, sg p.1 = true
  fw : ∀ p ∈ fo, 1 ≤ p.2.length ∧ p.2.length ≤ 3 ∧ ∀ c ∈ p.2, sg c = true ∧ lk fo c = none
  ms : ∀ p ∈ ma, sg p.1 = true ∧ (p.2 = 1 ∨ p.2 = 2 ∨ p.2 = 3) ∧ lk fo p.1 = none
  fl : fo.length ≤ 40
  ml : ma.length ≤ 8
theorem lk_mem {α : Type} {m : List (Nat × α)} {c : Nat} {v : α} (h : lk m c = some v) : (c, v) ∈ m := by
  unfold lk at h
  obtain ⟨p, h1, h2⟩ := Option.map_eq_some_iff.mp h
  have := List.find?_some h1
  have : p.1 = c := of_decide_eq_true this
  subst h2
  rw [← this]
  exact List.mem_of_find?_eq_some h1
theorem lk_none {α : Type} {m : List (Nat × α)} {c : Nat} : lk m c = none ↔ c ∉ m.map (·.1) := by
  unfold lk
  rw [Option.map_eq_none_iff, List.find?_eq_none]
  constructor
  · intro h hc
    obtain ⟨p, hp, e⟩ := List.mem_map.mp hc
    exact h p hp (decide_eq_true e)
  · intro h p hp e
    exact h (List.mem_map.mpr ⟨p, hp, of_decide_eq_true e⟩)
section
variable {sg : Nat → Bool} {fo : Fo} {ma : Ma}
theorem okTab.okMa (t : okTab sg fo ma) : okMa ma := fun c n h => (t.ms _ (lk_mem h)).2.1
theorem foldS_none {c : Nat} (h : lk fo c = none) : foldS fo c = [c] := by unfold foldS; rw [h]; rfl
theorem foldS_some {c : Nat} {w : List Nat} (h : lk fo c = some w) : foldS fo c = w := by unfold foldS; rw [h]; rfl
theorem foldS_ok (t : okTab sg fo ma) {c : Nat} (hc : sg c = true) : 1 ≤ (foldS fo c).length ∧ (foldS fo c).length ≤ 3 ∧ ∀ d ∈ foldS fo c, sg d = true ∧ lk fo d = none := by
  cases h : lk fo c with
  | none => rw [foldS_none h]; exact ⟨by simp, by simp, fun d hd => by simp at hd; subst hd; exact ⟨hc, h⟩⟩
  | some w => rw [foldS_some h]; exact t.fw _ (lk_mem h)
theorem folded_mem (t : okTab sg fo ma) {l : List Nat} (hl : ∀ c ∈ l, sg c = true) : ∀ d ∈ folded fo l, sg d = true ∧ lk fo d = none := fun d hd => by
  unfold folded at hd
  obtain ⟨w, hw, hd⟩ := List.mem_flatten.mp hd
  obtain ⟨c, hc, rfl⟩ := List.mem_map.mp hw
  exact (foldS_ok t (hl c hc)).2.2 d hd
theorem folded_len (t : okTab sg fo ma) : ∀ {l : List Nat}, (∀ c ∈ l, sg c = true) → l.length ≤ (folded fo l).length ∧ (folded fo l).length ≤ 3 * l.length
  | [], _ => ⟨Nat.le_refl _, Nat.le_refl _⟩
  | c :: l, h => by
    obtain ⟨h1, h2⟩ := folded_len t (l := l) fun d hd => h d (List.mem_cons_of_mem _ hd)
    have h3 := foldS_ok t (h c (by simp))
    unfold folded at h1 h2 ⊢
    rw [List.map_cons, List.flatten_cons, List.length_append, List.length_cons]
    omega
theorem folded_id : ∀ {l : List Nat}, (∀ c ∈ l, lk fo c = none) → folded fo l = l
  | [], _ => rfl
  | c :: l, h => by
    have := folded_id (l := l) fun d hd => h d (List.mem_cons_of_mem _ hd)
    unfold folded at this ⊢
    rw [List.map_cons, List.flatten_cons, this, foldS_none (h c (by simp))]; rfl
theorem key_mem (t : okTab sg fo ma) {l : List Nat} (hl : ∀ c ∈ l, sg c = true) : ∀ d ∈ key fo ma l, sg d = true ∧ lk fo d = none := fun d hd => by
  rcases runs_mem _ _ hd with h | h
  · exact nomatch h
  · exact folded_mem t hl d h
theorem key_len (t : okTab sg fo ma) {l : List Nat} (hl : ∀ c ∈ l, sg c = true) : l.length ≤ (key fo ma l).length ∧ (key fo ma l).length ≤ 3 * l.length := by
  unfold key
  rw [runs_len t.okMa _ [] (fun _ h => nomatch h)]
  simpa using folded_len t hl
theorem key_key (t : okTab sg fo ma) {l : List Nat} (hl : ∀ c ∈ l, sg c = true) : key fo ma (key fo ma l) = key fo ma l := by
  have h := folded_id (fo := fo) (l := key fo ma l) fun c hc => (key_mem t hl c hc).2
  show runs ma [] (folded fo (key fo ma l)) = key fo ma l
  rw [h]
  exact runs_runs t.okMa _
end
/-! ### putting neighbours right, one after the other -/
def inv (ma : Ma) : List Nat → Nat
  | [] => 0
  | a :: l => (l.filter (wrong ma a)).length + inv ma l
theorem inv_swap {ma : Ma} {a b : Nat} (h : wrong ma a b = true) (hn : wrong ma b a = false) (y : List Nat) : ∀ x : List Nat, inv ma (x ++ b :: a :: y) + 1 = inv ma (x ++ a :: b :: y)
  | [] => by
    show inv ma (b :: a :: y) + 1 = inv ma (a :: b :: y)
    simp only [inv, List.filter_cons, h, hn, if_true, List.length_cons]
    simp; omega
  | c :: x => by
    show inv ma (c :: (x ++ b :: a :: y)) + 1 = inv ma (c :: (x ++ a :: b :: y))
    have ih := inv_swap h hn y x
    have e : ((x ++ b :: a :: y).filter (wrong ma c)).length = ((x ++ a :: b :: y).filter (wrong ma c)).length := by
      simp only [List.filter_append, List.length_append, List.filter_cons]
      by_cases h1 : wrong ma c a = true <;> by_cases h2 : wrong ma c b = true <;> simp [h1, h2]
    simp only [inv]
    omega
theorem wrong_anti {ma : Ma} {a b : Nat} (h : wrong ma a b = true) : wrong ma b a = false := by
  unfold wrong at h ⊢
  cases h1 : lk ma a with
  | none => rw [h1] at h; cases h
  | some m =>
    cases h2 : lk ma b with
    | none => rfl
    | some n =>
      rw [h1, h2] at h
      have h := of_decide_eq_true h
      exact decide_eq_false (by omega)
end Nm

set_option Elab.async false
set_option linter.all false
set_option maxRecDepth 100000
set_option maxHeartbeats 1000000
namespace Nm
open PySem PySem.Spec L2
/-! ### texts in order -/
def leS (a b : Str) : Prop := ¬ b.cps.toList < a.cps.toList
instance (a b : Str) : Decidable (leS a b) := by unfold leS; infer_instance
theorem leS_refl (a : Str) : leS a a := by unfold leS; exact List.lt_irrefl _
theorem leS_trans {a b c : Str} (h1 : leS a b) (h2 : leS b c) : leS a c := by
  have h : a.cps.toList ≤ c.cps.toList := List.le_trans (l₁ := a.cps.toList) (l₂ := b.cps.toList) h1 h2
  exact h
theorem leS_total (a b : Str) : leS a b ∨ leS b a := by
  have h : a.cps.toList ≤ b.cps.toList ∨ b.cps.toList ≤ a.cps.toList := List.le_total _ _
  exact h
theorem leS_antisymm {a b : Str} (h1 : leS a b) (h2 : leS b a) : a = b := by
  have h : a.cps.toList = b.cps.toList := List.le_antisymm (show a.cps.toList ≤ b.cps.toList from h1) (show b.cps.toList ≤ a.cps.toList from h2)
  exact str_ext h
theorem sort_unique : ∀ {xs ys : List Str}, xs.Perm ys → xs.Pairwise leS → ys.Pairwise leS → xs = ys
  | [], ys, p, _, _ => (List.nil_perm.mp p).symm ▸ rfl
  | x :: xs, ys, p, h1, h2 => by
    have hx : x ∈ ys := p.subset List.mem_cons_self
    match ys, h2, p, hx with
    | y :: ys, h2, p, hx =>
      have hy : y ∈ x :: xs := p.symm.subset List.mem_cons_self
      rw [List.pairwise_cons] at h1 h2
      have e : x = y := by
        rcases List.mem_cons.mp hx with e | hx
        · exact e
        · rcases List.mem_cons.mp hy with e | hy
          · exact e.symm
          · exact leS_antisymm (h1.1 y hy) (h2.1 x hx)
      subst e
      rw [sort_unique (List.Perm.cons_inv p) h1.2 h2.2]
def sortS (ks : List Str) : List Str := ks.mergeSort fun a b => decide (leS a b)
theorem sortS_perm (ks : List Str) : (sortS ks).Perm ks := List.mergeSort_perm _ _
theorem sortS_pair (ks : List Str) : (sortS ks).Pairwise leS := by
  have h := List.pairwise_mergeSort (le := fun a b => decide (leS a b)) (fun a b c h1 h2 => decide_eq_true (leS_trans (of_decide_eq_true h1) (of_decide_eq_true h2))) (fun a b => by
    rcases leS_total a b with h | h
    · simp [h]
    · simp [h]) ks
  exact h.imp fun h => of_decide_eq_true h
theorem rising_pair : ∀ (l : List Str) (p : Str), PyProof.Rows.risingS p l = true → (p :: l).Pairwise leS
  | [], p, _ => by simp
  | x :: r, p, h => by
    simp only [PyProof.Rows.risingS, Bool.and_eq_true, Bool.not_eq_true'] at h
    have ih := rising_pair r x h.2
    have px : leS p x := by
      have := h.1
      rw [PyProof.Rows.ltCps_eq] at this
      exact of_decide_eq_false this
    rw [List.pairwise_cons]
    refine ⟨fun y hy => ?_, ih⟩
    rcases List.mem_cons.mp hy with rfl | hy
    · exact px
    · exact leS_trans px ((List.pairwise_cons.mp ih).1 y hy)
theorem sortedS_is {ys ks : List Str} (p : ys.Perm ks) (h : PyProof.Rows.sortedS ys = true) : ys = sortS ks := by
  have hp : ys.Pairwise leS := by
    match ys, h with
    | [], _ => exact List.Pairwise.nil
    | x :: r, h => exact rising_pair r x h
  exact sort_unique (p.trans (sortS_perm ks).symm) hp (sortS_pair ks)

section
variable {K : PySem.W.Frag} {F H : Hp} {σ : L2.St} {ta tb tc te : TE} {d : D}
/-! ### keys and dicts -/
def kD : Key → D
  | .inl i => .int i
  | .inr x => .str x
def valD (es : List (Key × D)) (k : Key) : Option D := (es.find? fun kv => decide (kv.1 = k)).map (·.2)
theorem DenK.val : ∀ {kvs : List (Key × V)} {es : List (Key × D)} (k : Key), DenK K F kvs es → (∃ v d, valV kvs k = some v ∧ valD es k = some d ∧ Den K F v d) ∨ (valV kvs k = none ∧ valD es k = none)
  | _, _, k, .nil => .inr ⟨rfl, rfl⟩
  | (k0, v) :: kvs, (_, d) :: es, k, .cons h t => by
    by_cases e : k0 = k
    · refine .inl ⟨v, d, ?_, ?_, h⟩
      · unfold valV; simp [List.find?_cons, e]
      · unfold valD; simp [List.find?_cons, e]
    · have h1 : valV ((k0, v) :: kvs) k = valV kvs k := by unfold valV; simp [List.find?_cons, e]
      have h2 : valD ((k0, d) :: es) k = valD es k := by unfold valD; simp [List.find?_cons, e]
      rw [h1, h2]
      exact DenK.val k t
theorem DenK.keys : ∀ {kvs : List (Key × V)} {es : List (Key × D)}, DenK K F kvs es → kvs.map (·.1) = es.map (·.1)
  | _, _, .nil => rfl
  | _, _, .cons _ t => by rw [List.map_cons, List.map_cons, t.keys]
theorem DenK.length {kvs : List (Key × V)} {es : List (Key × D)} (h : DenK K F kvs es) : kvs.length = es.length := by
  have := congrArg List.length h.keys
  simpa using this
theorem den_key {k : Key} {y : V} (h : Den K F y (kD k)) : y = kV k := by
  cases k with
  | inl i => cases h; rfl
  | inr x => cases h; rfl
theorem rv_ix_dic {es : List (Key × D)} {k : Key} {a : D} (ha : a = kD k) (h : valD es k = some d) : RvD K (rIxA K) (.dic es) a d := fun F H x y s hx hy Q q => by
  subst ha
  have ey := den_key hy
  subst ey
  cases hx with
  | dic r l =>
    rcases l.val k with ⟨v, d', h1, h2, h3⟩ | ⟨_, h2⟩
    · rw [h] at h2; cases h2
      exact .inr ⟨_, v, rfl, .inl ⟨_, k, .inr ⟨_, s _ _ r⟩, rfl, h1.symm⟩, q _ F H (Ext.refl s) h3⟩
    · rw [h] at h2; cases h2
theorem in_dic {es : List (Key × D)} {k : Key} {f : Bool → Bool} {F H : Hp} {x y : V} {Q : VK} (s : Same F H) (hx : Den K F x (kD k)) (hy : Den K F y (.dic es)) (q : ∀ v F' H', Ext [] F H F' H' → Den K F' v (.bl (f (valD es k).isSome)) → Q v H') : rInDict f x y H Q := by
  have ex := den_key hx
  subst ex
  cases hy with
  | dic r l =>
    refine ⟨_, _, rfl, .inl ⟨_, k, .inr ⟨_, s _ _ r⟩, rfl, rfl⟩, ?_⟩
    rcases l.val k with ⟨v, d', h1, h2, h3⟩ | ⟨h1, h2⟩
    · rw [h1]; rw [h2] at q; exact q _ F H (Ext.refl s) (.bl _)
    · rw [h1]; rw [h2] at q; exact q _ F H (Ext.refl s) (.bl _)
theorem rv_in_dic {es : List (Key × D)} {k : Key} {a : D} (ha : a = kD k) : RvD K (rInA K) a (.dic es) (.bl (valD es k).isSome) := fun F H x y s hx hy Q q => by
  subst ha
  exact .inr (.inr (in_dic (f := id) s hx hy q))
theorem rv_notin_dic {es : List (Key × D)} {k : Key} {a : D} (ha : a = kD k) : RvD K (rNotInA K) a (.dic es) (.bl (!(valD es k).isSome)) := fun F H x y s hx hy Q q => by
  subst ha
  exact .inr (.inr (in_dic (f := (!·)) s hx hy q))
theorem rc_len_dic {es : List (Key × D)} : RcD K (rLenA K) [.dic es] (.int es.length) := fun F H xs s hx Q q => by
  cases hx with
  | cons h t =>
    cases t
    cases h with
    | dic r l =>
      exact .inr (.inr ⟨_, _, rfl, .inr ⟨_, s _ _ r⟩, by rw [l.length]; exact q _ F H (Ext.refl s) (.int _)⟩)
/-! ### dict(d), list(d), list(text), sorted -/
def rDictA : List V → Hp → VK → Prop := fun xs H Q => ∃ (a : Addr) (kvs : List (Key × V)), xs = [.ref a] ∧ Rd H a (.dK kvs) ∧ ∀ p, H p = none → Q (.ref p) (upd H p (.dK kvs))
theorem c_dict {X : Cx} : CallR X (.type "dict") rDictA := call_dictD
/-! ### dicts that are data are locked for good -/
def tLk (te : TE) : TE := fun σ H Q => te σ H fun v H1 => Q v H1 ∨ ∃ d u, v = .ref d ∧ H1 d = some u ∧ Mut (some u) ∧ ∀ od, Q v (upd H1 d (.frz od u))
theorem pe_lk {X : Cx} {e : Expr} {t : TE} (h : PE X e t) : PE X e (tLk t) := by
  refine ⟨fun pins s σ H Q I hw => ?_⟩
  refine thn (h.run pins s σ H _ I hw) fun u s1 ⟨x, H1, I1, r, q⟩ => ?_
  rcases q with q | ⟨d, o, rfl, hd, mu, q⟩
  · exact ⟨x, H1, I1, r, q⟩
  · obtain ⟨od, I2⟩ := I1.lock hd mu
    exact ⟨_, _, I2, r, q od⟩
theorem ev_dnew : EvD K (tLk tDNewK) σ F (.dic []) := fun H s Q q p hp => .inr ⟨p, _, rfl, upd_same, trivial, fun od => by rw [upd_upd]; exact q _ _ _ (Ext.new s hp) (.dic upd_same .nil)⟩
theorem ev_disp1 {x : Str} {d : D} {v : V} (hd : ∀ F, Den K F v d) : EvD K (tLk (tDisp [(tC (.str x), tC v)])) σ F (.dic [(.inr x, d)]) := fun H s Q q p hp => by
  refine ⟨upd_same, [(.inr x, v)], rfl, by simp, .inr ⟨p, _, rfl, upd_same, trivial, fun od => ?_⟩⟩
  rw [upd_upd, upd_upd]
  exact q _ _ _ (Ext.new s hp) (.dic upd_same (.cons (hd _) .nil))
/-- dict(d), locked -/
theorem ev_dict {tr : TA} {es : List (Key × D)} (h : EvA K tr σ F [.dic es]) : EvD K (tLk (tCB rDictA tr)) σ F (.dic es) := fun H s Q q => h H s _ fun vs F1 H1 x1 l => by
  cases l with
  | cons a t =>
    cases t
    cases a with
    | dic r l => exact ⟨_, _, rfl, .inr ⟨_, x1.s _ _ r⟩, fun p hp => .inr ⟨p, _, rfl, upd_same, trivial, fun od => by rw [upd_upd]; exact q _ _ _ (x1.tr (Ext.new x1.s hp)) (.dic upd_same (DenK.mono (Ext.new x1.s hp).f es l))⟩⟩
/-- for k in d -/
theorem ei_keys {es : List (Key × D)} (h : EvD K te σ F (.dic es)) : EvI K (iSeq K te) σ F (es.map fun e => kD e.1) := fun H s R q => .inr (.inr (.inr (h H s _ fun v F1 H1 x1 d1 => by
  cases d1 with
  | dic hh l =>
    rename_i a o kvs
    refine ⟨a, o, rfl, .inl ⟨kvs, x1.s _ _ hh, q _ F1 H1 x1 ⟨fun H => H a = some (.frz o (.dK kvs)), (fun i H x H' => H' = H ∧ ∃ k v, kvs[i]? = some (k, v) ∧ x = kV k), ?_, fun H s => s _ _ hh, fun i H x H' hi s y => ?_⟩⟩⟩
    · rw [List.length_map, ← l.length]; exact walk_keys
    · obtain ⟨rfl, k, v, y, rfl⟩ := y
      refine ⟨kD k, F1, ?_, Ext.refl s, ?_⟩
      · have e := congrArg (fun l => l[i]?) l.keys
        simp only [List.getElem?_map, y, Option.map_some] at e
        rw [List.getElem?_map]
        cases z : es[i]? with
        | none => rw [z] at e; cases e
        | some p => rw [z] at e; simp at e; rw [e]; rfl
      · cases k with
        | inl n => exact .int n
        | inr x => exact .str x)))
def rSortD : List V → Hp → VK → Prop := fun xs H Q => ∃ (a : Addr) (kvs : List (Key × V)) (ks : List Str), xs = [.ref a] ∧ Rd H a (.dK kvs) ∧ kvs.map (·.1) = ks.map Sum.inr ∧ ks.length < 64 ∧
    ∀ ys p, ys.Perm ks → PyProof.Rows.sortedS ys = true → H p = none → Q (.ref p) (upd H p (.lst (ys.map V.str)))
def rSortedA (K : PySem.W.Frag) : List V → Hp → VK → Prop := fun xs H Q => rSortD xs H Q ∨ rSortedS K xs H Q
theorem c_sorted {X : Cx} (hc : X.calm = true) : CallR X (.builtin "sorted") (rSortedA X.K) := calr_or (call_sortedD hc) cr_sortedS
theorem DenL.strs : ∀ (ys : List Str), DenL K F (ys.map V.str) (ys.map D.str)
  | [] => .nil
  | y :: ys => .cons (.str y) (DenL.strs ys)
theorem rc_sorted_dic {es : List (Key × D)} {ks : List Str} (h : es.map (·.1) = ks.map Sum.inr) (hl : ks.length < 64) : RcD K (rSortedA K) [.dic es] (.lst ((sortS ks).map D.str)) := fun F H xs s hx Q q => by
  cases hx with
  | cons a t =>
    cases t
    cases a with
    | dic r l =>
      refine .inl ⟨_, _, ks, rfl, .inr ⟨_, s _ _ r⟩, by rw [l.keys]; exact h, hl, fun ys p h1 h2 hp => ?_⟩
      rw [sortedS_is h1 h2]
      exact q _ _ _ (Ext.new s hp) (.lst upd_same (DenL.strs _))
theorem rc_sorted_lst {ks : List Str} (hl : ks.length < 64) : RcD K (rSortedA K) [.lst (ks.map D.str)] (.lst ((sortS ks).map D.str)) := fun F H xs s hx Q q => by
  cases hx with
  | cons a t =>
    cases t
    cases a with
    | lst r l =>
      rw [denL_strs l] at r
      refine .inr ⟨_, ks, rfl, SqL.of (s _ _ r), hl, fun ys p h1 h2 hp => ?_⟩
      rw [sortedS_is h1 h2]
      exact q _ _ _ (Ext.new s hp) (.lst upd_same (DenL.strs _))
/-- list(text) -/
def rListS : List V → Hp → VK → Prop := fun xs H Q => ∃ z : Str, xs = [.str z] ∧ z.length ≤ sizeLine ∧ ∀ p, H p = none → Q (.ref p) (upd H p (.lst (z.cps.toList.map fun c => V.str ⟨#[c]⟩)))
theorem vals_ix : ∀ (xs : List V) (us : List Value), xs.length = us.length → (∀ (i : Nat) x u, xs[i]? = some x → us[i]? = some u → RelV x u) → Vals xs us
  | [], [], _, _ => .nil
  | x :: xs, u :: us, h, k => .cons (k 0 x u rfl rfl) (vals_ix xs us (by simpa using h) fun i y w h1 h2 => k (i + 1) y w (by simpa using h1) (by simpa using h2))
theorem vals_signs {z : Str} {acc : Array Value} (h : ItemsOf (SignAt z) acc z.cps.size) : Vals (z.cps.toList.map fun c => V.str ⟨#[c]⟩) acc.toList := by
  refine vals_ix _ _ (by simp [h.1]) fun i x u h1 h2 => ?_
  obtain ⟨c, t, hc, rfl⟩ := h.2 i u (by simpa using h2)
  rw [List.getElem?_map, Array.getElem?_toList, hc] at h1
  cases h1
  exact ⟨t, rfl⟩
theorem c_list_str {X : Cx} (hc : X.calm = true) : CallR X (.type "list") rListS := by
  intro pins s σ H xs us Q I r h
  obtain ⟨z, rfl, hz, q⟩ := h
  obtain ⟨u, rfl, t, rfl⟩ := vals1 r
  refine call_list_str (I.ok.hd hc) z t (fun h' tk acc c hk ho hi => ?_) hz
  have hv := vals_signs hi
  refine ⟨.ref _, upd H s.heap.objs.size (.lst (z.cps.toList.map fun c => V.str ⟨#[c]⟩)), I.laid (t' := tk) hk (Nat.le_refl _) ⟨?_, acc.toList, c, hv, by simpa using ho⟩, rfl, q _ (I.hok.fresh (Nat.le_refl _))⟩
  rw [List.length_map]
  have : z.cps.toList.length = z.length := by simp [Str.length]
  rw [this]; exact hz
def rListA (K : PySem.W.Frag) : List V → Hp → VK → Prop := fun xs H Q => (∃ p ys, xs = [.ref p] ∧ (SqL K H p ys ∨ SqT K H p ys) ∧ ∀ l, H l = none → Q (.ref l) (upd H l (.lst ys))) ∨ rListS xs H Q ∨
  ∃ (a : Addr) (kvs : List (Key × V)), xs = [.ref a] ∧ Rd H a (.dK kvs) ∧ ∀ p, H p = none → Q (.ref p) (upd H p (.lst (kvs.map fun kv => kV kv.1)))
theorem c_list {X : Cx} (hc : X.calm = true) : CallR X (.type "list") (rListA X.K) := calr_or call_list_of (calr_or (c_list_str hc) (call_listD hc))
/-! ### stars in displays -/
theorem ea_star_lst {tr : TA} {ds es : List D} (h : EvD K te σ F (.lst ds)) (hr : EvA K tr σ F es) : EvA K (StX.tStar K te tr) σ F (ds ++ es) := fun H s Q q =>
  h H s _ fun v F1 H1 x1 d1 => by
    cases d1 with
    | lst a l =>
      refine ⟨_, _, rfl, .inr (SqL.of (x1.s _ _ a)), (hr.up x1.f) H1 x1.s _ fun vs F2 H2 x2 l2 => q _ F2 H2 (x1.tr x2) ((l.up x2.f).append l2)⟩
/-! ### fields and calls of objects -/
theorem DenF.look : ∀ {fs : List (Str × V)} {gs : List (Str × D)} {f : Str} {d : D}, DenF K F fs gs → gs.lookup f = some d → ∃ v, fs.lookup f = some v ∧ Den K F v d
  | _, _, f, d, .nil, h => by simp at h
  | (k, v) :: fs, (_, e) :: gs, f, d, .cons h t, hl => by
    by_cases z : f = k
    · subst z
      simp [List.lookup] at hl ⊢
      subst hl
      exact h
    · have zb : (f == k) = false := by simpa using z
      simp only [List.lookup, zb] at hl ⊢
      exact DenF.look t hl
theorem ev_fld {C : Addr} {gs : List (Str × D)} {f : Str} (c : Cls K C) (n : NoAttr K C f) (h : EvD K te σ F (.obj C gs)) (hl : gs.lookup f = some d) : EvD K (tFld K te f) σ F d := fun H s Q q =>
  h H s _ fun v F1 H1 x1 d1 => by
    cases d1 with
    | obj a l =>
      obtain ⟨w, h1, h2⟩ := l.look hl
      exact ⟨_, C, _, _, w, rfl, x1.s _ _ a, c, n, h1, q _ F1 H1 x1 h2⟩
/-- a call of an object, by its class's __call__ -/
def tCallQ (C : Addr) (sp : Sp) (E : XK) (tf : TE) (t : TA) : TE := fun σ H Q => tf σ H fun y H1 => ∃ a, y = V.ref a ∧ t σ H1 fun vs H2 => (∃ dx fs, H2 a = some (.ins C dx fs)) ∧ sp (V.ref a :: vs) H2 Q E
theorem pe_callQ {X : Cx} {CX : CXT} {k : Nat} {C g : Addr} {fd : FuncData} {ps : List Str} {sp : Sp} {E : XK} {fe e : Expr} {es : List Expr} {pos : Pos} {tf : TE} {tr : TA} (hf : PE X fe tf) (c : StX.CallO X.K C g) (G : FnOk X.prog X.w X.K X.mg X.base CX k g fd ps sp) (hb : Binds X.K fd ps []) (hr : Room k X.A) (hx : Passes CX X E) (ha : PA X (e :: es) tr)
    (ht : eval (.Call fe (e :: es) [] pos) X.env = (do callWith pos (← eval fe X.env) [] (backTo pos (starEach (e :: es) X.env)) (backToKw pos (keywordEach [] X.env))) := by rfl)
    (he : starEach (e :: es) X.env = (false, eval e X.env) :: starEach es X.env := by rfl) (hpl : (backTo pos (starEach es X.env)).any (·.1) = false := by rfl) : PE X (.Call fe (e :: es) [] pos) (tCallQ C sp E tf tr) := by
  have R : FnR X.prog X.w X.K X.mg X.base CX k g sp := (G.raw hb .nil).imp fun vs H Q E h => by rw [List.append_nil]; exact h
  refine ⟨fun pins s σ H Q I h => ?_⟩
  refine PyProof.Rows.Call_ (thn (hf.run pins s σ H _ I h) fun u s1 hh => ?_) ht
  obtain ⟨y, H1, I1, ry, a, ey, q⟩ := hh
  subst ey
  cases (show u = Value.ref a from ry)
  refine StX.callO_with (thn (ha.run pos pins s1 σ H1 _ I1 q) fun us s2 hh => ?_) he hpl
  obtain ⟨vs, H2, I2, r, hi, q2⟩ := hh
  have hi' : StX.InsC X H2 a C := .inr hi
  obtain ⟨ox, od, J, hd⟩ := StX.insC_at I2 hi'
  exact ⟨⟨C, ox, od, J, hd⟩, StX.run_callO c R hr hx I2 hi' r q2⟩
theorem ev_callQ {C : Addr} {gs : List (Str × D)} {tr : TA} {E : XK} {n : Nat} {f : List D → Option D} {es : List D} (hf : EvD K te σ F (.obj C gs)) (ha : EvA K tr σ F es) (he : f (.obj C gs :: es) = some d) (hn : (D.obj C gs :: es).length = n) :
    EvD K (tCallQ C (spP K n f) E te tr) σ F d := fun H s Q q =>
  hf H s _ fun v F1 H1 x1 d1 => by
    have d1' := d1
    cases d1 with
    | obj a l =>
      refine ⟨_, rfl, (ha.up x1.f) H1 x1.s _ fun vs F2 H2 x2 l2 => ⟨⟨_, _, x2.s _ _ (x2.f _ _ a)⟩, F2, _, d, x2.s, .cons (d1'.up x2.f) l2, he, hn, fun w F3 H3 x3 d3 => q w F3 H3 ((x1.tr x2).tr x3) d3⟩⟩
/-- making an object: __init__ as a def that sets fields once -/
def spI (K : PySem.W.Frag) (C : Addr) (n : Nat) (f : List D → Option (List (Str × D))) : Sp := fun vs H Q _ => ∃ F x dx ws ds gs, vs = .ref x :: ws ∧ Same F H ∧ H x = some (.ins C dx []) ∧ F x = none ∧ DenL K F ws ds ∧ ds.length = n ∧ f ds = some gs ∧
  ∀ fs F' H', Ext [x] F H F' H' → F' x = none → H' x = some (.ins C dx fs) → DenF K F' fs gs → Q .non H'
theorem ev_make {C : Addr} {tr : TA} {E : XK} {n : Nat} {f : List D → Option (List (Str × D))} {ds : List D} {gs : List (Str × D)} (ha : EvA K tr σ F ds) (hf : f ds = some gs) (hn : ds.length = n) : EvD K (tMake C (spI K C n f) [] E tr) σ F (.obj C gs) := fun H s Q q =>
  ha H s _ fun vs F1 H1 x1 l1 x dx hx hdx ne => by
    have y1 : Ext [] F1 H1 F1 (upd H1 dx (.own x)) := Ext.newM x1.s hdx
    have hx' : upd H1 dx (.own x) x = none := by rw [upd_ne (Ne.symm ne)]; exact hx
    have y2 : Ext [] F1 (upd H1 dx (.own x)) F1 (upd (upd H1 dx (.own x)) x (.ins C dx [])) := Ext.newM y1.s hx'
    refine ⟨F1, x, dx, vs, ds, gs, by simp, y2.s, upd_same, x1.s.free hx, l1, hn, hf, fun fs F2 H2 x2 fx hx2 l2 => ⟨rfl, ?_⟩⟩
    have z : Ext [] F1 H1 F2 H2 := Ext.forget (y1.tr y2) x2 hx
    have z2 := Ext.freeze z hx hx2 fx
    exact q _ _ _ (x1.tr z2) (.obj upd_same (DenF.mono (same_new fx) gs l2))
end
end Nm

set_option Elab.async false
set_option linter.all false
set_option maxRecDepth 100000
set_option maxHeartbeats 1000000
/-! a, *b = a tuple; any of whole numbers. -/
namespace Nm
open PySem PySem.Spec L2 PyProof.Rows PySem.W
section
variable {prog : Program} {w : World} {A : Around} {E : Value → Shared → Prop} {s : Shared}
theorem unp_star {l : Addr} {items : Array Value} {n i : Nat} {Q : List Value → Shared → Prop} (hl : IsTup s.heap l items) (hh : A.handled = none) (hi : i < n) (hn : n ≤ items.size + 1) (hz : items.size ≤ 16384)
    (h : ∀ D h' tk, (∀ b o, s.heap.get? b = some o → h'.get? b = some o) → s.heap.get? D = none → h'.get? D = some { cls := .type "list", data := .seq ((items.toList.drop i).take (items.size + 1 - n)).toArray } →
      Q (items.toList.take i ++ [.ref D] ++ (items.toList.drop i).drop (items.size + 1 - n)) { s with heap := h', toks := tk }) : wpAny (model prog w) A (unpackItems (.ref l) n (some i)) Q E s := by
  have hlt : l ≠ s.heap.objs.size := by obtain ⟨o, ho, _⟩ := hl; exact Nat.ne_of_lt (Heap.lt_size ho)
  unfold unpackItems
  refine wpAny_bind ?_
  unfold notIterableAtAll
  refine wpAny_bind (wpAny_specialOf hl.typeIs slot_tuple_iter.lookup ?_)
  refine wpAny_pure ?_
  simp only [Bool.false_eq_true, if_false]
  refine wpAny_bind (wpAny_holding (iter_tuple hl ?_))
  refine wpAny_bind (wpAny_holding (draw_tuple hlt i 0 _ _ ⟨_, Heap.get?_push_size _ rfl, rfl, rfl⟩ (hl.push _) (by omega) fun h₁ hit₁ hs₁ => ?_))
  have hl₁ : IsTup h₁ l items := (hl.push _).extBut hs₁.extBut hlt
  rw [Nat.zero_add] at hit₁
  obtain ⟨oi, hoi, _⟩ := id hit₁
  obtain ⟨ol, hol, _⟩ := id hl₁
  rw [List.drop_zero]
  have hfl : (items.toList.take i).length = i := by rw [List.length_take, Array.length_toList]; omega
  rw [if_neg (show ¬ ((items.toList.take i).length < i) by rw [hfl]; omega)]
  refine wpAny_bind (wpAny_holding (kun_collect (s := { s with heap := h₁ }) (T := "tuple_iterator") (.inr (.inr (.inr rfl))) (Walks.tuple (A := A.in1) hh s.heap.objs.size l hlt items) (fun j u st => st.1.typeIs) (k := i) (by omega) ⟨hit₁, hl₁⟩ (Heap.lt_size hoi) (Heap.lt_size hol) (fun h₂ tk hk => ?_) (by rw [sizeLine_eq]; omega)))
  have hrl : (items.toList.drop i).length = items.size - i := by rw [List.length_drop, Array.length_toList]
  have hmid : (items.toList.drop i).length - (n - 1 - i) = items.size + 1 - n := by rw [hrl]; omega
  show wpAny _ _ (if (items.toList.drop i).length < n - 1 - i then _ else _) _ _ _
  rw [if_neg (by rw [hrl]; omega)]
  show wpAny _ _ (newList ((items.toList.drop i).take ((items.toList.drop i).length - (n - 1 - i))) >>= fun d => pure (items.toList.take i ++ [d] ++ (items.toList.drop i).drop ((items.toList.drop i).length - (n - 1 - i)))) _ _ _
  rw [hmid]
  have kp : ∀ b o, s.heap.get? b = some o → h₂.get? b = some o := fun b o e => hk b o (Nat.ne_of_lt (Heap.lt_size e)) (hs₁.extBut b o (Nat.ne_of_lt (Heap.lt_size e)) (Heap.get?_push_of_some _ e))
  have nn : s.heap.get? h₂.objs.size = none := by
    cases e : s.heap.get? h₂.objs.size with
    | none => rfl
    | some o => exact absurd (Heap.lt_size (kp _ o e)) (Nat.lt_irrefl _)
  exact wpAny_bind (wpAny_newObj_type (wpAny_pure (h _ _ _ (fun b o e => Heap.get?_push_of_some _ (kp b o e)) nn (Heap.get?_push_size _ rfl))) (by show List.length _ ≤ _; rw [List.length_take, hrl, sizeLine_eq]; omega))
end
section
variable {X : Cx} {es : List Expr} {e : Expr} {t : TG} {u : TGs} {p pos : Pos} {k : Nat}
theorem pgs_starred (h1 : PG X e t) (h2 : PGs X es u) (hs : (assignEach (.Starred e p :: es) X.env).map (·.2) = assign e X.env :: (assignEach es X.env).map (·.2) := by rfl) : PGs X (.Starred e p :: es) (gCons t u) := by
  refine ⟨fun pins s σ H vs us Q I r h => ?_⟩
  obtain ⟨v, vr, e1, h⟩ := h
  subst e1
  cases r with
  | cons r rr =>
    rw [hs]
    exact assignInOrder_cons (thn (h1.run pins s σ H _ _ _ I r h) fun _ s1 ⟨σ1, H1, I1, q1⟩ => h2.run pins s1 σ1 H1 _ _ Q I1 rr q1)
/-- a, *b = a tuple -/
def gStar2 (K : PySem.W.Frag) (t : TGs) : TG := fun v σ H Q => ∃ a x xs, v = .ref a ∧ SqT K H a (x :: xs) ∧ xs.length ≤ 1000 ∧ ∀ D, H D = none → t [x, .ref D] σ (upd H D (.lst xs)) Q
theorem pg_star2 {t : TGs} (hc : X.calm = true) (h : PGs X es t) (hn : (assignEach es X.env).length = 2 := by rfl) (hst : (assignEach es X.env).findIdx? (·.1) = some 1 := by rfl) : PG X (.Tuple es k pos) (gStar2 X.K t) := by
  refine ⟨fun pins s σ H v w Q I r hw => ?_⟩
  obtain ⟨a, x, xs, rfl, hq, hl, hw⟩ := hw
  cases r
  obtain ⟨its, rv, ht, hz⟩ := I.tuple hq
  cases rv with
  | @cons x' u0 xs' us r0 rr =>
  have hlen : us.length = xs.length := (Vals.length rr).symm
  rw [assign_Tuple]
  refine wpAny_bind (wpAny_standAt ?_)
  unfold unpack
  rw [hn, hst]
  refine wpAny_bind (wpAny_holding (unp_star ht (I.ok.hd hc) (by decide) (by simp) (by simp; omega) fun D h' tk hk hD hg => ?_))
  have hHD : H D = none := by
    exact HOk.gone I.hok hD
  have e1 : (((u0 :: us).toArray.toList.drop 1).take ((u0 :: us).toArray.size + 1 - 2)) = us := by simp
  have e2 : ((u0 :: us).toArray.toList.take 1 ++ [Value.ref D] ++ ((u0 :: us).toArray.toList.drop 1).drop ((u0 :: us).toArray.size + 1 - 2)) = [u0, .ref D] := by simp
  rw [e1] at hg
  rw [e2]
  have I1 : Inv X pins σ (upd H D (.lst xs)) { s with heap := h', toks := tk } := I.laidN hk hD hHD ⟨by rw [sizeLine_eq]; omega, us, 0, rr, hg⟩
  exact h.run pins _ σ _ [x, .ref D] [u0, .ref D] Q I1 (.cons r0 (.cons rfl .nil)) (hw D hHD)
/-- any of whole numbers -/
def rAnyI (K : PySem.W.Frag) : List V → Hp → VK → Prop := fun vs H Q => ∃ (a : Addr) (ns : List Int), vs = [V.ref a] ∧ SqL K H a (ns.map V.int) ∧ Q (.bl (ns.any fun i => i != 0)) H
theorem paired_getR {α β : Type} {F : α → β → Prop} : ∀ {l1 : List α} {l2 : List β} {i : Nat} {v : β}, Paired F l1 l2 → l2[i]? = some v → ∃ y, l1[i]? = some y ∧ F y v
  | _, _, i, _, .nil, h => by simp at h
  | _, _, 0, _, .cons f r, h => by simp at h; subst h; exact ⟨_, rfl, f⟩
  | _, _, i + 1, _, .cons f r, h => by simp at h; simpa using paired_getR r h
theorem truth_ints {prog : Program} {w : World} {A : Around} {ns : List Int} {its : List Value} (e : Vals (ns.map V.int) its) : TruthOf prog w A (fun i v => its.toArray[i]? = some v) (fun i => (ns.getD i 0) != 0) := fun i v s Q E hv hq => by
  have hv' : its[i]? = some v := by simpa using hv
  obtain ⟨y, hy, ry⟩ := paired_getR e hv'
  rw [List.getElem?_map] at hy
  obtain ⟨n, hn, rfl⟩ := Option.map_eq_some_iff.mp hy
  obtain ⟨t, rfl⟩ := ry
  have hg : ns.getD i 0 = n := by rw [List.getD_eq_getElem?_getD, hn]; rfl
  dsimp only at hq; rw [hg] at hq
  exact truthy_int hq
theorem any_rangeI : ∀ ns : List Int, (List.range ns.length).any (fun i => (ns.getD i 0) != 0) = ns.any fun i => i != 0
  | [] => rfl
  | b :: bs => by
    rw [List.length_cons, List.range_succ_eq_map, List.any_cons, List.any_map, List.any_cons, ← any_rangeI bs]
    rfl
theorem c_anyI (hc : X.calm = true) : CallR X (.builtin "any") (rAnyI X.K) := by
  intro pins s σ H vs us Q I r h
  obtain ⟨a, ns, rfl, hs, q⟩ := h
  obtain ⟨its, rv, hl, _⟩ := I.list hs
  rw [Vals.ref1 r]
  refine call_any_walk (iter_any hl.isList fun s₂ e2 st hne => ?_)
  subst e2
  refine ⟨_, _, _, _, _, _, _, rfl, Walks.list (A := X.A.in1) (I.ok.hd hc) _ a hne its.toArray, st, truth_ints rv, fun h' tk hk => ?_⟩
  refine ⟨.bl (ns.any fun i => i != 0), H, I.kept fun b o eo => hk b o (fun hmem => ?_) (Heap.get?_push_of_some _ eo), ?_, q⟩
  · rcases List.mem_cons.mp hmem with e1 | hmem
    · exact absurd (e1 ▸ Heap.lt_size eo) (Nat.lt_irrefl _)
    · cases hmem
  · show Value.bool _ = Value.bool _
    have hl2 : its.length = ns.length := by rw [← Vals.length rv, List.length_map]
    rw [← any_rangeI, List.size_toArray, hl2]
end
end Nm

set_option Elab.async false
set_option linter.all false
set_option maxRecDepth 100000
set_option maxHeartbeats 1000000
namespace Nm
open PySem PySem.Spec L2
/-- f(e, *y), by a promise of data -/
theorem pe_callS {X : Cx} {CX : CXT} {k : Nat} {f : Addr} {fd : FuncData} {ps : List Str} {sp : Sp} {E : XK} {x : Str} {e : Expr} {es : List Expr} {p pos : Pos} {t : TA} (G : FnOk X.prog X.w X.K X.mg X.base CX k f fd ps sp) (hr : Room k X.A) (hg : Gl X x) (hm : X.mg x = some (.ref f)) (hk : PySem.W.keepIn X.K (.ref f) = true) (hb : Binds X.K fd ps []) (hx : Passes CX X E) (ha : PA X (e :: es) t) (hd : (x == ("__debug__" : Str)) = false := by decide)
    (he : starEach (e :: es) X.env = (false, eval e X.env) :: starEach es X.env := by rfl) (hst : (backTo pos (starEach es X.env)).any (·.1) = true := by rfl) : PE X (.Call (.Name x p) (e :: es) [] pos) (tCall sp [] E t) :=
  StX.pe_callS2 (G.raw hb .nil) hr hk hg hm hx ha hd he hst
section
variable {K : PySem.W.Frag} {F H : Hp} {σ : L2.St} {ta tb tc te : TE} {d e : D} {r : List Sl} {DE : Ends} {tz : TS}
theorem ea_star_tup {tr : TA} {ds es : List D} (h : EvD K te σ F (.tup ds)) (hr : EvA K tr σ F es) : EvA K (StX.tStar K te tr) σ F (ds ++ es) := fun H s Q q =>
  h H s _ fun v F1 H1 x1 d1 => by
    cases d1 with
    | tup a l =>
      refine ⟨_, _, rfl, .inl (same_t x1.s a), (hr.up x1.f) H1 x1.s _ fun vs F2 H2 x2 l2 => q _ F2 H2 (x1.tr x2) ((l.up x2.f).append l2)⟩
theorem sz0 : 0 ≤ sizeLine := Nat.zero_le _
theorem sz1 : 1 ≤ sizeLine := by rw [sizeLine_eq]; decide
theorem sz2 : 2 ≤ sizeLine := by rw [sizeLine_eq]; decide
theorem sz3 : 3 ≤ sizeLine := by rw [sizeLine_eq]; decide
theorem sz4 : 4 ≤ sizeLine := by rw [sizeLine_eq]; decide
theorem sz5 : 5 ≤ sizeLine := by rw [sizeLine_eq]; decide
def onCh (f : Nat → D) : D → D
  | .str s => (match s.cps.toList with | [c] => f c | _ => .non)
  | _ => .non
def onChB (f : Nat → Bool) : D → Bool
  | .str s => (match s.cps.toList with | [c] => f c | _ => false)
  | _ => false
/-- x, y = a, b -/
theorem q_par {i j : Nat} {tr : TA} (S : Same F H) (E : EnvD K F r σ) (h : EvA K tr σ F [d, e]) (k : ∀ F' H' σ', Ext [] F H F' H' → EnvD K F' ((r.set i (.d d)).set j (.d e)) σ' → tz DE σ' H') : tSeq (tPar i j tr) tz DE σ H :=
  h H S _ fun vs F' H' x l => by
    cases l with
    | cons a t =>
      cases t with
      | cons b t =>
        cases t
        exact ⟨_, _, rfl, k F' H' _ x (EnvD.set j (EnvD.set i (E.up x.f) ⟨_, rfl, a⟩) ⟨_, rfl, b⟩)⟩
/-- what a target does with a datum: the frame behind it -/
def TgD (K : PySem.W.Frag) (g : TG) (d : D) (u : List Sl → List Sl) : Prop := ∀ F H r σ v (Q : L2.St → Hp → Prop), Same F H → EnvD K F r σ → Den K F v d → (∀ σ', EnvD K F (u r) σ' → Q σ' H) → g v σ H Q
theorem tg_name {j : Nat} : TgD K (gName j) d (fun r => r.set j (.d d)) := fun F H r σ v Q S E h k => k _ (EnvD.set j E ⟨v, rfl, h⟩)
theorem tg_two {i j : Nat} : TgD K (gTup K 2 (gCons (gName i) (gCons (gName j) gNil))) (.tup [d, e]) (fun r => (r.set i (.d d)).set j (.d e)) := fun F H r σ v Q S E h k => by
  cases h with
  | tup a l =>
    cases l with
    | cons p t =>
      cases t with
      | cons q t =>
        cases t
        exact ⟨_, _, rfl, same_t S a, rfl, _, _, rfl, _, _, rfl, rfl, k _ (EnvD.set j (EnvD.set i E ⟨_, rfl, p⟩) ⟨_, rfl, q⟩)⟩
theorem q_asgG {g : TG} {u : List Sl → List Sl} (S : Same F H) (E : EnvD K F r σ) (h : EvD K te σ F d) (t : TgD K g d u) (k : ∀ F' H' σ', Ext [] F H F' H' → EnvD K F' (u r) σ' → tz DE σ' H') : tSeq (tAsg te g) tz DE σ H :=
  h H S _ fun v F' H' x dv => t F' H' r σ v _ x.s (E.up x.f) dv fun σ' E' => k F' H' σ' x E'
/-- what is walked, in this heap -/
def EvIH (K : PySem.W.Frag) (wi : TI) (σ : L2.St) (F H : Hp) (items : List D) : Prop := ∀ R : It → Hp → Prop, (∀ J F' H', Ext [] F H F' H' → WalkD K F' J items → R J H') → wi σ H R
theorem s_forH {tb : TS} (M : List Addr) (Pv : Nat → Hp → Hp → List Sl → Prop) {items : List D} {wi : TI} {g : TG} (u : D → List Sl → List Sl) (S : Same F H) (E : EnvD K F r σ) (hi : EvIH K wi σ F H items) (hg : ∀ d, d ∈ items → TgD K g d (u d))
    (h0 : ∀ F' H', Ext [] F H F' H' → Pv 0 F' H' r)
    (hs : ∀ i d F1 H1 F2 H2 r' σ' (N : L2.St → Hp → Prop), items[i]? = some d → Ext M F H F1 H1 → Pv i F1 H1 r' → Ext [] F1 H1 F2 H2 → EnvD K F2 (u d r') σ' →
      (∀ F3 H3 r3 σ3, Ext M F2 H2 F3 H3 → EnvD K F3 r3 σ3 → Pv (i + 1) F3 H3 r3 → N σ3 H3) → tb { DE with nx := N, ct := N, bk := DE.nx } σ' H2)
    (hd : ∀ F' H' r' σ', Ext M F H F' H' → EnvD K F' r' σ' → Pv items.length F' H' r' → DE.nx σ' H') : tFor wi g tb DE σ H :=
  hi _ fun J F1 H1 x1 W1 => by
    obtain ⟨G, Y, w, hg', hy⟩ := W1
    refine ⟨fun i m σ3 H3 => m = items.length - i ∧ i ≤ items.length ∧ ∃ F3 r3, Ext M F H F3 H3 ∧ Same F1 F3 ∧ EnvD K F3 r3 σ3 ∧ Pv i F3 H3 r3, ⟨items.length, by simp, Nat.zero_le _, F1, r, x1.wide (by simp), Same.refl _, E.up x1.f, h0 F1 H1 x1⟩, ?_⟩
    rintro i m σ3 H3 ⟨rfl, hle, F3, r3, x, e, E3, p⟩
    have hG := hg' H3 (e.trans x.s)
    by_cases hlt : i < items.length
    · refine .inr ⟨w.goes i H3 hlt hG, fun σ' H' => ∃ F4 r4, Ext M F H F4 H' ∧ Same F1 F4 ∧ EnvD K F4 r4 σ' ∧ Pv (i + 1) F4 H' r4, fun σ' H' q => ⟨items.length - (i + 1), by omega, rfl, hlt, q⟩, fun v H4 y => ?_⟩
      obtain ⟨d, F2, h1, h2, h3⟩ := hy i H3 v H4 hlt (e.trans x.s) (w.yields i H3 v H4 hlt hG y)
      have x2 := Ext.uni e x.s h2
      have h3' : Den K (uni F3 F2) v d := h3.up (uni_r (x.s.trans h2.same) h2.s)
      refine hg d (List.mem_of_getElem? h1) _ H4 r3 σ3 v _ x2.s (E3.up x2.f) h3' fun σ' E' => ?_
      exact hs i d F3 H3 _ H4 r3 _ _ h1 x p x2 E' fun F5 H5 r5 σ5 x5 E5 p5 => ⟨F5, r5, (x.tl x2).trans x5, (e.trans x2.f).trans x5.f, E5, p5⟩
    · have ei : i = items.length := by omega
      subst ei
      exact .inl ⟨w.stops H3 hG, hd F3 H3 r3 σ3 x E3 p⟩
theorem s_forG {tb : TS} (M : List Addr) (Pv : Nat → Hp → Hp → List Sl → Prop) {items : List D} {wi : TI} {g : TG} (u : D → List Sl → List Sl) (S : Same F H) (E : EnvD K F r σ) (hi : EvI K wi σ F items) (hg : ∀ d, d ∈ items → TgD K g d (u d))
    (h0 : ∀ F' H', Ext [] F H F' H' → Pv 0 F' H' r)
    (hs : ∀ i d F1 H1 F2 H2 r' σ' (N : L2.St → Hp → Prop), items[i]? = some d → Ext M F H F1 H1 → Pv i F1 H1 r' → Ext [] F1 H1 F2 H2 → EnvD K F2 (u d r') σ' →
      (∀ F3 H3 r3 σ3, Ext M F2 H2 F3 H3 → EnvD K F3 r3 σ3 → Pv (i + 1) F3 H3 r3 → N σ3 H3) → tb { DE with nx := N, ct := N, bk := DE.nx } σ' H2)
    (hd : ∀ F' H' r' σ', Ext M F H F' H' → EnvD K F' r' σ' → Pv items.length F' H' r' → DE.nx σ' H') : tFor wi g tb DE σ H := s_forH M Pv u S E (hi H S) hg h0 hs hd
/-! what is worth what in this heap, nothing changed -/
def At (te : TE) (σ : L2.St) (H : Hp) (v : V) : Prop := ∀ Q : VK, Q v H → te σ H Q
theorem at_var {i : Nat} {v : V} (h : σ[i]? = some (some v)) : At (tVar i) σ H v := fun Q q => ⟨v, h, q⟩
theorem at_slot {i : Nat} {v : V} (E : EnvD K F r σ) (h : r[i]? = some (.v v)) : At (tVar i) σ H v := by
  obtain ⟨o, h1, h2⟩ := E.get h
  exact at_var (by rw [h1]; exact congrArg some h2)
theorem at_int {i : Nat} {n : Int} (E : EnvD K F r σ) (h : r[i]? = some (.d (.int n))) : At (tVar i) σ H (.int n) := by
  obtain ⟨o, h1, v, h2, h3⟩ := E.get h
  subst h2
  cases h3
  exact at_var h1
theorem at_str {i : Nat} {n : Str} (E : EnvD K F r σ) (h : r[i]? = some (.d (.str n))) : At (tVar i) σ H (.str n) := by
  obtain ⟨o, h1, v, h2, h3⟩ := E.get h
  subst h2
  cases h3
  exact at_var h1
theorem at_c {v : V} : At (tC v) σ H v := fun _ q => q
theorem at_op {rr : R2} {x y v : V} (ha : At ta σ H x) (hb : At tb σ H y) (h : ∀ Q : VK, Q v H → rr x y H Q) : At (tOp rr ta tb) σ H v := fun Q q => ha _ (hb _ (h Q q))
theorem at_add {i j : Int} (ha : At ta σ H (.int i)) (hb : At tb σ H (.int j)) : At (tOp (rAddA K) ta tb) σ H (.int (i + j)) := at_op ha hb fun Q q => .inl ⟨i, j, rfl, rfl, q⟩
theorem at_sub {i j : Int} (ha : At ta σ H (.int i)) (hb : At tb σ H (.int j)) : At (tOp (rI0 fun i j => V.int (i - j)) ta tb) σ H (.int (i - j)) := at_op ha hb fun Q q => ⟨i, j, rfl, rfl, q⟩
theorem at_ix {p : Addr} {xs : List V} {v : V} {i : Int} (h : H p = some (.lst xs)) (ha : At ta σ H (.ref p)) (hb : At tb σ H (.int i)) (e : atI xs i = some v) : At (tOp (rIxA K) ta tb) σ H v :=
  at_op ha hb fun Q q => .inl (.inl ⟨p, xs, i, v, rfl, rfl, SqL.of h, e, q⟩)
theorem at_len {p : Addr} {xs : List V} (h : H p = some (.lst xs)) (ha : At ta σ H (.ref p)) : At (tCB (rLenA K) (tCons ta tNil)) σ H (.int xs.length) := fun Q q => ha _ (.inl ⟨p, xs, rfl, .inl (SqL.of h), q⟩)
theorem eih_rng1 {m : Nat} (S : Same F H) (h : At ta σ H (.int (m : Nat))) (hm : m ≤ 1000000) : EvIH K (iRng1 (tCons ta tNil)) σ F H ((List.range m).map fun i => .int (i : Nat)) := fun R q => h _ (by
  have one : EvA K (fun _ H2 R => R [.int (m : Nat)] H2) σ F [.int (m : Nat)] := fun H2 s2 R2 q2 => q2 _ F H2 (Ext.refl s2) (.cons (.int _) .nil)
  have := ei_rng1 one (by omega) (by omega) H S R fun J F2 H2 x2 W => q J F2 H2 x2 (by rw [Int.toNat_natCast] at W; exact W)
  exact this)
theorem q_for {tb : TS} (M : List Addr) (Pv : Nat → Hp → Hp → List Sl → Prop) {items : List D} {wi : TI} {j : Nat} (S : Same F H) (E : EnvD K F r σ) (hi : EvI K wi σ F items)
    (h0 : ∀ F' H', Ext [] F H F' H' → Pv 0 F' H' r)
    (hs : ∀ i d F1 H1 F2 H2 r' σ' (N : L2.St → Hp → Prop), items[i]? = some d → Ext M F H F1 H1 → Pv i F1 H1 r' → Ext [] F1 H1 F2 H2 → EnvD K F2 (r'.set j (.d d)) σ' →
      (∀ F3 H3 r3 σ3, Ext M F2 H2 F3 H3 → EnvD K F3 r3 σ3 → Pv (i + 1) F3 H3 r3 → N σ3 H3) → tb { DE with nx := N, ct := N, bk := tz DE } σ' H2)
    (hd : ∀ F' H' r' σ', Ext M F H F' H' → EnvD K F' r' σ' → Pv items.length F' H' r' → tz DE σ' H') : tSeq (tFor wi (gName j) tb) tz DE σ H :=
  s_for (DE := { DE with nx := tz DE }) M Pv S E hi h0 hs hd
/-- a for that changes nothing but its own names -/
theorem q_look {tb : TS} {items : List D} {wi : TI} {g : TG} (u : D → List Sl → List Sl) (R : List Sl → Prop) (S : Same F H) (E : EnvD K F r σ) (hi : EvI K wi σ F items) (hg : ∀ d, d ∈ items → TgD K g d (u d)) (h0 : R r)
    (hs : ∀ d F2 H2 r' σ' (N : L2.St → Hp → Prop), d ∈ items → Same F F2 → Same F2 H2 → R r' → EnvD K F2 (u d r') σ' → (∀ F3 H3 r3 σ3, Ext [] F2 H2 F3 H3 → EnvD K F3 r3 σ3 → R r3 → N σ3 H3) → tb { DE with nx := N, ct := N, bk := tz DE } σ' H2)
    (hd : ∀ F' H' r' σ', Ext [] F H F' H' → EnvD K F' r' σ' → R r' → tz DE σ' H') : tSeq (tFor wi g tb) tz DE σ H :=
  s_forG [] (fun _ _ _ r' => R r') u S E hi hg (fun _ _ _ => h0) (fun i d F1 H1 F2 H2 r' σ' N h1 x p x2 E2 n => hs d F2 H2 r' σ' N (List.mem_of_getElem? h1) (x.f.trans x2.f) x2.s p E2 n) fun F' H' r' σ' x E' p => hd F' H' r' σ' x E' p
theorem s_look {tb : TS} {items : List D} {wi : TI} {g : TG} (u : D → List Sl → List Sl) (R : List Sl → Prop) (S : Same F H) (E : EnvD K F r σ) (hi : EvI K wi σ F items) (hg : ∀ d, d ∈ items → TgD K g d (u d)) (h0 : R r)
    (hs : ∀ d F2 H2 r' σ' (N : L2.St → Hp → Prop), d ∈ items → Same F F2 → Same F2 H2 → R r' → EnvD K F2 (u d r') σ' → (∀ F3 H3 r3 σ3, Ext [] F2 H2 F3 H3 → EnvD K F3 r3 σ3 → R r3 → N σ3 H3) → tb { DE with nx := N, ct := N, bk := DE.nx } σ' H2)
    (hd : ∀ F' H' r' σ', Ext [] F H F' H' → EnvD K F' r' σ' → R r' → DE.nx σ' H') : tFor wi g tb DE σ H :=
  s_forG [] (fun _ _ _ r' => R r') u S E hi hg (fun _ _ _ => h0) (fun i d F1 H1 F2 H2 r' σ' N h1 x p x2 E2 n => hs d F2 H2 r' σ' N (List.mem_of_getElem? h1) (x.f.trans x2.f) x2.s p E2 n) fun F' H' r' σ' x E' p => hd F' H' r' σ' x E' p
/-- d.get(k, x) -/
theorem ev_get2 {es : List (Key × D)} {k : Key} {dk dx : D} (ha : EvD K ta σ F (.dic es)) (hk : EvD K tb σ F dk) (ek : dk = kD k) (hx : EvD K tc σ F dx) : EvD K (tDGet2 ta tb tc) σ F ((valD es k).getD dx) := fun H s Q q =>
  ha H s _ fun v F1 H1 x1 d1 => by
    subst ek
    cases d1 with
    | dic a l =>
      refine ⟨_, rfl, .inl ⟨_, .inr ⟨_, x1.s _ _ a⟩⟩, (hk.up x1.f) H1 x1.s _ fun y F2 H2 x2 d2 => (hx.up (x1.f.trans x2.f)) H2 x2.s _ fun z F3 H3 x3 d3 => ?_⟩
      have ey := den_key d2
      subst ey
      refine ⟨_, .inl ⟨_, k, .inr ⟨_, x3.s _ _ ((x2.f.trans x3.f) _ _ a)⟩, rfl, rfl⟩, ?_⟩
      rcases (DenK.mono (x2.f.trans x3.f) es l).val k with ⟨v, d', h1, h2, h3⟩ | ⟨h1, h2⟩
      · rw [h1]; rw [h2] at q; exact q _ F3 H3 ((x1.tr x2).tr x3) h3
      · rw [h1]; rw [h2] at q; exact q _ F3 H3 ((x1.tr x2).tr x3) d3
/-- [f(x, y) for x in xs for y in ys if p(x, y)] -/
theorem ev_lc2 {items : List D} {ys : D → List D} {f : D → D → D} {p : D → D → Bool} {j j1 : Nat} {vs vs1 : List Nat} {tt1 : TT} {wi wi1 : TI} {N : Nat} (E : EnvD K F r σ) (hi : EvI K wi σ F items) (hn : items.length * N < sizeLine) (hN : ∀ d, d ∈ items → (ys d).length ≤ N)
    (hw : ∀ (σ' : L2.St) (x : Option V), wipe ((wipe σ' vs).set j x) vs = wipe σ' vs) (hw1 : ∀ (σ' : L2.St) (x : Option V), wipe ((wipe σ' vs1).set j1 x) vs1 = wipe σ' vs1)
    (hi1 : ∀ d F' σ', d ∈ items → Same F F' → EnvD K F' ((wipeR r vs).set j (.d d)) σ' → EvI K wi1 σ' F' (ys d))
    (ht : ∀ d e F' σ', d ∈ items → e ∈ ys d → Same F F' → EnvD K F' ((wipeR ((wipeR r vs).set j (.d d)) vs1).set j1 (.d e)) σ' → EvT K tt1 σ' F' (p d e))
    (he : ∀ d e F' σ', d ∈ items → e ∈ ys d → Same F F' → EnvD K F' ((wipeR ((wipeR r vs).set j (.d d)) vs1).set j1 (.d e)) σ' → p d e = true → EvD K te σ' F' (f d e)) :
    EvD K (tLc2 wi (gName j) tYes wi1 (gName j1) tt1 te vs vs1) σ F (.lst (items.flatMap fun d => ((ys d).filter (p d)).map (f d))) := fun H s Q q => hi H s _ fun J F1 H1 x1 W1 Dl hD => by
  obtain ⟨G, Y, w, hg, hy⟩ := W1
  let out : D → List D := fun d => ((ys d).filter (p d)).map (f d)
  have outN : ∀ d, d ∈ items → (out d).length ≤ N := fun d hd => by
    have := List.length_filter_le (p d) (ys d)
    have := hN d hd
    simp only [out, List.length_map]
    omega
  refine ⟨fun i m H' => m = items.length - i ∧ i ≤ items.length ∧ ∃ F' acc, Ext [] F1 H1 F' H' ∧ F' Dl = none ∧ H' Dl = some (.lst acc) ∧ DenL K F' acc ((items.take i).flatMap out) ∧ acc.length ≤ i * N, ⟨items.length, by simp, Nat.zero_le _, F1, [], Ext.newM x1.s hD, x1.s.free hD, upd_same, .nil, Nat.zero_le _⟩, ?_⟩
  rintro i m H' ⟨rfl, hle, F', acc, x, fD, eD, l, hac⟩
  have hG := hg H' (x.f.trans x.s)
  by_cases hlt : i < items.length
  · refine .inr ⟨w.goes i H' hlt hG, fun H' => i + 1 ≤ items.length ∧ ∃ F' acc, Ext [] F1 H1 F' H' ∧ F' Dl = none ∧ H' Dl = some (.lst acc) ∧ DenL K F' acc ((items.take (i + 1)).flatMap out) ∧ acc.length ≤ (i + 1) * N, fun H2 q => ⟨items.length - (i + 1), by omega, rfl, q⟩, fun v H'' y => ?_⟩
    obtain ⟨d, F2, h1, h2, h3⟩ := hy i H' v H'' hlt (x.f.trans x.s) (w.yields i H' v H'' hlt hG y)
    have hd : d ∈ items := List.mem_of_getElem? h1
    have x2 := Ext.uni x.f x.s h2
    have h3' : Den K (uni F' F2) v d := h3.up (uni_r (x.s.trans h2.same) h2.s)
    have fD2 : uni F' F2 Dl = none := x2.n Dl fD (by rw [eD]; simp)
    have eD2 : H'' Dl = some (.lst acc) := x2.same _ _ eD
    have E2 : EnvD K (uni F' F2) ((wipeR r vs).set j (.d d)) ((wipe σ vs).set j (some v)) := EnvD.set j ((EnvD.wipe E vs).up ((x1.f.trans x.f).trans x2.f)) ⟨v, rfl, h3'⟩
    have sF : Same F (uni F' F2) := (x1.f.trans x.f).trans x2.f
    refine ⟨hw σ _, ?_⟩
    refine hi1 d _ _ hd sF E2 H'' x2.s _ fun J1 F3 H3 x3 W3 => ?_
    obtain ⟨G1, Y1, w1, hg1, hy1⟩ := W3
    have fD3 : F3 Dl = none := x3.n Dl fD2 (by rw [eD2]; simp)
    have eD3 : H3 Dl = some (.lst acc) := x3.same _ _ eD2
    refine ⟨fun k n H4 => n = (ys d).length - k ∧ k ≤ (ys d).length ∧ ∃ F4 acc4, Ext [] F1 H1 F4 H4 ∧ Same F3 F4 ∧ F4 Dl = none ∧ H4 Dl = some (.lst acc4) ∧ DenL K F4 acc4 ((items.take i).flatMap out ++ (((ys d).take k).filter (p d)).map (f d)), ⟨(ys d).length, by simp, Nat.zero_le _, F3, acc, (x.tr x2).tr x3, Same.refl _, fD3, eD3, by simpa using l.up (x2.f.trans x3.f)⟩, ?_⟩
    rintro k n H4 ⟨rfl, hk, F4, acc4, x4, s34, fD4, eD4, l4⟩
    have hG1 := hg1 H4 (s34.trans x4.s)
    have len4 : acc4.length ≤ i * N + k := by
      have h5 := l4.length
      have h6 := l.length
      rw [List.length_append, List.length_map, ← h6] at h5
      have h7 := List.length_filter_le (p d) ((ys d).take k)
      have h8 := List.length_take_le k (ys d)
      omega
    have big : (i + 1) * N ≤ items.length * N := Nat.mul_le_mul_right _ hlt
    have big' : (i + 1) * N = i * N + N := by rw [Nat.add_mul, Nat.one_mul]
    have hNd := hN d hd
    by_cases hkt : k < (ys d).length
    · refine .inr ⟨w1.goes k H4 hkt hG1, fun H' => k + 1 ≤ (ys d).length ∧ ∃ F4 acc4, Ext [] F1 H1 F4 H' ∧ Same F3 F4 ∧ F4 Dl = none ∧ H' Dl = some (.lst acc4) ∧ DenL K F4 acc4 ((items.take i).flatMap out ++ (((ys d).take (k + 1)).filter (p d)).map (f d)), fun H2 q => ⟨(ys d).length - (k + 1), by omega, rfl, q⟩, fun v1 H5 y1 => ?_⟩
      obtain ⟨e, F5, g1, g2, g3⟩ := hy1 k H4 v1 H5 hkt (s34.trans x4.s) (w1.yields k H4 v1 H5 hkt hG1 y1)
      have he' : e ∈ ys d := List.mem_of_getElem? g1
      have x5 := Ext.uni s34 x4.s g2
      have g3' : Den K (uni F4 F5) v1 e := g3.up (uni_r (x4.s.trans g2.same) g2.s)
      have fD5 : uni F4 F5 Dl = none := x5.n Dl fD4 (by rw [eD4]; simp)
      have eD5 : H5 Dl = some (.lst acc4) := x5.same _ _ eD4
      have E5 : EnvD K (uni F4 F5) ((wipeR ((wipeR r vs).set j (.d d)) vs1).set j1 (.d e)) ((wipe ((wipe σ vs).set j (some v)) vs1).set j1 (some v1)) := EnvD.set j1 ((EnvD.wipe E2 vs1).up ((x3.f.trans s34).trans x5.f)) ⟨v1, rfl, g3'⟩
      have sF5 : Same F (uni F4 F5) := sF.trans ((x3.f.trans s34).trans x5.f)
      refine ⟨hw1 _ _, ?_⟩
      refine ht d e _ _ hd he' sF5 E5 H5 x5.s _ fun F6 H6 x6 => ?_
      have fD6 : F6 Dl = none := x6.n Dl fD5 (by rw [eD5]; simp)
      have eD6 : H6 Dl = some (.lst acc4) := x6.same _ _ eD5
      cases hp : p d e with
      | true =>
        rw [if_pos rfl]
        refine ((he d e _ _ hd he' sF5 E5 hp).up x6.f) H6 x6.s _ fun z F7 H7 x7 d7 => ?_
        have fD7 : F7 Dl = none := x7.n Dl fD6 (by rw [eD6]; simp)
        have eD7 : H7 Dl = some (.lst acc4) := x7.same _ _ eD6
        refine ⟨acc4, eD7, by omega, hkt, F7, acc4 ++ [z], Ext.mutNew (((x4.tr x5).tr x6).tr x7) hD fD7, (s34.trans x5.f).trans (x6.f.trans x7.f), fD7, upd_same, ?_⟩
        rw [take_succ' g1, List.filter_append, List.map_append, List.filter_cons, if_pos hp, ← List.append_assoc]
        exact (l4.up ((x5.f.trans x6.f).trans x7.f)).append (.cons d7 .nil)
      | false =>
        rw [if_neg (by decide)]
        refine ⟨hkt, F6, acc4, (x4.tr x5).tr x6, (s34.trans x5.f).trans x6.f, fD6, eD6, ?_⟩
        rw [take_succ' g1, List.filter_append, List.map_append, List.filter_cons, if_neg (by rw [hp]; decide)]
        show DenL K F6 acc4 (_ ++ (_ ++ []))
        rw [List.append_nil]
        exact l4.up (x5.f.trans x6.f)
    · have ek : k = (ys d).length := by omega
      subst ek
      refine .inl ⟨w1.stops H4 hG1, hlt, F4, acc4, x4, fD4, eD4, ?_, by omega⟩
      rw [take_succ' h1, List.flatMap_append, List.flatMap_cons, List.flatMap_nil, List.append_nil]
      rw [List.take_length] at l4
      exact l4
  · have ei : i = items.length := by omega
    subst ei
    refine .inl ⟨w.stops H' hG, ?_⟩
    rw [List.take_length] at l
    exact q _ _ _ (x1.tr (Ext.freeze x hD eD fD)) (.lst upd_same (l.up (same_new fD)))
end
end Nm

set_option Elab.async false
set_option linter.all false
set_option maxRecDepth 100000
set_option maxHeartbeats 1000000
namespace Nm
open PySem PySem.Spec L2
/-! ### tables as data -/
def chs (l : List Nat) : List D := l.map fun c => .str ⟨#[c]⟩
def txt (l : List Nat) : D := .str ⟨l.toArray⟩
def foE (fo : Fo) : List (Key × D) := fo.map fun p => (.inr ⟨#[p.1]⟩, txt p.2)
def maE (ma : Ma) : List (Key × D) := ma.map fun p => (.inr ⟨#[p.1]⟩, .int (p.2 : Nat))
def foD (fo : Fo) : D := .dic (foE fo)
def maD (ma : Ma) : D := .dic (maE ma)
def ruleD (fo : Fo) (ma : Ma) : D := .tup [foD fo, maD ma]
def tabD (C : Addr) (fo : Fo) (ma : Ma) : D := .obj C [("rule", ruleD fo ma)]
theorem one_eq {a b : Nat} : ((.inr ⟨#[a]⟩ : Key) = .inr ⟨#[b]⟩) ↔ a = b := by
  constructor
  · intro h
    have h := Sum.inr.inj h
    have h := congrArg Str.cps h
    have h : (#[a] : Array Nat) = #[b] := h
    have h := congrArg Array.toList h
    simpa using h
  · intro h; rw [h]
theorem valD_map {α : Type} (g : α → D) (c : Nat) : ∀ m : List (Nat × α), valD (m.map fun p => ((.inr ⟨#[p.1]⟩ : Key), g p.2)) (.inr ⟨#[c]⟩) = (lk m c).map g
  | [] => rfl
  | (a, w) :: m => by
    have ih := valD_map g c m
    unfold valD lk at ih ⊢
    by_cases e : a = c
    · subst e; simp
    · have e' : ((.inr ⟨#[a]⟩ : Key) = .inr ⟨#[c]⟩) = False := eq_false fun h => e (one_eq.mp h)
      simp only [List.map_cons, List.find?_cons, e', decide_false, e]
      exact ih
theorem valD_fo {fo : Fo} {c : Nat} : valD (foE fo) (.inr ⟨#[c]⟩) = (lk fo c).map txt := valD_map txt c fo
theorem valD_ma {ma : Ma} {c : Nat} : valD (maE ma) (.inr ⟨#[c]⟩) = (lk ma c).map fun n => .int (n : Nat) := valD_map (fun n => .int (n : Nat)) c ma
theorem isSome_fo {fo : Fo} {c : Nat} : (valD (foE fo) (.inr ⟨#[c]⟩)).isSome = (lk fo c).isSome := by rw [valD_fo]; cases lk fo c <;> rfl
theorem isSome_ma {ma : Ma} {c : Nat} : (valD (maE ma) (.inr ⟨#[c]⟩)).isSome = (lk ma c).isSome := by rw [valD_ma]; cases lk ma c <;> rfl
/-! ### promises by a relation -/
def spR (K : PySem.W.Frag) (n : Nat) (R : List D → D → Prop) : Sp := fun vs H Q _ => ∃ F ds d, Same F H ∧ DenL K F vs ds ∧ R ds d ∧ ds.length = n ∧ ∀ v F' H', Ext [] F H F' H' → Den K F' v d → Q v H'
section
variable {K : PySem.W.Frag} {vs : List V} {H F : Hp} {Q : VK} {E : XK} {R : List D → D → Prop} {n : Nat} {σ : L2.St} {ds : List D} {d : D}
theorem spR_len (h : spR K n R vs H Q E) : vs.length = n := by
  obtain ⟨F, ds, d, _, l, _, e, _⟩ := h
  rw [l.length, e]
theorem spR1 (h : spR K 1 R vs H Q E) : ∃ F v x d, vs = [v] ∧ Same F H ∧ Den K F v x ∧ R [x] d ∧ ∀ v F' H', Ext [] F H F' H' → Den K F' v d → Q v H' := by
  obtain ⟨F, ds, d, S, l, hf, hn, k⟩ := h
  match ds, l, hn with
  | [x], .cons hv .nil, _ => exact ⟨F, _, x, d, rfl, S, hv, hf, k⟩
theorem spR2 (h : spR K 2 R vs H Q E) : ∃ F v w x y d, vs = [v, w] ∧ Same F H ∧ Den K F v x ∧ Den K F w y ∧ R [x, y] d ∧ ∀ v F' H', Ext [] F H F' H' → Den K F' v d → Q v H' := by
  obtain ⟨F, ds, d, S, l, hf, hn, k⟩ := h
  match ds, l, hn with
  | [x, y], .cons hv (.cons hw .nil), _ => exact ⟨F, _, _, x, y, d, rfl, S, hv, hw, hf, k⟩
theorem spR3 (h : spR K 3 R vs H Q E) : ∃ F v w u x y z d, vs = [v, w, u] ∧ Same F H ∧ Den K F v x ∧ Den K F w y ∧ Den K F u z ∧ R [x, y, z] d ∧ ∀ v F' H', Ext [] F H F' H' → Den K F' v d → Q v H' := by
  obtain ⟨F, ds, d, S, l, hf, hn, k⟩ := h
  match ds, l, hn with
  | [x, y, z], .cons hv (.cons hw (.cons hu .nil)), _ => exact ⟨F, _, _, _, x, y, z, d, rfl, S, hv, hw, hu, hf, k⟩
theorem ev_callR {ta : TA} (ha : EvA K ta σ F ds) (hf : R ds d) (hn : ds.length = n) : EvD K (tCall (spR K n R) [] E ta) σ F d := fun H s Q q =>
  ha H s _ fun vs F1 H1 x1 l1 => ⟨F1, ds, d, x1.s, by rw [List.append_nil]; exact l1, hf, hn, fun v F2 H2 x2 d2 => q v F2 H2 (x1.tr x2) d2⟩
theorem ev_callQR {te : TE} {tr : TA} {C : Addr} {gs : List (Str × D)} (hf : EvD K te σ F (.obj C gs)) (ha : EvA K tr σ F ds) (he : R (.obj C gs :: ds) d) (hn : (D.obj C gs :: ds).length = n) :
    EvD K (tCallQ C (spR K n R) E te tr) σ F d := fun H s Q q =>
  hf H s _ fun v F1 H1 x1 d1 => by
    have d1' := d1
    cases d1 with
    | obj a l =>
      refine ⟨_, rfl, (ha.up x1.f) H1 x1.s _ fun vs F2 H2 x2 l2 => ⟨⟨_, _, x2.s _ _ (x2.f _ _ a)⟩, F2, _, d, x2.s, .cons (d1'.up x2.f) l2, he, hn, fun w F3 H3 x3 d3 => q w F3 H3 ((x1.tr x2).tr x3) d3⟩⟩
/-- a drop -/
theorem q_drop {te : TE} {tz : TS} {DE : Ends} (S : Same F H) (h : EvD K te σ F d) (k : ∀ F' H', Ext [] F H F' H' → tz DE σ H') : tSeq (tDrop te) tz DE σ H := h H S _ fun _ F' H' x _ => k F' H' x
/-- x in (1, 2, 3) -/
theorem rv_in_ints {i : Int} {ns : List Int} : RvD K (rInA K) (.int i) (.tup (ns.map D.int)) (.bl (ns.any (· == i))) := fun F H x y s hx hy Q q => by
  cases hx
  cases hy with
  | tup r l =>
    rw [denL_ints l] at r
    refine .inr (.inl ⟨_, _, rfl, .inr (same_t s r), rfl, ?_, ?_⟩)
    · rw [List.all_map]; exact List.all_eq_true.mpr fun _ _ => rfl
    · have e : inV (.int i) (ns.map V.int) = ns.any (· == i) := by unfold inV; rw [List.any_map]; rfl
      show Q (.bl (inV (.int i) (ns.map V.int))) H
      rw [e]
      exact q _ F H (Ext.refl s) (.bl _)
/-- __init__ by a relation -/
def spIR (K : PySem.W.Frag) (C : Addr) (n : Nat) (R : List D → List (Str × D) → Prop) : Sp := fun vs H Q _ => ∃ F x dx ws ds gs, vs = .ref x :: ws ∧ Same F H ∧ H x = some (.ins C dx []) ∧ F x = none ∧ DenL K F ws ds ∧ ds.length = n ∧ R ds gs ∧
  ∀ fs F' H', Ext [x] F H F' H' → F' x = none → H' x = some (.ins C dx fs) → DenF K F' fs gs → Q .non H'
theorem spIR_len {C : Addr} {R : List D → List (Str × D) → Prop} (h : spIR K C n R vs H Q E) : vs.length = n + 1 := by
  obtain ⟨F, x, dx, ws, ds, gs, rfl, _, _, _, l, e, _⟩ := h
  rw [List.length_cons, l.length, e]
theorem ev_makeR {C : Addr} {tr : TA} {R : List D → List (Str × D) → Prop} {gs : List (Str × D)} (ha : EvA K tr σ F ds) (hf : R ds gs) (hn : ds.length = n) : EvD K (tMake C (spIR K C n R) [] E tr) σ F (.obj C gs) := fun H s Q q =>
  ha H s _ fun vs F1 H1 x1 l1 x dx hx hdx ne => by
    have y1 : Ext [] F1 H1 F1 (upd H1 dx (.own x)) := Ext.newM x1.s hdx
    have hx' : upd H1 dx (.own x) x = none := by rw [upd_ne (Ne.symm ne)]; exact hx
    have y2 : Ext [] F1 (upd H1 dx (.own x)) F1 (upd (upd H1 dx (.own x)) x (.ins C dx [])) := Ext.newM y1.s hx'
    refine ⟨F1, x, dx, vs, ds, gs, by simp, y2.s, upd_same, x1.s.free hx, l1, hn, hf, fun fs F2 H2 x2 fx hx2 l2 => ⟨rfl, ?_⟩⟩
    have z : Ext [] F1 H1 F2 H2 := Ext.forget (y1.tr y2) x2 hx
    have z2 := Ext.freeze z hx hx2 fx
    exact q _ _ _ (x1.tr z2) (.obj upd_same (DenF.mono (same_new fx) gs l2))
theorem ev_tupC {a : Addr} {xs : List V} {ds : List D} (h : ∀ H, SqT K H a xs) (l : DenL K F xs ds) : EvD K (tC (.ref a)) σ F (.tup ds) := ev_c (.tup (h F) l)
variable {ta tb : TE}
theorem txt_len (w : List Nat) : (⟨w.toArray⟩ : Str).length = w.length := by simp [Str.length]
theorem wipe2 {i j : Nat} (h : i ≠ j) (σ' : L2.St) (x : Option V) : wipe ((wipe σ' [i, j]).set i x) [i, j] = wipe σ' [i, j] := by
  show ((((σ'.set j none).set i none).set i x).set j none).set i none = (σ'.set j none).set i none
  rw [List.set_set, List.set_comm none x (Ne.symm h), List.set_set, List.set_comm none none (Ne.symm h), List.set_set, List.set_comm none none h]
theorem lk_self {α : Type} : ∀ {m : List (Nat × α)} {p : Nat × α}, (m.map (·.1)).Nodup → p ∈ m → lk m p.1 = some p.2
  | (a, w) :: m, p, nd, h => by
    rw [List.map_cons, List.nodup_cons] at nd
    unfold lk
    rcases List.mem_cons.mp h with rfl | h
    · simp
    · have ne : a ≠ p.1 := fun e => nd.1 (by rw [e]; exact List.mem_map.mpr ⟨p, h, rfl⟩)
      rw [List.find?_cons]
      simp only [ne, decide_false]
      exact lk_self nd.2 h
theorem chs_str (l : List Nat) : chs l = (l.map fun c => (⟨#[c]⟩ : Str)).map D.str := by unfold chs; rw [List.map_map]; rfl
theorem chs_app (a b : List Nat) : chs (a ++ b) = chs a ++ chs b := by unfold chs; rw [List.map_append]
theorem chs_len (l : List Nat) : (chs l).length = l.length := by unfold chs; rw [List.length_map]
theorem join_flat (ws : List (List Nat)) : Txt.join Str.empty (ws.map fun w => (⟨w.toArray⟩ : Str)) = ⟨ws.flatten.toArray⟩ := by
  apply str_ext
  rw [join_toList, List.map_map]
  have : (fun y : Str => y.cps.toList) ∘ (fun w : List Nat => (⟨w.toArray⟩ : Str)) = id := by funext w; rfl
  rw [this, List.map_id]
theorem sum_len (ws : List (List Nat)) : ((ws.map fun w => (⟨w.toArray⟩ : Str)).map (·.length)).sum = ws.flatten.length := by
  rw [List.length_flatten, List.map_map]
  congr 1
theorem one_flat (l : List Nat) : (l.map fun c => [c]).flatten = l := by
  induction l with
  | nil => rfl
  | cons c l ih => rw [List.map_cons, List.flatten_cons, ih]; rfl
/-- "".join(words) -/
theorem ev_joinW {ws : List (List Nat)} {ds : List D} (h1 : EvD K ta σ F (.str Str.empty)) (h2 : EvD K tb σ F (.lst ds)) (e : ds = ws.map txt) (hz : ws.flatten.length ≤ 16777216) : EvD K (tM1 (rJoin K) ta tb) σ F (txt ws.flatten) := by
  subst e
  have e2 : ws.map txt = (ws.map fun w => (⟨w.toArray⟩ : Str)).map D.str := by rw [List.map_map]; rfl
  rw [e2] at h2
  have h := ev_join h1 h2 (by rw [sum_len]; show _ + _ * 0 ≤ _; omega)
  rw [join_flat] at h
  exact h
theorem ev_joinC {l : List Nat} {ds : List D} (h1 : EvD K ta σ F (.str Str.empty)) (h2 : EvD K tb σ F (.lst ds)) (e : ds = chs l) (hz : l.length ≤ 16777216) : EvD K (tM1 (rJoin K) ta tb) σ F (txt l) := by
  have h := ev_joinW (ws := l.map fun c => [c]) h1 h2 (by rw [e, List.map_map]; rfl) (by rw [one_flat]; exact hz)
  rw [one_flat] at h
  exact h
end
end Nm

set_option Elab.async false
set_option linter.all false
set_option maxRecDepth 100000
set_option maxHeartbeats 1000000
namespace Nm
open PySem PySem.Spec L2
section
variable {K : PySem.W.Frag} {F H : Hp} {σ : L2.St} {ta tb tm tv te : TE} {d : D} {r : List Sl} {DE : Ends} {b p : Addr} {n c i j : Nat} {R : D → Prop} {E : XK}
theorem Ext.drop {M M' : List Addr} {F1 H1 F2 H2 : Hp} (x : Ext [] F H F1 H1) (y : Ext M F1 H1 F2 H2) (h : ∀ a ∈ M, a ∈ M' ∨ H a = none) : Ext M' F H F2 H2 :=
  ⟨x.f.trans y.f, fun a o m e => y.h a o (fun z => (h a z).elim m (fun q => by rw [q] at e; cases e)) (x.same a o e), y.s, fun a f k => y.n a (x.n a f k) (x.k a k), fun a k => y.k a (x.k a k)⟩
theorem BagAt.set {o u : HO} (w : BagAt F H b n) (ne : b ≠ p) : BagAt F (upd H p u) b n := by
  obtain ⟨x, y, z, o, h⟩ := w
  exact ⟨x, y, z, ⟨o.f, by rw [upd_ne ne]; exact o.h⟩, h⟩
theorem BagAt.ext {M : List Addr} {F1 H1 : Hp} (w : BagAt F H b n) (x : Ext M F H F1 H1) (h : b ∉ M) : BagAt F1 H1 b n := by
  obtain ⟨p, q, r, o, k⟩ := w
  exact ⟨p, q, r, o.ext x h, k⟩
theorem Own.put {o u : HO} {q : Addr} (w : Own F H q o) (ne : q ≠ p) : Own F (upd H p u) q o := ⟨w.f, by rw [upd_ne ne]; exact w.h⟩
/-- an if whose test draws -/
theorem s_ifB {tu tw : TS} (S : Same F H) (w : BagAt F H b (n + c)) (h : EvB K b c te σ F (fun d => ∃ bb, d = .bl bb)) (h1 : ∀ F' H', Ext [b] F H F' H' → BagAt F' H' b n → tu DE σ H') (h2 : ∀ F' H', Ext [b] F H F' H' → BagAt F' H' b n → tw DE σ H') : tIfS (tTest te) tu tw DE σ H :=
  h H n S w _ fun v d F' H' x w' r dv => by
    obtain ⟨bb, rfl⟩ := r
    cases dv
    refine ⟨bb, rfl, ?_⟩
    cases bb with
    | true => exact h1 F' H' x w'
    | false => exact h2 F' H' x w'
theorem q_ifB {tu tw tz : TS} (S : Same F H) (w : BagAt F H b (n + c)) (h : EvB K b c te σ F (fun d => ∃ bb, d = .bl bb)) (h1 : ∀ F' H', Ext [b] F H F' H' → BagAt F' H' b n → tu { DE with nx := tz DE } σ H') (h2 : ∀ F' H', Ext [b] F H F' H' → BagAt F' H' b n → tw { DE with nx := tz DE } σ H') : tSeq (tIfS (tTest te) tu tw) tz DE σ H := s_ifB (DE := { DE with nx := tz DE }) S w h h1 h2
/-- d[k] = drawn -/
theorem s_dputB {kvs : List (Key × V)} {x : Str} (S : Same F H) (EV : EnvD K F r σ) (w : BagAt F H b (n + c)) (h : EvB K b c tv σ F R) (hp : r[i]? = some (.v (.ref p))) (hy : r[j]? = some (.d (.str x))) (o : Own F H p (.dK kvs)) (hl : kvs.length < sizeLine) (ne : p ≠ b)
    (k : ∀ v d F' H', R d → Den K F' v d → Ext [b] F H F' H' → BagAt F' H' b n → Own F' H' p (.dK kvs) → DE.nx σ (upd H' p (.dK (putK kvs (.inr x) v)))) : sDPut (tVar i) (tVar j) tv DE σ H :=
  h H n S w _ fun v d F' H' x1 w' rd dv => by
    obtain ⟨o1, g1, g2⟩ := EV.get hp
    have g2 : o1 = some (.ref p) := g2
    subst g2
    obtain ⟨o2, g3, y, g4, g5⟩ := EV.get hy
    subst g4
    cases g5
    have o' : Own F' H' p (.dK kvs) := o.ext x1 (by simpa using ne)
    exact ⟨_, g1, _, g3, p, _, rfl, .inl ⟨kvs, .inr x, o'.h, rfl, hl, rfl⟩, k v d F' H' rd dv x1 w' o'⟩
theorem putK_new {κ : Type} [DecidableEq κ] {kvs : List (κ × V)} {k : κ} {v : V} (h : ∀ p ∈ kvs, p.1 ≠ k) : putK kvs k v = kvs ++ [(k, v)] := by
  unfold putK
  rw [if_neg]
  intro z
  obtain ⟨p, hp, e⟩ := List.any_eq_true.mp z
  exact h p hp (of_decide_eq_true e)
theorem ones' {P : Nat → Prop} : ∀ {es : List D}, (∀ e ∈ es, ∃ c, e = .str ⟨#[c]⟩ ∧ P c) → ∃ w, es = chs w ∧ ∀ c ∈ w, P c
  | [], _ => ⟨[], rfl, by simp⟩
  | e :: es, h => by
    obtain ⟨c, rfl, hc⟩ := h e (by simp)
    obtain ⟨w, rfl, hw⟩ := ones' (P := P) (es := es) fun e he => h e (List.mem_cons_of_mem _ he)
    exact ⟨c :: w, rfl, fun c' hc' => by
      rcases List.mem_cons.mp hc' with rfl | h
      · exact hc
      · exact hw c' h⟩
theorem sum_one : ∀ w : List Nat, ((w.map fun c => (⟨#[c]⟩ : Str)).map (·.length)).sum = w.length
  | [] => rfl
  | c :: w => by
    have := sum_one w
    simp only [List.map_cons, List.sum_cons, this, List.length_cons]
    show 1 + _ = _
    omega
theorem eb_joinC {P : List Nat → Prop} (h1 : EvD K ta σ F (.str Str.empty)) (h2 : EvB K b c tb σ F (fun d => ∃ w, d = .lst (chs w) ∧ P w ∧ w.length ≤ 1000000)) : EvB K b c (tM1 (rJoin K) ta tb) σ F (fun d => ∃ w, d = txt w ∧ P w) :=
  eb_join h1 h2 fun d ⟨w, e, hp, hz⟩ => by
    refine ⟨w.map fun c => ⟨#[c]⟩, by rw [e, chs_str], ?_, w, ?_, hp⟩
    · rw [sum_one]
      show _ + _ * 0 ≤ _
      omega
    · have := join_flat (w.map fun c => [c])
      rw [one_flat, List.map_map] at this
      exact congrArg D.str this
/-- "".join([text[take(..)] for k in ..]) -/
theorem eb_word {z : Str} {m lo N ci : Nat} {wi : TI} (EV : EnvD K F r σ) (hi : (wipeR r [j])[i]? = some (.v (.ref b))) (hij : i ≠ j) (hw : EvBI K b ci wi σ F (fun ds => lo ≤ ds.length ∧ ds.length ≤ N)) (hN : N < 1000000) (h1 : EvD K ta σ F (.str Str.empty))
    (ha : ∀ F' σ' d, Same F F' → EnvD K F' ((wipeR r [j]).set j (.d d)) σ' → EvD K tb σ' F' (.str z)) (hm : ∀ F' σ' d, Same F F' → EnvD K F' ((wipeR r [j]).set j (.d d)) σ' → EvD K tm σ' F' (.int (m : Nat))) (h0 : 0 < m) (hz : m = z.length) (hz2 : z.length ≤ 100000) :
    EvB K b (ci + N * 1) (tM1 (rJoin K) ta (tLc wi (gName j) tYes (tOp (rIxA K) tb (tCall (spTake K) [] E (tCons (tVar i) (tCons tm tNil)))) [j])) σ F (fun d => ∃ w, d = txt w ∧ lo ≤ w.length ∧ w.length ≤ N ∧ ∀ c ∈ w, c ∈ z.cps.toList) := by
  refine eb_joinC (P := fun w => lo ≤ w.length ∧ w.length ≤ N ∧ ∀ c ∈ w, c ∈ z.cps.toList) h1 (eb_lc (RE := fun _ e => ∃ c, e = .str ⟨#[c]⟩ ∧ c ∈ z.cps.toList) EV hw (fun ds h => h.2) (by rw [sizeLine_eq]; omega) (wipe1 j) (fun ds d F' σ' _ _ s E' => eb_pick_str E' ?_ (ha F' σ' d s E') (hm F' σ' d s E') h0 hz hz2) ?_)
  · rw [List.getElem?_set_ne (Ne.symm hij)]; exact hi
  · intro ds es hd hl hre
    obtain ⟨w, rfl, hw⟩ := ones' (P := fun c => c ∈ z.cps.toList) (es := es) fun e he => by
      obtain ⟨k, hk⟩ := List.mem_iff_getElem?.mp he
      have hlt : k < ds.length := by rw [← hl]; exact (List.getElem?_eq_some_iff.mp hk).1
      exact hre k _ e (List.getElem?_eq_getElem hlt) hk
    rw [chs_len] at hl
    exact ⟨w, rfl, ⟨by omega, by omega, hw⟩, by omega⟩
theorem q_pairAsg {x y : V} {g : TG} {tz : TS} (ha : At ta σ H x) (hb : At tb σ H y) (k : ∀ t, H t = none → g (.ref t) σ (upd H t (.tup [x, y])) (tz DE)) : tSeq (tAsg (tTup (tCons ta (tCons tb tNil))) g) tz DE σ H :=
  ha _ (hb _ ⟨sz2, k⟩)
theorem g_swap {to1 ti1 to2 ti2 : TE} {t p : Addr} {x y : V} {xs : List V} {i j : Nat} {Q : L2.St → Hp → Prop} (ht : H t = some (.tup [x, y])) (h1 : At to1 σ H (.ref p)) (h2 : At ti1 σ H (.int (i : Nat))) (hp : H p = some (.lst xs)) (hi : i < xs.length)
    (h3 : ∀ H, At to2 σ H (.ref p)) (h4 : ∀ H, At ti2 σ H (.int (j : Nat))) (hj : j < xs.length) (k : Q σ (upd H p (.lst ((xs.set i x).set j y)))) : gTup K 2 (gCons (gSub to1 ti1 rSetL) (gCons (gSub to2 ti2 rSetL) gNil)) (.ref t) σ H Q := by
  refine ⟨t, _, rfl, SqT.of ht, rfl, _, _, rfl, ?_⟩
  refine h1 _ (h2 _ ⟨p, xs, _, i, rfl, rfl, hp, Evl.ixN_nat hi, ?_⟩)
  refine ⟨_, _, rfl, ?_⟩
  refine h3 _ _ (h4 _ _ ⟨p, _, _, j, rfl, rfl, upd_same, Evl.ixN_nat (by rw [List.length_set]; exact hj), rfl, ?_⟩)
  rw [upd_upd]
  exact k
/-! ### drawn rules -/
def key7 : List Nat := [65, 49, 66, 50, 95, 90, 57]
def sig7 : List Nat := [97, 97, 98, 99, 39, 58, 94]
def mrk4 : List Nat := [39, 58, 94, 126]
structure Drawn (fo : Fo) (ma : Ma) : Prop where
  fk : (fo.map (·.1)).Sublist key7
  fw : ∀ p ∈ fo, 1 ≤ p.2.length ∧ p.2.length ≤ 3 ∧ ∀ c ∈ p.2, c ∈ sig7
  mq : (ma.map (·.1)).Sublist mrk4
  mc : ∀ p ∈ ma, p.2 = 1 ∨ p.2 = 2 ∨ p.2 = 3
def foV (fo : Fo) : List (Key × V) := fo.map fun p => (.inr ⟨#[p.1]⟩, .str ⟨p.2.toArray⟩)
def maV (ma : Ma) : List (Key × V) := ma.map fun p => (.inr ⟨#[p.1]⟩, .int (p.2 : Nat))
theorem den_foV : ∀ fo : Fo, DenK K F (foV fo) (foE fo)
  | [] => .nil
  | p :: fo => .cons (.str _) (den_foV fo)
theorem den_maV : ∀ ma : Ma, DenK K F (maV ma) (maE ma)
  | [] => .nil
  | p :: ma => .cons (.int _) (den_maV ma)
theorem sub_succ {xs key : List Nat} {i c : Nat} (h : xs.Sublist (key.take i)) (hc : key[i]? = some c) : (xs ++ [c]).Sublist (key.take (i + 1)) ∧ xs.Sublist (key.take (i + 1)) := by
  rw [take_succ' hc]
  exact ⟨h.append (List.Sublist.refl _), h.trans (List.sublist_append_left _ _)⟩
theorem sub_new {xs key : List Nat} {i c : Nat} (nd : key.Nodup) (h : xs.Sublist (key.take i)) (hc : key[i]? = some c) : c ∉ xs := fun hx => by
  have h1 : c ∈ key.take i := h.subset hx
  obtain ⟨k, hk⟩ := List.mem_iff_getElem?.mp h1
  have hk2 := (List.getElem?_eq_some_iff.mp hk).1
  rw [List.length_take] at hk2
  rw [List.getElem?_take_of_lt (by omega)] at hk
  have hi := (List.getElem?_eq_some_iff.mp hc).1
  have e1 := (List.getElem?_eq_some_iff.mp hc).2
  obtain ⟨hk3, e2⟩ := List.getElem?_eq_some_iff.mp hk
  exact (List.pairwise_iff_getElem.mp nd) k i hk3 hi (by omega) (e2.trans e1.symm)
theorem newKey {α : Type} (g : α → V) {m : List (Nat × α)} {c : Nat} (h : c ∉ m.map (·.1)) : ∀ p ∈ (m.map fun p => ((.inr ⟨#[p.1]⟩ : Key), g p.2)), p.1 ≠ .inr ⟨#[c]⟩ := fun p hp z => by
  obtain ⟨q, hq, rfl⟩ := List.mem_map.mp hp
  exact h (List.mem_map.mpr ⟨q, hq, one_eq.mp z⟩)
end
end Nm

set_option Elab.async false
set_option linter.all false
set_option maxRecDepth 100000
set_option maxHeartbeats 1000000
namespace Nm
open PySem PySem.Spec L2
/-! ### lists that are new and not shared: they may still be changed -/
def EvL (K : PySem.W.Frag) (te : TE) (σ : L2.St) (F : Hp) (ds : List D) : Prop := ∀ H, Same F H → ∀ Q : VK, (∀ p xs F' H', H p = none → Ext [] F H F' H' → Own F' H' p (.lst xs) → DenL K F' xs ds → Q (.ref p) H') → te σ H Q
section
variable {K : PySem.W.Frag} {F F' H : Hp} {σ : L2.St} {te ta tb : TE} {r : List Sl} {DE : Ends} {tz : TS} {d : D} {ds : List D} {p : Addr}
theorem EvL.toD (h : EvL K te σ F ds) : EvD K te σ F (.lst ds) := fun H s Q q => h H s Q fun p xs F' H' hp x o l => q _ _ _ (Ext.freeze x hp o.h o.f) (.lst upd_same (l.up (same_new o.f)))
theorem el_is {es : List D} (h : EvL K te σ F ds) (e : ds = es) : EvL K te σ F es := e ▸ h
theorem Ext.back {M : List Addr} {F1 H1 : Hp} (x : Ext M F H F1 H1) (h : H1 p = none) : H p = none := by
  cases e : H p with
  | none => rfl
  | some o => exact absurd h (x.k p (by rw [e]; simp))
theorem el_lst {tr : TA} (h : EvA K tr σ F ds) (hl : ds.length ≤ sizeLine) : EvL K (tLst tr) σ F ds := fun H s Q q =>
  h H s _ fun vs F1 H1 x1 d1 => ⟨by rw [d1.length]; exact hl, fun p hp => q p vs F1 _ (x1.back hp) (x1.tr (Ext.newM x1.s hp)) ⟨x1.s.free hp, upd_same⟩ d1⟩
theorem wipe_get (σ : L2.St) (i : Nat) : ∀ vs : List Nat, (wipe σ vs)[i]? = if i ∈ vs then (if i < σ.length then some none else none) else σ[i]?
  | [] => by simp [wipe]
  | v :: vs => by
    unfold wipe
    rw [List.getElem?_set, wipe_length, wipe_get σ i vs]
    by_cases e : v = i
    · subst e; simp
    · have e' : ¬ i = v := fun z => e z.symm
      simp [e, e']
theorem wipe_set {σ : L2.St} {j : Nat} {x : Option V} {vs : List Nat} (h : j ∈ vs) : wipe (σ.set j x) vs = wipe σ vs := by
  apply List.ext_getElem?
  intro i
  rw [wipe_get, wipe_get, List.length_set]
  by_cases e : i ∈ vs
  · simp [e]
  · have : j ≠ i := fun z => e (z ▸ h)
    simp [e, List.getElem?_set_ne this]
theorem wipe_wipe (σ : L2.St) (vs : List Nat) : wipe (wipe σ vs) vs = wipe σ vs := by
  apply List.ext_getElem?
  intro i
  rw [wipe_get, wipe_get, wipe_length]
  by_cases e : i ∈ vs <;> simp [e]
/-- a target within a comprehension -/
def TgW (K : PySem.W.Frag) (g : TG) (d : D) (u : List Sl → List Sl) (vs : List Nat) : Prop := ∀ F H r σ v (Q : L2.St → Hp → Prop), Same F H → EnvD K F r σ → Den K F v d → (∀ σ', EnvD K F (u r) σ' → wipe σ' vs = wipe σ vs → Q σ' H) → g v σ H Q
theorem tw_name {j : Nat} {vs : List Nat} (h : j ∈ vs) : TgW K (gName j) d (fun r => r.set j (.d d)) vs := fun F H r σ v Q S E h' k => k _ (EnvD.set j E ⟨v, rfl, h'⟩) (wipe_set h)
theorem tw_two {i j : Nat} {vs : List Nat} {e : D} (h1 : i ∈ vs) (h2 : j ∈ vs) : TgW K (gTup K 2 (gCons (gName i) (gCons (gName j) gNil))) (.tup [d, e]) (fun r => (r.set i (.d d)).set j (.d e)) vs := fun F H r σ v Q S E h k => by
  cases h with
  | tup a l =>
    cases l with
    | cons p t =>
      cases t with
      | cons q t =>
        cases t
        exact ⟨_, _, rfl, same_t S a, rfl, _, _, rfl, _, _, rfl, rfl, k _ (EnvD.set j (EnvD.set i E ⟨_, rfl, p⟩) ⟨_, rfl, q⟩) (by rw [wipe_set h2, wipe_set h1])⟩
/-- [f(x) for target in items if p(x)] -/
theorem el_lcG {items : List D} {f : D → D} {pp : D → Bool} {vs : List Nat} {tt : TT} {wi : TI} {g : TG} (u : D → List Sl → List Sl) (E : EnvD K F r σ) (hi : EvI K wi σ F items) (hn : items.length < sizeLine) (hg : ∀ d, d ∈ items → TgW K g d (u d) vs)
    (ht : ∀ d F' σ', d ∈ items → Same F F' → EnvD K F' (u d (wipeR r vs)) σ' → EvT K tt σ' F' (pp d))
    (he : ∀ d F' σ', d ∈ items → Same F F' → EnvD K F' (u d (wipeR r vs)) σ' → pp d = true → EvD K te σ' F' (f d)) :
    EvL K (tLc wi g tt te vs) σ F ((items.filter pp).map f) := fun H s Q q => hi H s _ fun J F1 H1 x1 W1 Dl hD => by
  obtain ⟨G, Y, w, hG, hy⟩ := W1
  refine lc_it w (fun i H' => ∃ F' acc, Ext [] F1 H1 F' H' ∧ F' Dl = none ∧ H' Dl = some (.lst acc) ∧ DenL K F' acc (((items.take i).filter pp).map f)) ?_ ?_ ?_ ?_
  · exact ⟨F1, [], Ext.newM x1.s hD, x1.s.free hD, upd_same, .nil⟩
  · rintro i H' _ ⟨F', acc, x, _⟩
    exact hG H' (x.f.trans x.s)
  · rintro i v H' H'' hlt ⟨F', acc, x, fD, eD, l⟩ y
    obtain ⟨d, F2, h1, h2, h3⟩ := hy i H' v H'' hlt (x.f.trans x.s) y
    have hd : d ∈ items := List.mem_of_getElem? h1
    have x2 := Ext.uni x.f x.s h2
    have h3' : Den K (uni F' F2) v d := h3.up (uni_r (x.s.trans h2.same) h2.s)
    have fD2 : uni F' F2 Dl = none := x2.n Dl fD (by rw [eD]; simp)
    have eD2 : H'' Dl = some (.lst acc) := x2.same _ _ eD
    have sF : Same F (uni F' F2) := (x1.f.trans x.f).trans x2.f
    refine hg d hd _ H'' _ _ v _ x2.s ((EnvD.wipe E vs).up sF) h3' fun σ2 E2 hw2 => ⟨by rw [hw2, wipe_wipe], ?_⟩
    refine ht d _ _ hd sF E2 H'' x2.s _ fun F3 H3 x3 => ?_
    have fD3 : F3 Dl = none := x3.n Dl fD2 (by rw [eD2]; simp)
    have eD3 : H3 Dl = some (.lst acc) := x3.same _ _ eD2
    cases hp : pp d with
    | true =>
      rw [if_pos rfl]
      refine ((he d _ _ hd sF E2 hp).up x3.f) H3 x3.s _ fun z F4 H4 x4 d4 => ?_
      have fD4 : F4 Dl = none := x4.n Dl fD3 (by rw [eD3]; simp)
      have eD4 : H4 Dl = some (.lst acc) := x4.same _ _ eD3
      refine ⟨acc, eD4, ?_, F4, acc ++ [z], Ext.mutNew (((x.tr x2).tr x3).tr x4) hD fD4, fD4, upd_same, ?_⟩
      · have := l.length
        rw [List.length_map] at this
        have h5 := List.length_filter_le pp (items.take i)
        have h6 := List.length_take_le i items
        omega
      · rw [take_succ' h1, List.filter_append, List.map_append, List.filter_cons, if_pos hp]
        exact (l.up ((x2.f.trans x3.f).trans x4.f)).append (.cons d4 .nil)
    | false =>
      rw [if_neg (by decide)]
      refine ⟨F3, acc, (x.tr x2).tr x3, fD3, eD3, ?_⟩
      rw [take_succ' h1, List.filter_append, List.map_append, List.filter_cons, if_neg (by rw [hp]; decide)]
      show DenL K F3 acc (_ ++ [])
      rw [List.append_nil]
      exact l.up (x2.f.trans x3.f)
  · rintro H' ⟨F', acc, x, fD, eD, l⟩
    rw [List.take_length] at l
    exact q Dl acc F' H' (x1.back hD) (x1.tr x) ⟨fD, eD⟩ l
theorem el_lcY {items : List D} {f : D → D} {vs : List Nat} {wi : TI} {g : TG} (u : D → List Sl → List Sl) (E : EnvD K F r σ) (hi : EvI K wi σ F items) (hn : items.length < sizeLine) (hg : ∀ d, d ∈ items → TgW K g d (u d) vs)
    (he : ∀ d F' σ', d ∈ items → Same F F' → EnvD K F' (u d (wipeR r vs)) σ' → EvD K te σ' F' (f d)) :
    EvL K (tLc wi g tYes te vs) σ F (items.map f) := by
  have h := el_lcG (pp := fun _ => true) u E hi hn hg (fun _ _ _ _ _ _ => et_yes) fun d F' σ' h1 h2 h3 _ => he d F' σ' h1 h2 h3
  rwa [List.filter_eq_self.mpr (fun _ _ => rfl)] at h
/-! ### a promise of a new list -/
def spFL (K : PySem.W.Frag) (n : Nat) (R : List D → List D → Prop) : Sp := fun vs H Q _ => ∃ F ds es, Same F H ∧ DenL K F vs ds ∧ R ds es ∧ ds.length = n ∧ ∀ p xs F' H', H p = none → Ext [] F H F' H' → Own F' H' p (.lst xs) → DenL K F' xs es → Q (.ref p) H'
theorem spFL_len {n : Nat} {R : List D → List D → Prop} {vs : List V} {Q : VK} {E : XK} (h : spFL K n R vs H Q E) : vs.length = n := by
  obtain ⟨F, ds, d, _, l, _, e, _⟩ := h
  rw [l.length, e]
theorem el_call {n : Nat} {R : List D → List D → Prop} {tr : TA} {E : XK} {es : List D} (ha : EvA K tr σ F ds) (hf : R ds es) (hn : ds.length = n) : EvL K (tCall (spFL K n R) [] E tr) σ F es := fun H s Q q =>
  ha H s _ fun vs F1 H1 x1 l1 => ⟨F1, ds, es, x1.s, by rw [List.append_nil]; exact l1, hf, hn, fun p xs F2 H2 hp x2 o l => q p xs F2 H2 (x1.back hp) (x1.tr x2) o l⟩
theorem s_retL (S : Same F H) (h : EvL K te σ F ds) (k : ∀ p xs F' H', H p = none → Ext [] F H F' H' → Own F' H' p (.lst xs) → DenL K F' xs ds → DE.rt (.ref p) H') : tRet te DE σ H := h H S _ k
/-- x = a new list, kept as one's own -/
theorem q_asgL {j : Nat} (S : Same F H) (E : EnvD K F r σ) (h : EvL K te σ F ds) (k : ∀ p xs F' H' σ', H p = none → Ext [] F H F' H' → Own F' H' p (.lst xs) → DenL K F' xs ds → EnvD K F' (r.set j (.v (.ref p))) σ' → tz DE σ' H') : tSeq (tAsg te (gName j)) tz DE σ H :=
  h H S _ fun p xs F' H' hp x o l => k p xs F' H' _ hp x o l (EnvD.set (s := .v (.ref p)) j (E.up x.f) rfl)
/-! ### lending -/
theorem lend {o : HO} (w : Own F H p o) (S : Same F H) : Same (upd F p o) H := fun a u h => by
  by_cases z : a = p
  · subst z; rw [upd_same] at h; rw [← h]; exact w.h
  · rw [upd_ne z] at h; exact S a u h
def del (F : Hp) (p : Addr) : Hp := fun a => if a = p then none else F a
theorem del_ne {a : Addr} (h : a ≠ p) : del F p a = F a := if_neg h
theorem Ext.thaw {o : HO} {F1 H1 : Hp} (w : Own F H p o) (S : Same F H) (x : Ext [] (upd F p o) H F1 H1) : Ext [] F H (del F1 p) H1 ∧ Own (del F1 p) H1 p o := by
  refine ⟨⟨fun a u h => ?_, x.h, fun a u h => ?_, fun a h k => ?_, x.k⟩, if_pos rfl, ?_⟩
  · have z : a ≠ p := fun z => by rw [z, w.f] at h; cases h
    rw [del_ne z]
    exact x.f a u (by rw [upd_ne z]; exact h)
  · by_cases z : a = p
    · subst z; unfold del at h; rw [if_pos rfl] at h; cases h
    · rw [del_ne z] at h; exact x.s a u h
  · by_cases z : a = p
    · subst z; exact if_pos rfl
    · rw [del_ne z]; exact x.n a (by rw [upd_ne z]; exact h) k
  · exact x.s _ _ (x.f _ _ upd_same)
/-- the slot seen as data -/
theorem EnvD.see : ∀ {r : List Sl} {σ : L2.St} {i : Nat} {v : V} {d : D}, EnvD K F r σ → σ[i]? = some (some v) → Den K F v d → EnvD K F (r.set i (.d d)) σ
  | _, _, _, _, _, .nil, _, _ => .nil
  | _, _, 0, _, _, .cons _ t, h, e => by
    simp at h
    subst h
    exact .cons ⟨_, rfl, e⟩ t
  | _, _, i + 1, _, _, .cons q t, h, e => .cons q (EnvD.see t (by simpa using h) e)
theorem EnvD.seeV {i : Nat} (E : EnvD K F r σ) (h : r[i]? = some (.v (.ref p))) (e : Den K F (.ref p) d) : EnvD K F (r.set i (.d d)) σ := by
  obtain ⟨o, h1, h2⟩ := E.get h
  have h2 : o = some (.ref p) := h2
  subst h2
  exact E.see h1 e
/-- a test that looks into a list of one's own -/
theorem et_lend {i : Nat} {xs : List V} {tt : TT} {b : Bool} (S : Same F H) (E : EnvD K F r σ) (hi : r[i]? = some (.v (.ref p))) (w : Own F H p (.lst xs)) (l : DenL K F xs ds) (h : ∀ F', Same F F' → EnvD K F' (r.set i (.d (.lst ds))) σ → EvT K tt σ F' b)
    {Q : Bool → Hp → Prop} (k : ∀ F' H', Ext [] F H F' H' → Own F' H' p (.lst xs) → Q b H') : tt σ H Q := by
  have g : Same F (upd F p (.lst xs)) := same_new w.f
  refine h _ g ((E.up g).seeV hi (.lst upd_same (l.up g))) H (lend w S) Q fun F1 H1 x => ?_
  obtain ⟨h1, h2⟩ := Ext.thaw w S x
  exact k _ _ h1 h2
/-- frozen for good -/
theorem Own.freeze {o : HO} (w : Own F H p o) (S : Same F H) : Same (upd F p o) H ∧ Same F (upd F p o) := ⟨lend w S, same_new w.f⟩
/-- l.append(x) -/
theorem s_app {i : Nat} {xs : List V} (S : Same F H) (E : EnvD K F r σ) (hp : r[i]? = some (.v (.ref p))) (w : Own F H p (.lst xs)) (h : EvD K te σ F d) (hz : xs.length < 100000)
    (k : ∀ v F' H', Ext [] F H F' H' → Own F' H' p (.lst xs) → Den K F' v d → DE.nx σ (upd H' p (.lst (xs ++ [v])))) : tDrop (tBM K "list" rAppend (tVar i) (tCons te tNil)) DE σ H := by
  obtain ⟨o, h1, h2⟩ := E.get hp
  have h2 : o = some (.ref p) := h2
  subst h2
  refine ⟨_, h1, .inl ⟨rfl, xs, SqL.of w.h⟩, h H S _ fun v F' H' x dv => ?_⟩
  have w' := w.ext0 x
  exact ⟨p, xs, v, rfl, rfl, w'.h, Nat.lt_of_lt_of_le hz (by rw [sizeLine_eq]; decide), k v F' H' x w' dv⟩
theorem q_app {i : Nat} {xs : List V} (S : Same F H) (E : EnvD K F r σ) (hp : r[i]? = some (.v (.ref p))) (w : Own F H p (.lst xs)) (h : EvD K te σ F d) (hz : xs.length < 100000)
    (k : ∀ v F' H', Ext [] F H F' H' → Own F' H' p (.lst xs) → Den K F' v d → tz DE σ (upd H' p (.lst (xs ++ [v])))) : tSeq (tDrop (tBM K "list" rAppend (tVar i) (tCons te tNil))) tz DE σ H := s_app (DE := { DE with nx := tz DE }) S E hp w h hz k
end
end Nm

set_option Elab.async false
set_option linter.all false
set_option maxRecDepth 100000
set_option maxHeartbeats 1000000
namespace Nm
open PySem PySem.Spec L2
/-! ### sorted signs, pairs by which a table leads from word to word -/
def sortC (ks : List Nat) : List Nat := (sortS (ks.map fun c => (⟨#[c]⟩ : Str))).map fun s => s.cps.toList.headD 0
theorem sortC_map (ks : List Nat) : (sortC ks).map (fun c => (⟨#[c]⟩ : Str)) = sortS (ks.map fun c => (⟨#[c]⟩ : Str)) := by
  unfold sortC
  rw [List.map_map]
  conv => rhs; rw [← List.map_id (sortS _)]
  apply List.map_congr_left
  intro s hs
  obtain ⟨c, _, rfl⟩ := List.mem_map.mp ((sortS_perm _).subset hs)
  rfl
theorem sortC_mem {ks : List Nat} {c : Nat} (h : c ∈ sortC ks) : c ∈ ks := by
  unfold sortC at h
  obtain ⟨s, hs, rfl⟩ := List.mem_map.mp h
  obtain ⟨c, hc, rfl⟩ := List.mem_map.mp ((sortS_perm _).subset hs)
  exact hc
theorem sortC_len (ks : List Nat) : (sortC ks).length = ks.length := by
  unfold sortC
  rw [List.length_map, (sortS_perm _).length_eq, List.length_map]
def fks (fo : Fo) : List Nat := sortC (fo.map (·.1))
def mks (ma : Ma) : List Nat := sortC (ma.map (·.1))
def ltC (a b : Nat) : Bool := decide ([a] < [b])
def mm (ma : Ma) : List (Nat × Nat) := (mks ma).flatMap fun a => ((mks ma).filter fun b => ltC a b && !decide (lk ma a = lk ma b)).map fun b => (a, b)
def prF (fo : Fo) : List (List Nat × List Nat) := (fks fo).map fun c => ([c], foldS fo c)
def prM (ma : Ma) : List (List Nat × List Nat) := (mm ma).map fun p => ([p.1, p.2], [p.2, p.1])
def prs (fo : Fo) (ma : Ma) : List (List Nat × List Nat) := prF fo ++ prM ma
def pairD (p : List Nat × List Nat) : D := .tup [txt p.1, txt p.2]
def isOne (fo : Fo) (ma : Ma) (p : List Nat × List Nat) : Bool := decide (key fo ma p.1 = key fo ma p.2)
def fails (fo : Fo) (ma : Ma) (fo' : Fo) (ma' : Ma) : List (List Nat × List Nat) := (prs fo ma).filter fun p => !isOne fo' ma' p
theorem fks_len (fo : Fo) : (fks fo).length = fo.length := by unfold fks; rw [sortC_len, List.length_map]
theorem mks_len (ma : Ma) : (mks ma).length = ma.length := by unfold mks; rw [sortC_len, List.length_map]
theorem fks_mem {fo : Fo} {c : Nat} (h : c ∈ fks fo) : ∃ w, (c, w) ∈ fo := by
  obtain ⟨p, hp, rfl⟩ := List.mem_map.mp (sortC_mem h)
  exact ⟨p.2, hp⟩
theorem mks_mem {ma : Ma} {c : Nat} (h : c ∈ mks ma) : ∃ w, (c, w) ∈ ma := by
  obtain ⟨p, hp, rfl⟩ := List.mem_map.mp (sortC_mem h)
  exact ⟨p.2, hp⟩
theorem mm_mem {ma : Ma} {p : Nat × Nat} (h : p ∈ mm ma) : p.1 ∈ mks ma ∧ p.2 ∈ mks ma := by
  unfold mm at h
  obtain ⟨a, ha, h⟩ := List.mem_flatMap.mp h
  obtain ⟨b, hb, rfl⟩ := List.mem_map.mp h
  exact ⟨ha, (List.mem_filter.mp hb).1⟩
theorem flatMap_len {α β : Type} (f : α → List β) (n : Nat) : ∀ l : List α, (∀ a ∈ l, (f a).length ≤ n) → (l.flatMap f).length ≤ l.length * n
  | [], _ => by simp
  | a :: l, h => by
    have h1 := h a (by simp)
    have h2 := flatMap_len f n l fun b hb => h b (List.mem_cons_of_mem _ hb)
    rw [List.flatMap_cons, List.length_append, List.length_cons, Nat.add_mul, Nat.one_mul]
    omega
theorem mm_len (ma : Ma) : (mm ma).length ≤ ma.length * ma.length := by
  unfold mm
  have := flatMap_len (fun a => ((mks ma).filter fun b => ltC a b && !decide (lk ma a = lk ma b)).map fun b => (a, b)) ma.length (mks ma) fun a _ => by
    rw [List.length_map]
    have := List.length_filter_le (fun b => ltC a b && !decide (lk ma a = lk ma b)) (mks ma)
    rw [mks_len] at this
    exact this
  rw [mks_len] at this
  exact this
theorem prs_ok {sg : Nat → Bool} {fo : Fo} {ma : Ma} (ok : okTab sg fo ma) {p : List Nat × List Nat} (h : p ∈ prs fo ma) : (∀ c ∈ p.1, sg c = true) ∧ (∀ c ∈ p.2, sg c = true) ∧ 1 ≤ p.1.length ∧ p.1.length ≤ 2 ∧ 1 ≤ p.2.length ∧ p.2.length ≤ 3 := by
  unfold prs at h
  rcases List.mem_append.mp h with h | h
  · unfold prF at h
    obtain ⟨c, hc, rfl⟩ := List.mem_map.mp h
    obtain ⟨w, hw⟩ := fks_mem hc
    have hs := ok.fs _ hw
    have := foldS_ok ok hs
    refine ⟨fun d hd => by simp at hd; subst hd; exact hs, fun d hd => (this.2.2 d hd).1, by simp, by simp, this.1, this.2.1⟩
  · unfold prM at h
    obtain ⟨q, hq, rfl⟩ := List.mem_map.mp h
    obtain ⟨h1, h2⟩ := mm_mem hq
    obtain ⟨w1, g1⟩ := mks_mem h1
    obtain ⟨w2, g2⟩ := mks_mem h2
    have s1 := (ok.ms _ g1).1
    have s2 := (ok.ms _ g2).1
    refine ⟨fun d hd => ?_, fun d hd => ?_, by simp, by simp, by simp, by simp⟩
    · simp at hd; rcases hd with rfl | rfl <;> assumption
    · simp at hd; rcases hd with rfl | rfl <;> assumption
theorem dec_txt {a b : List Nat} : decide ((⟨a.toArray⟩ : Str) = ⟨b.toArray⟩) = decide (a = b) := by
  by_cases h : a = b
  · subst h; simp
  · have : ¬ ((⟨a.toArray⟩ : Str) = ⟨b.toArray⟩) := fun z => h (by
      have := congrArg (fun s : Str => s.cps.toList) z
      simpa using this)
    rw [decide_eq_false h, decide_eq_false this]
theorem str_two (a b : Nat) : (⟨#[a]⟩ : Str) ++ (⟨#[b]⟩ : Str) = ⟨#[a, b]⟩ := by
  apply str_ext
  show (#[a] ++ #[b]).toList = _
  simp
section
variable {K : PySem.W.Frag} {F H : Hp} {σ : L2.St} {te : TE}
theorem rv_lt_str {i j : Str} : RvD K (rLtA K) (.str i) (.str j) (.bl (decide (i.cps.toList < j.cps.toList))) := rv_cmp_str
theorem ev_sortedF {fo : Fo} (h : EvD K te σ F (foD fo)) (hl : fo.length < 64) : EvD K (tCB (rSortedA K) (tCons te tNil)) σ F (.lst (chs (fks fo))) := by
  refine ev_is (ev_cb (ea_cons h ea_nil) (rc_sorted_dic (es := foE fo) (ks := (fo.map (·.1)).map fun c => (⟨#[c]⟩ : Str)) ?_ (by rw [List.length_map, List.length_map]; exact hl))) ?_
  · unfold foE; rw [List.map_map, List.map_map, List.map_map]; rfl
  · rw [← sortC_map, ← chs_str]; rfl
theorem ev_sortedM {ma : Ma} (h : EvD K te σ F (maD ma)) (hl : ma.length < 64) : EvD K (tCB (rSortedA K) (tCons te tNil)) σ F (.lst (chs (mks ma))) := by
  refine ev_is (ev_cb (ea_cons h ea_nil) (rc_sorted_dic (es := maE ma) (ks := (ma.map (·.1)).map fun c => (⟨#[c]⟩ : Str)) ?_ (by rw [List.length_map, List.length_map]; exact hl))) ?_
  · unfold maE; rw [List.map_map, List.map_map, List.map_map]; rfl
  · rw [← sortC_map, ← chs_str]; rfl
def onPair (f : List Nat → List Nat → D) : D → D
  | .tup [.str s, .str t] => f s.cps.toList t.cps.toList
  | _ => .non
def onPairB (f : List Nat → List Nat → Bool) : D → Bool
  | .tup [.str s, .str t] => f s.cps.toList t.cps.toList
  | _ => false
end
end Nm

set_option Elab.async false
set_option linter.all false
set_option maxRecDepth 100000
set_option maxHeartbeats 1000000
namespace Nm
open PySem PySem.Spec L2
/-! ### how long repr is, what can be compared -/
theorem textFrom_le : ∀ (ts : List Str) (k : Nat) (acc : Str), (textFrom k acc ts).length ≤ acc.length + piled ts
  | [], k, acc => by simp [textFrom, piled]
  | t :: ts, k, acc => by
    unfold textFrom
    have ih := textFrom_le ts (k + 1) (acc ++ (if k > 0 then ", " else "" : String) ++ t)
    rw [strLen_append, strLen_append] at ih
    rw [piled_cons]
    have : (((if k > 0 then ", " else "") : String) : Str).length ≤ 2 := by
      split
      · exact Nat.le_refl 2
      · exact Nat.zero_le 2
    omega
theorem listText_le (ts : List Str) : (listText ts).length ≤ piled ts + 2 := by
  unfold listText
  rw [strLen_append]
  have := textFrom_le ts 0 "["
  have e1 : (("[" : String) : Str).length = 1 := rfl
  have e2 : (("]" : String) : Str).length = 1 := rfl
  omega
theorem tupleText_le (ts : List Str) : (tupleText ts).length ≤ piled ts + 4 := by
  unfold tupleText
  rw [strLen_append, strLen_append]
  have e1 : (("(" : String) : Str).length = 1 := rfl
  have e2 : (((if ts.length == 1 then ",)" else ")") : String) : Str).length ≤ 2 := by
    split
    · exact Nat.le_refl 2
    · exact Nat.le_succ 1
  have e3 : (Str.join ", " ts).length ≤ piled ts := by
    cases ts with
    | nil => exact Nat.le_refl 0
    | cons t r =>
      have := join_length_add (t :: r) (by simp)
      omega
  omega
mutual
/-- a bound for repr -/
def wt : D → Nat
  | .str z => 10 * z.length + 2
  | .lst ds => wtL ds + 4
  | .tup ds => wtL ds + 4
  | d => (toPy d).shown.length
def wtL : List D → Nat
  | [] => 0
  | d :: ds => (wt d + 2) + wtL ds
end
mutual
def dp : D → Nat
  | .lst ds => dpL ds + 1
  | .tup ds => dpL ds + 1
  | _ => 0
def dpL : List D → Nat
  | [] => 0
  | d :: ds => max (dp d) (dpL ds)
end
mutual
/-- texts, lists and tuples of them -/
def txtD : D → Bool
  | .non => true
  | .bl _ => true
  | .str z => PyData.strOk z
  | .lst ds => txtDL ds
  | .tup ds => txtDL ds
  | _ => false
def txtDL : List D → Bool
  | [] => true
  | d :: ds => txtD d && txtDL ds
end
mutual
theorem plain_of : ∀ d : D, txtD d = true → plain d = true
  | .non, _ => by unfold plain; rfl
  | .bl _, _ => by unfold plain; rfl
  | .str _, _ => by unfold plain; rfl
  | .int _, h => by unfold txtD at h; cases h
  | .dic _, h => by unfold txtD at h; cases h
  | .obj _ _, h => by unfold txtD at h; cases h
  | .ty _, h => by unfold txtD at h; cases h
  | .cls _, h => by unfold txtD at h; cases h
  | .lst ds, h => by unfold txtD at h; unfold plain; exact plain_ofL ds h
  | .tup ds, h => by unfold txtD at h; unfold plain; exact plain_ofL ds h
theorem plain_ofL : ∀ ds : List D, txtDL ds = true → plainL ds = true
  | [], _ => by unfold plainL; rfl
  | d :: ds, h => by
    unfold txtDL at h
    rw [Bool.and_eq_true] at h
    unfold plainL
    rw [plain_of d h.1, plain_ofL ds h.2]; rfl
end
theorem okCodes {z : Str} (h : PyData.strOk z = true) : ∀ c ∈ z.cps.toList, c < 16 ^ 8 := fun c hc => by
  unfold PyData.strOk at h
  rw [← Array.all_toList, List.all_eq_true] at h
  have := of_decide_eq_true (h c hc)
  have e : (16 : Nat) ^ 8 = 4294967296 := by decide
  omega
mutual
theorem show_of : ∀ d : D, txtD d = true → (toPy d).showable = true ∧ (toPy d).canLay0 = true ∧ (toPy d).depth = dp d ∧ (toPy d).shown.length ≤ wt d
  | .non, _ => by unfold toPy; simp only [PyData.showable, PyData.canLay0, PyData.depth, dp]; exact ⟨trivial, trivial, trivial, by unfold wt toPy; exact Nat.le_refl _⟩
  | .bl _, _ => by unfold toPy; simp only [PyData.showable, PyData.canLay0, PyData.depth, dp]; exact ⟨trivial, trivial, trivial, by unfold wt toPy; exact Nat.le_refl _⟩
  | .str z, h => by
    unfold txtD at h
    unfold toPy
    simp only [PyData.showable, PyData.canLay0, PyData.depth, dp, PyData.shown, wt]
    exact ⟨trivial, h, trivial, PySem.StrLaws.reprText_len z (okCodes h)⟩
  | .int _, h => by unfold txtD at h; cases h
  | .dic _, h => by unfold txtD at h; cases h
  | .obj _ _, h => by unfold txtD at h; cases h
  | .ty _, h => by unfold txtD at h; cases h
  | .cls _, h => by unfold txtD at h; cases h
  | .lst ds, h => by
    unfold txtD at h
    obtain ⟨h1, h2, h3, h4⟩ := show_ofL ds h
    unfold toPy
    simp only [PyData.showable, PyData.canLay0, PyData.depth, dp, PyData.shown, wt, h3]
    refine ⟨h1, h2, trivial, ?_⟩
    have := listText_le (PyData.shownAll (toPyL ds))
    omega
  | .tup ds, h => by
    unfold txtD at h
    obtain ⟨h1, h2, h3, h4⟩ := show_ofL ds h
    unfold toPy
    simp only [PyData.showable, PyData.canLay0, PyData.depth, dp, PyData.shown, wt, h3]
    refine ⟨h1, h2, trivial, ?_⟩
    have := tupleText_le (PyData.shownAll (toPyL ds))
    omega
theorem show_ofL : ∀ ds : List D, txtDL ds = true → PyData.showableAll (toPyL ds) = true ∧ PyData.canLayAll0 (toPyL ds) = true ∧ PyData.depthAll (toPyL ds) = dpL ds ∧ piled (PyData.shownAll (toPyL ds)) ≤ wtL ds
  | [], _ => by unfold toPyL; simp only [PyData.showableAll, PyData.canLayAll0, PyData.depthAll, dpL, PyData.shownAll, piled_nil, wtL]; exact ⟨trivial, trivial, trivial, Nat.le_refl _⟩
  | d :: ds, h => by
    unfold txtDL at h
    rw [Bool.and_eq_true] at h
    obtain ⟨a1, a2, a3, a4⟩ := show_of d h.1
    obtain ⟨h1, h2, h3, h4⟩ := show_ofL ds h.2
    unfold toPyL
    simp only [PyData.showableAll, PyData.canLayAll0, PyData.depthAll, dpL, PyData.shownAll, piled_cons, wtL, a1, a2, a3, h1, h2, h3]
    exact ⟨rfl, rfl, trivial, by omega⟩
end
theorem okR_txt {d : D} (h : txtD d = true) (h1 : dp d ≤ 40) (h2 : wt d ≤ 16777216) : okR d = true := by
  obtain ⟨a1, a2, a3, a4⟩ := show_of d h
  unfold okR shownD
  rw [plain_of d h, a1, a3, decide_eq_true h1, decide_eq_true (by omega)]
  rfl
section
variable {K : PySem.W.Frag}
theorem shaped_of {d : D} (h : txtD d = true) (h1 : dp d ≤ 64) : SeqAt.shaped (toPy d) = true := by
  obtain ⟨a1, a2, a3, a4⟩ := show_of d h
  unfold SeqAt.shaped
  rw [a2, a3, decide_eq_true h1]; rfl
theorem rv_ne_self {d : D} (h : txtD d = true) (h1 : dp d ≤ 64) : RvD K (rNeA K) d d (.bl false) := fun F H x y s hx hy Q q => by
  refine .inr ⟨_, _, den_dp s d hx (plain_of d h), den_dp s d hy (plain_of d h), shaped_of h h1, shaped_of h h1, ?_⟩
  rw [SeqAt.eqv_refl _ (show_of d h).2.1]
  exact q _ F H (Ext.refl s) (.bl _)
theorem rv_eq_self {d : D} (h : txtD d = true) (h1 : dp d ≤ 64) : RvD K (rEqA K) d d (.bl true) := fun F H x y s hx hy Q q => by
  refine .inr ⟨_, _, den_dp s d hx (plain_of d h), den_dp s d hy (plain_of d h), shaped_of h h1, shaped_of h h1, ?_⟩
  rw [SeqAt.eqv_refl _ (show_of d h).2.1]
  exact q _ F H (Ext.refl s) (.bl _)
end
end Nm

set_option Elab.async false
set_option linter.all false
set_option maxRecDepth 100000
set_option maxHeartbeats 1000000
namespace Nm
open PySem PySem.Spec L2
section
variable {K : PySem.W.Frag} {F H : Hp} {σ : L2.St} {te ta tb : TE} {r : List Sl} {DE : Ends} {tz : TS} {d e : D} {b p : Addr} {R : List Sl → Prop}
/-- what the law's script is -/
def spLaw (K : PySem.W.Frag) : Sp := fun vs H Q _ => ∃ (a : Addr) (ns : List Int), vs = [.ref a] ∧ SqL K H a (ns.map V.int) ∧ ns.length ≤ 63 ∧ ∀ H', Q (.bl true) H'
theorem spLaw_len {vs : List V} {Q : VK} {E : XK} (h : spLaw K vs H Q E) : vs.length = 1 := by
  obtain ⟨a, ns, rfl, _⟩ := h
  rfl
/-- for at in range(max(lo, min(hi, len(script)))): bag = _law_bag(script, at); .. -/
theorem q_cells {body : TS} {a : Addr} {ns : List Int} {j t : Nat} {lo hi : Int} {E : XK} (S : Same F H) (EV : EnvD K F r σ) (sq : SqL K F a (ns.map V.int)) (hlen : ns.length ≤ 63) (hlo : 0 ≤ lo ∧ lo ≤ 100) (hhi : 0 ≤ hi ∧ hi ≤ 100) (h0 : ∀ r, R r → r[0]? = some (.v (.ref a))) (hlj : ∀ r, R r → j < r.length) (hj : j ≠ 0) (hr : R r)
    (hb : ∀ (m : Nat) F2 H2 b r' σ' (N : L2.St → Hp → Prop), Same F F2 → Same F2 H2 → R r' → BagAt F2 H2 b 1000000000 → EnvD K F2 ((r'.set j (.d (.int (m : Nat)))).set t (.v (.ref b))) σ' → (∀ F3 H3 r3 σ3, Ext [b] F2 H2 F3 H3 → EnvD K F3 r3 σ3 → R r3 → N σ3 H3) → body { DE with nx := N, ct := N, bk := tz DE } σ' H2)
    (hd : ∀ F' H' r' σ', Same F F' → Same F' H' → EnvD K F' r' σ' → R r' → tz DE σ' H') :
    tSeq (tFor (iRng1 (tCons (tCB rMax2 (tCons (tC (.int lo)) (tCons (tCB rMin2 (tCons (tC (.int hi)) (tCons (tCB (rLenA K) (tCons (tVar 0) tNil)) tNil))) tNil))) tNil)) (gName j) (tSeq (tAsg (tCall (spBag K) [] E (tCons (tVar 0) (tCons (tVar j) tNil))) (gName t)) body)) tz DE σ H := by
  have lenS : EvD K (tCB (rLenA K) (tCons (tVar 0) tNil)) σ F (.int (ns.length : Int)) := fun H4 s4 Q4 q4 => by
    obtain ⟨o, g1, g2⟩ := EV.get (h0 r hr)
    have g2 : o = some (.ref a) := g2
    subst g2
    exact ⟨.ref a, g1, .inl ⟨a, _, rfl, .inl (same_l s4 sq), by rw [List.length_map]; exact q4 _ F H4 (Ext.refl s4) (.int _)⟩⟩
  have rng := ei_rng1 (K := K) (ea_cons (ev_cb (ea_cons (ev_c (.int lo)) (ea_cons (ev_cb (ea_cons (ev_c (.int hi)) (ea_cons lenS ea_nil)) rc_min2) ea_nil)) rc_max2) ea_nil) (by split <;> split <;> omega) (by split <;> split <;> omega)
  refine q_for [] (fun _ _ _ r' => R r') S EV rng (fun _ _ _ => hr) ?_ (fun F' H' r' σ' x E' p => hd F' H' r' σ' x.f x.s E' p)
  rintro i d F1 H1 F2 H2 r' σ' N hdd x1 hr' x2 E2 kN
  obtain ⟨m, rfl, hm⟩ : ∃ m : Nat, d = .int (m : Nat) ∧ m ≤ 1000 := by
    rw [List.getElem?_map] at hdd
    obtain ⟨m, h1, h2⟩ := Option.map_eq_some_iff.mp hdd
    have h3 := (List.getElem?_eq_some_iff.mp h1).1
    have e := (List.getElem?_eq_some_iff.mp h1).2
    rw [List.getElem_range] at e
    rw [List.length_range] at h3
    refine ⟨m, h2.symm, ?_⟩
    have : (if (if (ns.length : Int) < hi then (ns.length : Int) else hi) > lo then (if (ns.length : Int) < hi then (ns.length : Int) else hi) else lo) ≤ 100 := by split <;> split <;> omega
    omega
  refine q_bag x2.s E2 (by rw [List.getElem?_set_ne hj]; exact h0 r' hr') (by rw [List.getElem?_set_self (hlj r' hr')]) hm (same_l (x1.f.trans x2.f) sq) fun b H3 σ3 hb' x3 w3 E3 => ?_
  exact hb m F2 H3 b r' σ3 N (x1.f.trans x2.f) x3.s hr' w3 E3 fun F4 H4 r4 σ4 x4 E4 h4 => kN F4 H4 r4 σ4 (Ext.forget x3 x4 hb') E4 h4
/-- a for whose body draws at most c numbers -/
theorem s_turns {body : TS} {items : List D} {wi : TI} {j n : Nat} (c : Nat) (S : Same F H) (EV : EnvD K F r σ) (w : BagAt F H b (n + items.length * c)) (hi : EvI K wi σ F items) (hr : R r)
    (hs : ∀ d F2 H2 r' σ' m (N : L2.St → Hp → Prop), d ∈ items → Same F F2 → Same F2 H2 → R r' → BagAt F2 H2 b (m + c) → EnvD K F2 (r'.set j (.d d)) σ' → (∀ F3 H3 r3 σ3, Ext [b] F2 H2 F3 H3 → BagAt F3 H3 b m → EnvD K F3 r3 σ3 → R r3 → N σ3 H3) → body { DE with nx := N, ct := N, bk := DE.nx } σ' H2)
    (hd : ∀ F' H' r' σ', Ext [b] F H F' H' → BagAt F' H' b n → EnvD K F' r' σ' → R r' → DE.nx σ' H') : tFor wi (gName j) body DE σ H := by
  refine s_for [b] (fun i F' H' r' => R r' ∧ BagAt F' H' b (n + (items.length - i) * c)) S EV hi (fun F' H' x => ⟨hr, w.ext0 x⟩) ?_ ?_
  · rintro i d F1 H1 F2 H2 r' σ' N hdd x1 ⟨hr', w1⟩ x2 E2 kN
    have hlt : i < items.length := (List.getElem?_eq_some_iff.mp hdd).1
    have e : (items.length - i) * c = (items.length - (i + 1)) * c + c := by
      have : items.length - i = (items.length - (i + 1)) + 1 := by omega
      rw [this, Nat.add_mul, Nat.one_mul]
    refine hs d F2 H2 r' σ' (n + (items.length - (i + 1)) * c) N (List.mem_of_getElem? hdd) (x1.f.trans x2.f) x2.s hr' ((w1.ext0 x2).less (by omega)) E2 fun F3 H3 r3 σ3 x3 w3 E3 h3 => kN F3 H3 r3 σ3 x3 E3 ⟨h3, w3⟩
  · rintro F' H' r' σ' x E' ⟨h1, h2⟩
    exact hd F' H' r' σ' x (h2.less (by omega)) E' h1
theorem q_turns {body : TS} {items : List D} {wi : TI} {j n : Nat} (c : Nat) (S : Same F H) (EV : EnvD K F r σ) (w : BagAt F H b (n + items.length * c)) (hi : EvI K wi σ F items) (hr : R r)
    (hs : ∀ d F2 H2 r' σ' m (N : L2.St → Hp → Prop), d ∈ items → Same F F2 → Same F2 H2 → R r' → BagAt F2 H2 b (m + c) → EnvD K F2 (r'.set j (.d d)) σ' → (∀ F3 H3 r3 σ3, Ext [b] F2 H2 F3 H3 → BagAt F3 H3 b m → EnvD K F3 r3 σ3 → R r3 → N σ3 H3) → body { DE with nx := N, ct := N, bk := tz DE } σ' H2)
    (hd : ∀ F' H' r' σ', Ext [b] F H F' H' → BagAt F' H' b n → EnvD K F' r' σ' → R r' → tz DE σ' H') : tSeq (tFor wi (gName j) body) tz DE σ H := s_turns (DE := { DE with nx := tz DE }) c S EV w hi hr hs hd
/-! worth in this heap -/
def EvDH (K : PySem.W.Frag) (te : TE) (σ : L2.St) (F H : Hp) (d : D) : Prop := ∀ Q : VK, (∀ v F' H', Ext [] F H F' H' → Den K F' v d → Q v H') → te σ H Q
theorem EvD.here (h : EvD K te σ F d) (S : Same F H) : EvDH K te σ F H d := h H S
theorem At.here {v : V} (h : At te σ H v) (S : Same F H) (dv : Den K F v d) : EvDH K te σ F H d := fun Q q => h Q (q v F H (Ext.refl S) dv)
theorem at_ixT {v : V} {ds : List D} {i : Nat} (h : At ta σ H v) (S : Same F H) (dv : Den K F v (.tup ds)) (e : ds[i]? = some d) : ∃ w, At (tOp (rIxA K) ta (tC (.int (i : Nat)))) σ H w ∧ Den K F w d := by
  cases dv with
  | tup a l =>
    obtain ⟨w, h1, h2⟩ := l.get e
    exact ⟨w, at_op h at_c fun Q q => .inl (.inr (.inl ⟨_, _, _, _, rfl, rfl, same_t S a, atI_nat h1, q⟩)), h2⟩
theorem edh_tup2 {v w : V} (ha : At ta σ H v) (hb : At tb σ H w) (S : Same F H) (dv : Den K F v d) (dw : Den K F w e) : EvDH K (tTup (tCons ta (tCons tb tNil))) σ F H (.tup [d, e]) := fun Q q =>
  ha _ (hb _ ⟨sz2, fun p hp => q _ _ _ (Ext.new S hp) (.tup (SqT.of upd_same) (.cons (dv.up (Ext.new (o := .tup [v, w]) S hp).f) (.cons (dw.up (Ext.new (o := .tup [v, w]) S hp).f) .nil)))⟩)
theorem q_appH {i : Nat} {xs : List V} (E : EnvD K F r σ) (hp : r[i]? = some (.v (.ref p))) (w : Own F H p (.lst xs)) (h : EvDH K te σ F H d) (hz : xs.length < 100000)
    (k : ∀ v F' H', Ext [] F H F' H' → Own F' H' p (.lst xs) → Den K F' v d → tz DE σ (upd H' p (.lst (xs ++ [v])))) : tSeq (tDrop (tBM K "list" rAppend (tVar i) (tCons te tNil))) tz DE σ H := by
  obtain ⟨o, h1, h2⟩ := E.get hp
  have h2 : o = some (.ref p) := h2
  subst h2
  refine ⟨_, h1, .inl ⟨rfl, xs, SqL.of w.h⟩, h _ fun v F' H' x dv => ?_⟩
  have w' := w.ext0 x
  exact ⟨p, xs, v, rfl, rfl, w'.h, Nat.lt_of_lt_of_le hz (by rw [sizeLine_eq]; decide), k v F' H' x w' dv⟩
theorem s_appH {i : Nat} {xs : List V} (E : EnvD K F r σ) (hp : r[i]? = some (.v (.ref p))) (w : Own F H p (.lst xs)) (h : EvDH K te σ F H d) (hz : xs.length < 100000)
    (k : ∀ v F' H', Ext [] F H F' H' → Own F' H' p (.lst xs) → Den K F' v d → DE.nx σ (upd H' p (.lst (xs ++ [v])))) : tDrop (tBM K "list" rAppend (tVar i) (tCons te tNil)) DE σ H := q_appH (tz := fun D σ H => DE.nx σ H) (DE := DE) E hp w h hz k
/-- x = [drawn, ..], kept as one's own -/
theorem q_asgLB {tr : TA} {j n c : Nat} {SS : List D → Prop} (S : Same F H) (E : EnvD K F r σ) (w : BagAt F H b (n + c)) (h : EvBA K b c tr σ F SS) (hl : ∀ ds, SS ds → ds.length ≤ sizeLine)
    (k : ∀ p xs ds F' H' σ', SS ds → H p = none → b ≠ p → Ext [b] F H F' H' → BagAt F' H' b n → Own F' H' p (.lst xs) → DenL K F' xs ds → EnvD K F' (r.set j (.v (.ref p))) σ' → tz DE σ' H') : tSeq (tAsg (tLst tr) (gName j)) tz DE σ H :=
  h H n S w _ fun vs ds F1 H1 x1 w1 r1 d1 => ⟨by rw [d1.length]; exact hl ds r1, fun p hp => by
    have bp : b ≠ p := fun z => w1.ne (by rw [z]; exact hp)
    exact k p vs ds F1 _ _ r1 (x1.back hp) bp (x1.tl (Ext.newM x1.s hp)) (w1.set (o := .tup []) bp) ⟨x1.s.free hp, upd_same⟩ d1 (EnvD.set (s := .v (.ref p)) j (E.up x1.f) rfl)⟩
end
end Nm
namespace Nm
open PySem PySem.Spec L2
section
variable {K : PySem.W.Frag} {F H : Hp} {σ : L2.St} {te ta tb : TE} {r : List Sl} {DE : Ends} {tz : TS} {d e : D} {b p : Addr} {ds : List D}
theorem Ext.dropM {M M' : List Addr} {F1 H1 F2 H2 : Hp} (x : Ext M F H F1 H1) (y : Ext M' F1 H1 F2 H2) (h : ∀ a ∈ M', a ∈ M ∨ H a = none) : Ext M F H F2 H2 :=
  ⟨x.f.trans y.f, fun a o m e => y.h a o (fun z => (h a z).elim m (fun q => by rw [q] at e; cases e)) (x.h a o m e), y.s, fun a f k => y.n a (x.n a f k) (x.k a k), fun a k => y.k a (x.k a k)⟩
theorem q_ifLend {i : Nat} {xs : List V} {tt : TT} {tu tw : TS} {bb : Bool} (S : Same F H) (E : EnvD K F r σ) (hi : r[i]? = some (.v (.ref p))) (w : Own F H p (.lst xs)) (l : DenL K F xs ds) (h : ∀ F', Same F F' → EnvD K F' (r.set i (.d (.lst ds))) σ → EvT K tt σ F' bb)
    (h1 : bb = true → ∀ F' H', Ext [] F H F' H' → Own F' H' p (.lst xs) → tu { DE with nx := tz DE } σ H') (h2 : bb = false → ∀ F' H', Ext [] F H F' H' → Own F' H' p (.lst xs) → tw { DE with nx := tz DE } σ H') : tSeq (tIfS tt tu tw) tz DE σ H :=
  et_lend S E hi w l h fun F' H' x o => by
    cases bb with
    | true => exact h1 rfl F' H' x o
    | false => exact h2 rfl F' H' x o
theorem wtL_cons (d : D) (ds : List D) : wtL (d :: ds) = (wt d + 2) + wtL ds := by simp only [wtL]
theorem txtDL_cons (d : D) (ds : List D) : txtDL (d :: ds) = (txtD d && txtDL ds) := by simp only [txtDL]
theorem dpL_cons (d : D) (ds : List D) : dpL (d :: ds) = max (dp d) (dpL ds) := by simp only [dpL]
theorem wt_pair (p : List Nat × List Nat) : wt (pairD p) = 10 * p.1.length + 10 * p.2.length + 12 := by
  unfold pairD txt
  simp only [wt, wtL, txt_len]
  omega
theorem pairs_wt : ∀ ps : List (List Nat × List Nat), (∀ p ∈ ps, p.1.length ≤ 40 ∧ p.2.length ≤ 40) → wtL (ps.map pairD) ≤ ps.length * 1000
  | [], _ => by simp [wtL]
  | p :: ps, h => by
    have ih := pairs_wt ps fun q hq => h q (List.mem_cons_of_mem _ hq)
    obtain ⟨h1, h2⟩ := h p (by simp)
    rw [List.map_cons, List.length_cons, Nat.add_mul, Nat.one_mul, wtL_cons, wt_pair]
    omega
theorem strOk_of {l : List Nat} (h : ∀ c ∈ l, c < 1114112) : PyData.strOk ⟨l.toArray⟩ = true := by
  unfold PyData.strOk
  rw [← Array.all_toList, List.all_eq_true]
  exact fun c hc => decide_eq_true (h c hc)
theorem pairs_txt : ∀ ps : List (List Nat × List Nat), (∀ p ∈ ps, (∀ c ∈ p.1, c < 1114112) ∧ ∀ c ∈ p.2, c < 1114112) → txtDL (ps.map pairD) = true
  | [], _ => by simp only [List.map_nil, txtDL]
  | p :: ps, h => by
    have ih := pairs_txt ps fun q hq => h q (List.mem_cons_of_mem _ hq)
    obtain ⟨h1, h2⟩ := h p (by simp)
    have e : txtD (pairD p) = true := by
      unfold pairD txt
      simp only [txtD, txtDL, strOk_of h1, strOk_of h2, Bool.and_true]
    rw [List.map_cons, txtDL_cons, ih, e]
    rfl
theorem pairs_dp : ∀ ps : List (List Nat × List Nat), dpL (ps.map pairD) ≤ 1
  | [] => by simp only [List.map_nil, dpL]; exact Nat.zero_le _
  | p :: ps => by
    have ih := pairs_dp ps
    have e : dp (pairD p) = 1 := by
      unfold pairD txt
      simp only [dp, dpL]
      rfl
    rw [List.map_cons, dpL_cons, e]
    omega
theorem pairs_ok {ps : List (List Nat × List Nat)} (h : ∀ p ∈ ps, (p.1.length ≤ 40 ∧ p.2.length ≤ 40) ∧ (∀ c ∈ p.1, c < 1114112) ∧ ∀ c ∈ p.2, c < 1114112) (hl : ps.length ≤ 10000) : txtD (.lst (ps.map pairD)) = true ∧ dp (.lst (ps.map pairD)) ≤ 2 ∧ wt (.lst (ps.map pairD)) ≤ 16777216 := by
  have h1 := pairs_wt ps fun p hp => (h p hp).1
  have h2 := pairs_txt ps fun p hp => (h p hp).2
  have h3 := pairs_dp ps
  refine ⟨by unfold txtD; exact h2, by unfold dp; omega, by unfold wt; omega⟩
end
end Nm

set_option Elab.async false
set_option linter.all false
set_option maxRecDepth 100000
set_option maxHeartbeats 1000000
/-! Sets of texts that can be walked; set(list of texts), sorted of such a set, sorted of texts of any number. -/
namespace Nm
open PySem PySem.Spec L2 PyProof.Rows
def SetX (P : Program) (w : World) (h : Heap) (a : Addr) (l : List Str) : Prop :=
  ∃ D : Froz.SD, h.get? a = some (Froz.sObj "set" D) ∧ Froz.TxOk P w D l ∧ l.Nodup ∧ Ris D.2.2.place.toList ∧ (w.params.followText "set-order" = true ∨ D.2.2.led = true)
theorem tail_walk {ep : Nat} {es : Array (Int × Value)} {t : SetTable} {b : Bool} (r : Ris t.place.toList) : Ris (Froz.tailTx ep es t b).2.2.place.toList ∧ (Froz.tailTx ep es t b).2.2.led = t.led := by
  unfold Froz.tailTx
  by_cases c : (!b && t.tooFull) = true
  · rw [if_pos c]; exact ⟨relayAll_ris _ _ _, relayAll_led _ _ _⟩
  · rw [if_neg c]; exact ⟨r, rfl⟩
theorem add_walk {h : Int} {v : Value} {D : Froz.SD} (r : Ris D.2.2.place.toList) : Ris (Froz.addTx h v D).2.2.place.toList ∧ (Froz.addTx h v D).2.2.led = D.2.2.led := by
  have r1 := layNew_ris D.2.2 D.1 h v r
  have l1 := layNew_led D.2.2 D.1 h v
  unfold Froz.addTx
  by_cases c : (layNew D.2.2 D.1 h v).2.1.plain = true
  · rw [if_pos c]
    obtain ⟨g1, g2⟩ := tail_walk (ep := D.2.1) (es := (layNew D.2.2 D.1 h v).1) (t := { (layNew D.2.2 D.1 h v).2.1 with plain := false }) (b := (layNew D.2.2 D.1 h v).2.2.1) r1
    exact ⟨g1, g2.trans l1⟩
  · rw [if_neg c]
    obtain ⟨g1, g2⟩ := tail_walk (ep := D.2.1) (es := (layNew D.2.2 D.1 h v).1) (t := (layNew D.2.2 D.1 h v).2.1) (b := (layNew D.2.2 D.1 h v).2.2.1) r1
    exact ⟨g1, g2.trans l1⟩
section
variable {P : Program} {w : World} {A : Around} {E : Value → Shared → Prop} {s : Shared} {a : Addr} {l : List Str}
theorem SetX.keep {h h' : Heap} (R : SetX P w h a l) (k : ∀ o, h.get? a = some o → h'.get? a = some o) : SetX P w h' a l := by
  obtain ⟨D, ho, r⟩ := R
  exact ⟨D, k _ ho, r⟩
theorem setX_add {k : Str} {u : Tok} {Q : Bool → Shared → Prop} (R : SetX P w s.heap a l) (hb : l.length + 1 < scanBound)
    (hQ : ∀ h' l' b, Heap.SameBut a s.heap h' → SetX P w h' a l' → (∀ z, z ∈ l' ↔ z ∈ l ∨ z = k) → l'.length ≤ l.length + 1 → Q b { s with heap := h' }) :
    wpAny (model P w) A (setAddHashed a (.str k u) (hashStr w k)) Q E s := by
  obtain ⟨⟨es, ep, t⟩, ho, F, nd, r, hl⟩ := R
  by_cases hk : k ∈ l
  · have hel : ElemsOf (strKind P w) es.toList := F.el
    have hf : t.fits es.size = true := F.fit
    have hsz : es.size = l.length := F.sz
    obtain ⟨e, he, q⟩ := (F.mem k).mp hk
    unfold setAddHashed setAddHashedIn
    refine wpAny_holding (wpAny_bind (wpAny_setState_of ho rfl hf ?_))
    dsimp only
    rw [byScan_of rfl (by omega) hel]
    simp only [↓reduceIte]
    unfold setAddByScan
    refine wpAny_bind (wpAny_bind (wpAny_rule (wpAny_bind (wpAny_setScan_of (knd := strKind P w) (k := k) (Froz.is_str k u) ho rfl hf hel ?_))))
    cases fi : List.findIdx? (fun e => (strKind P w).is k e.2) es.toList with
    | none =>
      have c := List.findIdx?_eq_none_iff.mp fi e he
      rw [q] at c
      cases c
    | some j =>
      dsimp only
      exact wpAny_pure (wpAny_pure (hQ s.heap l false (Heap.SameBut.refl a s.heap) ⟨(es, ep, t), ho, F, nd, r, hl⟩ (fun z => ⟨.inl, fun h => h.elim id fun e => e ▸ hk⟩) (Nat.le_succ _)))
  · refine Froz.add_x ho F hk hb (hQ _ (k :: l) true (Heap.SameBut.update s.heap a _) ⟨_, Froz.get_upd _ ho rfl, Froz.add_ok u F, List.nodup_cons.mpr ⟨hk, nd⟩, (add_walk r).1, hl.imp id fun z => (add_walk r).2.trans z⟩ (fun z => ?_) (Nat.le_refl _))
    rw [List.mem_cons]
    exact Or.comm
end
end Nm

set_option Elab.async false
set_option linter.all false
set_option maxRecDepth 100000
set_option maxHeartbeats 3200000
namespace Nm
open PySem PySem.Spec L2 PyProof.Rows
abbrev newSet (w : World) : Obj := { cls := .type "set", dict := none, data := .set #[] 0 (.fresh 0 0 (!w.params.followText "set-order")) }
section
variable {P : Program} {w : World} {A : Around} {E : Value → Shared → Prop} {s : Shared}
theorem setX_new {h : Heap} {a : Addr} (ho : h.get? a = some (newSet w)) : SetX P w h a [] := by
  refine ⟨(#[], 0, .fresh 0 0 (!w.params.followText "set-order")), ho, Froz.TxOk.nil rfl, List.nodup_nil, List.Pairwise.nil, ?_⟩
  show _ ∨ (!w.params.followText "set-order") = true
  cases w.params.followText "set-order"
  · exact .inr rfl
  · exact .inl rfl
/-- what is walked goes into the set -/
theorem setX_loop {I : Addr} {fp wr : List Addr} {G : Array GenState → Array GenState → Prop} {n : Nat} {Pv : Nat → Value → Prop} {St : Nat → Shared → Prop} {R : Result → Shared → Prop}
    (W : WalksS P w A.in1 I fp wr G n Pv St) {S : Addr} (hS : S ∉ fp) {ks : List Str} (hn : n = ks.length) (hb : ks.length + 1 < scanBound) (hv : ∀ i v, Pv i v → ∃ k t, ks[i]? = some k ∧ v = .str k t) :
    ∀ (m i : Nat) (s : Shared) (l : List Str), n - i = m → i ≤ n → St i s → SetX P w s.heap S l → (∀ z, z ∈ l ↔ z ∈ ks.take i) → l.length ≤ i →
      (∀ s' l', Moved (S :: wr) G s s' → SetX P w s'.heap S l' → (∀ z, z ∈ l' ↔ z ∈ ks) → R (.ok (.ret .none)) s') →
      codeAny (model P w) A (.builtin "set.update.loop" ⟨[.ref S, .ref I], []⟩) R s
  | 0, i, s, l, hm, hi, st, hx, hl, hz, k => by
    have hSw : S ∉ wr := fun h => hS (W.sub _ h)
    have ei : i = n := by omega
    subst ei
    refine codeAny_builtin F.entry_set_update_loop ?_
    rw [Around.under_plainId F.plain_set_update_loop _]
    show wpAny _ A.in1 (pyNext (.ref I) >>= _) _ _ s
    refine wpAny_bind (W.done s _ _ st fun s' mv => wpAny_pure (k s' l (mv.mono fun b hb => List.mem_cons_of_mem _ hb) (hx.keep fun o e => mv.heap S o hSw e) fun z => ?_))
    rw [hl z, List.take_of_length_le (by omega)]
  | m + 1, i, s, l, hm, hi, st, hx, hl, hz, k => by
    have hSw : S ∉ wr := fun h => hS (W.sub _ h)
    have sub : ∀ b ∈ wr, b ∈ S :: wr := fun b hb => List.mem_cons_of_mem _ hb
    have lt : i < n := by omega
    refine codeAny_builtin F.entry_set_update_loop ?_
    rw [Around.under_plainId F.plain_set_update_loop _]
    show wpAny _ A.in1 (pyNext (.ref I) >>= _) _ _ s
    refine wpAny_bind (W.item i s _ _ lt st fun v s1 pv st1 mv => ?_)
    obtain ⟨x, t, hx1, rfl⟩ := hv i v pv
    show wpAny _ A.in1 (holding [Value.str x t] (setAdd S (.str x t)) >>= _) _ _ s1
    refine wpAny_bind (wpAny_holding ?_)
    unfold setAdd
    refine wpAny_holding (wpAny_bind ((strKind P w).pyHash (k := x) (Froz.is_str x t) ?_))
    refine setX_add (s := { s1 with toks := s1.toks + 1 }) (hx.keep fun o e => mv.heap S o hSw e) (by omega) fun h' l' b sb hx' hl' hz' => ?_
    refine wpAny_pure ⟨plainId_quiet F.plain_set_update_loop _, setX_loop W hS hn hb hv m (i + 1) _ l' (by omega) lt (W.frame _ s1 _ _ st1 (Nat.le_succ _) fun b hb o e => ?_) hx' (fun z => ?_) (by omega) fun s2 l2 mv2 hx2 hl2 => ?_⟩
    · show h'.get? b = some o
      rw [sb.2 b fun h => hS (h ▸ hb)]; exact e
    · rw [hl' z, hl z, take_succ' hx1, List.mem_append, List.mem_singleton]
    · refine k s2 l2 (Moved.trans W.gtrans ((mv.mono sub).then_heap (Nat.le_succ _) fun b o hb e => ?_) mv2) hx2 hl2
      show h'.get? b = some o
      rw [sb.2 b fun h => hb (h ▸ List.mem_cons_self)]; exact e
theorem strs_get : ∀ {us : List Value} {ks : List Str}, StrsAre us ks → ∀ (i : Nat) (v : Value), us[i]? = some v → ∃ k t, ks[i]? = some k ∧ v = .str k t
  | _, _, h, i, v, e => by
    induction h generalizing i with
    | nil => simp at e
    | cons k t r ih =>
      cases i with
      | zero => simp at e; exact ⟨k, t, rfl, e.symm⟩
      | succ i => simpa using ih i (by simpa using e)
/-- set(xs), xs a list of texts -/
theorem run_set_list {l : Addr} {items : Array Value} {ks : List Str} {Q : Value → Shared → Prop} (hh : A.handled = none) (hl : s.heap.IsList l items) (hk : StrsAre items.toList ks) (hb : ks.length + 1 < scanBound)
    (h : ∀ (h' : Heap) (tk : Nat) (ds : List Str), SetX P w h' s.heap.objs.size ds → (∀ z, z ∈ ds ↔ z ∈ ks) → (∀ b o, s.heap.get? b = some o → h'.get? b = some o) → Q (.ref s.heap.objs.size) { s with heap := h', toks := tk }) :
    wpAny (model P w) A (call (.type "set") [.ref l]) Q E s := by
  have isz : items.size = ks.length := by
    have q := hk.length
    rw [Array.length_toList] at q
    exact q
  obtain ⟨c, tl, hmro⟩ := F.called_set.mro
  have m1 := F.called_set.made
  have m2 := F.called_set.sub
  refine wpAny_call (codeAny_of_tree ?_)
  show wpAny _ _ (callAny (.type "set") _) _ _ _
  refine wpAny_pure ⟨Code.quiet_builtin _ (by decide +kernel), codeAny_builtin F.entry_type_call ?_⟩
  rw [Around.under_plain (weight_type_call_type "set" [.ref l] []) rfl]
  have m3 := F.called_set.notType
  have m4 := F.called_set.canCreate
  have m5 := F.typeCall_set_1 (.ref l)
  repeat (any_goals (first | assumption | wp_step))
  refine codeAny_mono (code_set_led1 (.ref l) (E := E) (Q₁ := fun x s1 => x = .ref s.heap.objs.size ∧ s1 = { s with heap := s.heap.push (newSet w) }) ⟨rfl, rfl⟩) fun r s1 hr => ?_
  cases r with
  | error e => exact hr
  | ok fl =>
    cases fl with
    | ret x =>
      obtain ⟨rfl, rfl⟩ := hr
      have at1 : (s.heap.push (newSet w)).get? s.heap.objs.size = some (newSet w) := Heap.get?_push_size _ rfl
      have ty1 : Shared.TypeIs { s with heap := s.heap.push (newSet w) } (.ref s.heap.objs.size) "set" := ⟨_, at1, rfl⟩
      have m6 := F.called_set.init.lookup
      have m7 := F.called_set.init.bind (.ref s.heap.objs.size)
      repeat (any_goals (first | assumption | wp_step))
      refine codeAny_mono (codeAny_call_builtin (R := wants (fun r s2 => r = .none ∧ ∃ h' tk ds, s2 = { s with heap := h', toks := tk } ∧ SetX P w h' s.heap.objs.size ds ∧ (∀ z, z ∈ ds ↔ z ∈ ks) ∧ (∀ b o, s.heap.get? b = some o → h'.get? b = some o)) E) F.called_set.init.plain F.entry_set_init (check_set_init_1 ty1 ?_)) fun r2 s2 hr2 => ?_
      · obtain ⟨⟨ocls, odict, odata, oslots⟩, hol, hcl, nl, hdl⟩ := hl
        simp only at hcl hdl
        subst hcl; subst hdl
        have hol1 : (s.heap.push (newSet w)).get? l = some { cls := .type "list", dict := odict, data := .seq items nl, slots := oslots } := Heap.get?_push_of_some _ hol
        have m8 := F.sub_list_set
        have m9 := F.sub_list_frozenset
        have m10 : (Value.type "list" == Value.type "dict") = false := by decide
        have hl1 : (s.heap.push (newSet w)).IsList l items := ⟨_, hol1, rfl, nl, rfl⟩
        unfold Builtin.«set.__init__» noKeywords Builtin.Frozenset.updateFrom
        generalize hPI : pyIter = PI
        wp_walk
        subst hPI
        refine wpAny_pyIter_list hl1 (wpAny_bind (wpAny_runValue ?_))
        have lS : l < s.heap.objs.size := Heap.lt_size hol
        have h3 : A.in1.in1.in1.handled = none := by simp [hh]
        have z1 : (s.heap.push (newSet w)).objs.size = s.heap.objs.size + 1 := Heap.size_push ..
        have ne1 : l ≠ (s.heap.push (newSet w)).objs.size := by rw [z1]; exact Nat.ne_of_lt (Nat.lt_succ_of_lt lS)
        have nf : s.heap.objs.size ∉ [(s.heap.push (newSet w)).objs.size, l] := by
          rw [z1]
          simp only [List.mem_cons, List.not_mem_nil, or_false, not_or]
          exact ⟨Nat.ne_of_lt (Nat.lt_succ_self _), Nat.ne_of_gt lS⟩
        refine setX_loop ((Walks.list h3 _ l ne1 items).toS) nf isz hb (fun i v hv => strs_get hk i v (by rw [Array.getElem?_toList]; exact hv)) (items.size - 0) 0 _ [] (by omega) (Nat.zero_le _) ⟨⟨_, Heap.get?_push_size _ rfl, rfl, rfl⟩, hl1.push _⟩ (setX_new (Heap.get?_push_of_some _ at1)) (fun z => by simp) (Nat.le_refl _) fun s' ds mv hx hd => ?_
        obtain ⟨h', g', d', tk', os'⟩ := s'
        have e1 : g' = s.gens := mv.gens
        have e2 : d' = s.drawn := mv.drawn
        have e3 : os' = s.os := mv.os
        subst e1; subst e2; subst e3
        show wpAny _ _ _ _ _ _
        refine wpAny_pure ?_
        show wpAny _ _ (ret Value.none) _ _ _
        refine wpAny_pure ⟨rfl, h', tk', ds, rfl, hx, hd, fun b o e => ?_⟩
        have lb : b < s.heap.objs.size := Heap.lt_size e
        refine mv.heap b o ?_ (Heap.get?_push_of_some _ (Heap.get?_push_of_some _ e))
        rw [z1]
        simp only [List.mem_cons, List.not_mem_nil, or_false, not_or]
        exact ⟨Nat.ne_of_lt lb, Nat.ne_of_lt (Nat.lt_succ_of_lt lb)⟩
      · cases r2 with
        | error e => exact hr2
        | ok fl2 =>
          cases fl2 with
          | ret r =>
            obtain ⟨rfl, h', tk, ds, rfl, hx, hd, hk'⟩ := hr2
            repeat (any_goals (first | assumption | wp_step))
            exact h _ _ _ hx hd hk'
          | _ => exact hr2.elim
    | _ => exact hr.elim
end
end Nm

set_option Elab.async false
set_option linter.all false
set_option maxRecDepth 100000
set_option maxHeartbeats 1000000
namespace Nm
open PySem PySem.Spec L2 PyProof.Rows
theorem perm_of_sub {α : Type} [DecidableEq α] : ∀ {l m : List α}, l.Nodup → (∀ z ∈ l, z ∈ m) → l.length = m.length → l.Perm m
  | [], m, _, _, h => by
    have : m = [] := List.length_eq_zero_iff.mp h.symm
    subst this; exact List.Perm.refl _
  | x :: l, m, nd, hs, h => by
    rw [List.nodup_cons] at nd
    have hx : x ∈ m := hs x List.mem_cons_self
    have p := List.perm_cons_erase hx
    have len := p.length_eq
    rw [List.length_cons] at len h
    refine (List.Perm.cons x (perm_of_sub (m := m.erase x) nd.2 (fun z hz => ?_) (by omega))).trans p.symm
    have ne : z ≠ x := fun e => nd.1 (e ▸ hz)
    exact (List.mem_erase_of_ne ne).mpr (hs z (List.mem_cons_of_mem _ hz))
theorem nodup_perm {α : Type} [DecidableEq α] {l m : List α} (h1 : l.Nodup) (h2 : m.Nodup) (h : ∀ z, z ∈ l ↔ z ∈ m) : l.Perm m := by
  have le : ∀ {l m : List α}, l.Nodup → (∀ z ∈ l, z ∈ m) → l.length ≤ m.length := by
    intro l
    induction l with
    | nil => intro m _ _; exact Nat.zero_le _
    | cons x l ih =>
      intro m nd hs
      rw [List.nodup_cons] at nd
      have p := List.perm_cons_erase (hs x List.mem_cons_self)
      have len := p.length_eq
      rw [List.length_cons] at len ⊢
      have := ih (m := m.erase x) nd.2 fun z hz => (List.mem_erase_of_ne (fun e : z = x => nd.1 (e ▸ hz))).mpr (hs z (List.mem_cons_of_mem _ hz))
      omega
  exact perm_of_sub h1 (fun z hz => (h z).mp hz) (Nat.le_antisymm (le h1 fun z hz => (h z).mp hz) (le h2 fun z hz => (h z).mpr hz))
/-- each once -/
def dd : List Str → List Str
  | [] => []
  | x :: l => if x ∈ l then dd l else x :: dd l
theorem dd_mem : ∀ {l : List Str} {z : Str}, z ∈ dd l ↔ z ∈ l
  | [], z => Iff.rfl
  | x :: l, z => by
    unfold dd
    by_cases h : x ∈ l
    · rw [if_pos h, dd_mem, List.mem_cons]
      exact ⟨.inr, fun k => k.elim (fun e => e ▸ h) id⟩
    · rw [if_neg h, List.mem_cons, List.mem_cons, dd_mem]
theorem dd_nodup : ∀ l : List Str, (dd l).Nodup
  | [] => List.nodup_nil
  | x :: l => by
    unfold dd
    by_cases h : x ∈ l
    · rw [if_pos h]; exact dd_nodup l
    · rw [if_neg h, List.nodup_cons]; exact ⟨fun z => h (dd_mem.mp z), dd_nodup l⟩
theorem dd_len : ∀ l : List Str, (dd l).length ≤ l.length
  | [] => Nat.le_refl _
  | x :: l => by
    have := dd_len l
    unfold dd
    split <;> simp only [List.length_cons] <;> omega
/-- sorted(set(l)) -/
def setS (l : List Str) : List Str := sortS (dd l)
theorem setS_mem {l : List Str} {z : Str} : z ∈ setS l ↔ z ∈ l := by
  unfold setS
  rw [(sortS_perm _).mem_iff, dd_mem]
theorem setS_nodup (l : List Str) : (setS l).Nodup := (sortS_perm _).nodup_iff.mpr (dd_nodup l)
theorem setS_len (l : List Str) : (setS l).length ≤ l.length := by
  unfold setS
  rw [(sortS_perm _).length_eq]
  exact dd_len l
theorem setS_congr {l m : List Str} (h : ∀ z, z ∈ l ↔ z ∈ m) : setS l = setS m := by
  refine sort_unique ?_ (sortS_pair _) (sortS_pair _)
  exact nodup_perm (setS_nodup l) (setS_nodup m) fun z => by rw [setS_mem, setS_mem, h z]
theorem setS_is {ys ds ks : List Str} (p : ys.Perm ds) (nd : ds.Nodup) (h : ∀ z, z ∈ ds ↔ z ∈ ks) (hs : sortedS ys = true) : ys = setS ks := by
  unfold setS
  refine sortedS_is (p.trans (nodup_perm nd (dd_nodup ks) fun z => by rw [h z, dd_mem])) hs
section
variable {P : Program} {w : World} {A : Around} {E : Value → Shared → Prop} {s : Shared} {a : Addr} {l : List Str}
theorem SetX.nodup {h : Heap} (R : SetX P w h a l) : l.Nodup := R.elim fun _ r => r.2.2.1
/-- sorted(set) -/
theorem run_sorted_set {Q : Value → Shared → Prop} (R : SetX P w s.heap a l) (hh : A.handled = none) (hb : l.length < scanBound) (hz : l.length ≤ sizeLine)
    (hQ : ∀ s' p (out : Array Value) (c : Nat) (ys : List Str), (∀ b o, s.heap.get? b = some o → s'.heap.get? b = some o) → s'.gens = s.gens → s'.os = s.os → s.heap.objs.size ≤ p →
      s'.heap.get? p = some (seqObj "list" out c) → StrsAre out.toList ys → ys.Perm l → sortedS ys = true → Q (.ref p) s') :
    wpAny (model P w) A (call (.builtin "sorted") [.ref a]) Q E s := by
  obtain ⟨⟨es, ep, t⟩, ho, Fx, nd, r, hl⟩ := R
  have esz : es.size = l.length := Fx.sz
  refine Calls.call_function_entry kind_sorted plain_sorted entry_sorted (args_sorted1 _) ?_
  unfold Builtin.«sorted»
  refine wpAny_bind (m := checkCount "sorted" 1 1 _) (wpAny_pure (wpAny_bind (collect_set (A := A.in1) hh ⟨_, ho, rfl, rfl⟩ Fx.fit (by show es.size < scanBound; omega) r hl fun s1 vs k1 z1 g1 o1 pm => ?_)))
  have vl : vs.length = l.length := by rw [pm.length_eq, List.length_map, Array.length_toList]; exact esz
  have all : ∀ v ∈ vs, ∃ x t, v = Value.str x t := fun v hv => by
    obtain ⟨e, he, rfl⟩ := List.mem_map.mp (pm.mem_iff.mp hv)
    obtain ⟨⟨k, hk, _⟩, _⟩ := Fx.el e he
    obtain ⟨t, q⟩ := Value.isStrOf_shape hk
    exact ⟨k, t, q⟩
  have hS := strsAre_map vs all
  have pl : (vs.map strOf).Perm l := by
    refine (perm_of_sub nd (fun z hz => ?_) (by rw [List.length_map, vl])).symm
    obtain ⟨e, he, hk⟩ := (Fx.mem z).mp hz
    obtain ⟨t, q⟩ := Value.isStrOf_shape hk
    exact List.mem_map.mpr ⟨e.2, pm.mem_iff.mpr (List.mem_map.mpr ⟨e, he, rfl⟩), by rw [q]; rfl⟩
  refine wpAny_bind (wpAny_newList ?_ (by rw [vl]; exact hz))
  have oL : (s1.heap.push (seqObj "list" vs.toArray 0)).get? s1.heap.objs.size = some (seqObj "list" vs.toArray 0) := Heap.get?_push_size _ rfl
  refine wpAny_bind (wpAny_holding (wpAny_call_entry slot_list_sort ⟨_, oL, rfl⟩ entry_list_sort (list_sort_treeKAny strKind_oneLt oL hS.keysOf (fun v1 v2 rest e => keyKind_strs (by rw [← e]; exact hS)) (by rw [vl]; exact hz) fun st' hp hs => ⟨_, rfl, ?_⟩) (args_list_sort _)))
  obtain ⟨ys, a1, a2, a3⟩ := sorted_out_str hS hp hs
  obtain ⟨c, hc⟩ := sortedHeap_at (vs := vs) (out := ((arrOf st').map (·.2))) oL
  refine wpAny_pure ⟨_, rfl, hQ _ s1.heap.objs.size _ c ys (fun b u e => ?_) g1 o1 z1 hc a1 (a2.trans pl) a3⟩
  have q := k1 b u e
  have lt := Heap.lt_size q
  show (sortedHeap (s1.heap.push (seqObj "list" vs.toArray 0)) s1.heap.objs.size vs _).get? b = some u
  rw [sortedHeap_old (Nat.ne_of_lt lt) (by rw [size_push']; exact Nat.lt_succ_of_lt lt)]
  exact Heap.get?_push_of_some _ q
end
/-! ### the rules -/
def SetXO (P : Program) (w : World) (a : Addr) (l : List Str) : HO := .ext fun h => SetX P w h a l
theorem setXO_new {P : Program} {w : World} {H : Hp} {h : Heap} {a : Addr} {l : List Str} (R : SetX P w h a l) : ObjOk P w H h a (SetXO P w a l) := by
  have ⟨D, ho, _⟩ := R
  exact ⟨R, ⟨_, ho⟩, fun h1 h2 p k => p.keep k⟩
theorem setXO_get {X : Cx} {pins : List (Addr × Obj)} {σ : L2.St} {H : Hp} {s : Shared} {a : Addr} {l : List Str} (I : L2.Inv X pins σ H s) (ha : H a = some (SetXO X.prog X.w a l)) : SetX X.prog X.w s.heap a l := (I.hok a _ ha).1
/-- set(xs) of a list of texts -/
def rSetX (P : Program) (w : World) (K : PySem.W.Frag) : List V → Hp → VK → Prop := fun xs H Q => ∃ (l : Addr) (ks : List Str), xs = [.ref l] ∧ SqL K H l (ks.map V.str) ∧ ks.length + 1 < scanBound ∧
  ∀ p ds, ds.Nodup → (∀ z, z ∈ ds ↔ z ∈ ks) → H p = none → Q (.ref p) (upd H p (SetXO P w p ds))
theorem c_setX {X : Cx} (hc : X.calm = true) : CallR X (.type "set") (rSetX X.prog X.w X.K) := by
  intro pins s σ H xs us Q I r h
  obtain ⟨l, ks, rfl, hs, hb, q⟩ := h
  obtain ⟨its, rv, hl, _⟩ := I.list hs
  rw [Vals.ref1 r]
  refine run_set_list (I.ok.hd hc) hl.isList (by simpa using rv.strs) hb fun h' tk ds hx hd hk => ?_
  exact ⟨.ref _, upd H s.heap.objs.size (SetXO X.prog X.w s.heap.objs.size ds), I.laid (t' := tk) hk (Nat.le_refl _) (setXO_new hx), rfl, q _ ds hx.nodup hd (I.hok.fresh (Nat.le_refl _))⟩
def rSortedX (P : Program) (w : World) : List V → Hp → VK → Prop := fun xs H Q => ∃ (a : Addr) (l : List Str), xs = [.ref a] ∧ H a = some (SetXO P w a l) ∧ l.length < scanBound ∧
  ∀ ys p, ys.Perm l → sortedS ys = true → H p = none → Q (.ref p) (upd H p (.lst (ys.map V.str)))
theorem c_sortedX {X : Cx} (hc : X.calm = true) : CallR X (.builtin "sorted") (rSortedX X.prog X.w) := by
  intro pins s σ H xs us Q I r h
  obtain ⟨a, l, rfl, ha, hb, q⟩ := h
  have hz : l.length ≤ sizeLine := by
    have : scanBound = 4096 := rfl
    rw [sizeLine_eq]; omega
  rw [Vals.ref1 r]
  refine run_sorted_set (setXO_get I ha) (I.ok.hd hc) hb hz fun s' p out c ys k g o hp hg hi pm hs => ?_
  have hlen : (ys.map V.str).length ≤ sizeLine := by rw [List.length_map, pm.length_eq]; exact hz
  have hn : H p = none := I.hok.fresh hp
  exact ⟨.ref p, upd H p (.lst (ys.map V.str)), I.call' (ch := []) o (Un.laid k hp hn) (I.hok.laid k hp (o := .lst (ys.map V.str)) ⟨hlen, out.toList, c, vals_of_strs hi, by simpa using hg⟩) (by rw [g]; exact I.bare) (fun _ z => nomatch z), rfl, q ys p pm hs hn⟩
/-- sorted(xs) of texts, any number of them -/
def rSortedN (K : PySem.W.Frag) : List V → Hp → VK → Prop := fun xs H Q => ∃ (a : Addr) (ks : List Str), xs = [.ref a] ∧ SqL K H a (ks.map V.str) ∧
  ∀ ys p, ys.Perm ks → sortedS ys = true → H p = none → Q (.ref p) (upd H p (.lst (ys.map V.str)))
theorem c_sortedN {X : Cx} : CallR X (.builtin "sorted") (rSortedN X.K) := by
  intro pins s σ H xs us Q I r h
  obtain ⟨a, ks, rfl, hs, q⟩ := h
  obtain ⟨its, rv, hl, hz⟩ := I.list hs
  rw [Vals.ref1 r]
  have len0 := rv.length
  refine sorted_strsAny hl.isList rv.strs (by rw [← len0]; exact hz) fun out ys h1 h2 h3 => ?_
  obtain ⟨ep, he⟩ := sortedAll_at s.heap its out
  have hlen : (ys.map V.str).length ≤ sizeLine := by rw [List.length_map, h2.length_eq]; rw [List.length_map] at hz; exact hz
  exact ⟨.ref _, upd H (s.heap.objs.size + 1) (.lst (ys.map V.str)), I.laid (t' := s.toks) (fun _ _ => sortedAll_old) (Nat.le_succ _) ⟨hlen, out.toList, ep, vals_of_strs h1, he⟩, rfl, q ys _ h2 h3 (I.hok.fresh (Nat.le_succ _))⟩
section
variable {K : PySem.W.Frag} {F H : Hp} {σ : L2.St} {ta : TA} {P : Program} {w : World}
/-- sorted(set(xs)) -/
theorem el_sortset {ks : List Str} {ds : List D} (h : EvA K ta σ F [.lst ds]) (e : ds = ks.map D.str) (hb : ks.length < 4000) : EvL K (tCB (rSortedX P w) (tCons (tCB (rSetX P w K) ta) tNil)) σ F ((setS ks).map D.str) := fun H s Q q => h H s _ fun vs F1 H1 x1 l => by
  subst e
  have sb : scanBound = 4096 := rfl
  cases l with
  | cons a t =>
    cases t
    cases a with
    | lst r l =>
      rw [denL_strs l] at r
      refine ⟨_, ks, rfl, SqL.of (x1.s _ _ r), by omega, fun p ds nd hd hp => ?_⟩
      have len : ds.length ≤ ks.length := by
        have := (nodup_perm nd (dd_nodup ks) fun z => by rw [hd z, dd_mem]).length_eq
        have h2 := dd_len ks
        omega
      refine ⟨p, ds, rfl, upd_same, by omega, fun ys p2 pm hs hp2 => ?_⟩
      have x2 := Ext.newM (o := SetXO P w p ds) x1.s hp
      have x3 := Ext.newM (o := .lst (ys.map V.str)) x2.s hp2
      rw [setS_is pm nd hd hs] at x3 ⊢
      exact q p2 _ F1 _ ((x1.tr x2).back hp2) ((x1.tr x2).tr x3) ⟨x2.s.free hp2, upd_same⟩ (DenL.strs _)
theorem el_sortedN {ks : List Str} {ds : List D} (h : EvA K ta σ F [.lst ds]) (e : ds = ks.map D.str) : EvL K (tCB (rSortedN K) ta) σ F ((sortS ks).map D.str) := fun H s Q q => h H s _ fun vs F1 H1 x1 l => by
  subst e
  cases l with
  | cons a t =>
    cases t
    cases a with
    | lst r l =>
      rw [denL_strs l] at r
      refine ⟨_, ks, rfl, SqL.of (x1.s _ _ r), fun ys p pm hs hp => ?_⟩
      have x2 := Ext.newM (o := .lst (ys.map V.str)) x1.s hp
      rw [sortedS_is pm hs] at x2 ⊢
      exact q p _ F1 _ (x1.back hp) (x1.tr x2) ⟨x1.s.free hp, upd_same⟩ (DenL.strs _)
end
end Nm

set_option Elab.async false
set_option linter.all false
set_option maxRecDepth 100000
set_option maxHeartbeats 1000000
namespace Nm
open PySem PySem.Spec L2 PyProof.Rows
section
variable {P : Program} {w : World} {A : Around} {E : Value → Shared → Prop} {s : Shared}
def sgns (x : Str) : List Str := x.cps.toList.map fun c => ⟨#[c]⟩
theorem items_strs {x : Str} {acc : Array Value} (h : ItemsOf (SignAt x) acc x.cps.size) : StrsAre acc.toList (sgns x) := by
  have all : ∀ v ∈ acc.toList, ∃ z t, v = Value.str z t := fun v hv => by
    obtain ⟨i, hi, e⟩ := List.getElem_of_mem hv
    have : acc[i]? = some v := by rw [← e]; simp at hi ⊢
    obtain ⟨c, u, _, rfl⟩ := h.2 i v this
    exact ⟨_, _, rfl⟩
  have hS := strsAre_map acc.toList all
  have e : acc.toList.map strOf = sgns x := by
    apply List.ext_getElem?
    intro i
    unfold sgns
    rw [List.getElem?_map, List.getElem?_map]
    by_cases hi : i < acc.size
    · have g : acc[i]? = some acc[i] := Array.getElem?_eq_getElem hi
      obtain ⟨c, u, h1, h2⟩ := h.2 i _ g
      have g2 : acc.toList[i]? = some acc[i] := by rw [Array.getElem?_toList]; exact g
      have h3 : x.cps.toList[i]? = some c := by rw [Array.getElem?_toList]; exact h1
      rw [g2, h3, h2]
      rfl
    · have h1 : acc.toList[i]? = none := by rw [Array.getElem?_toList]; simp; omega
      have h2 : x.cps.toList[i]? = none := by rw [Array.getElem?_toList]; simp; have := h.1; omega
      rw [h1, h2]; rfl
  rw [← e]; exact hS
/-- sorted(text) -/
theorem run_sorted_str {x : Str} {t : Tok} {Q : Value → Shared → Prop} (hh : A.handled = none) (hz : x.cps.size ≤ sizeLine)
    (hQ : ∀ s' p (out : Array Value) (c : Nat) (ys : List Str), (∀ b o, s.heap.get? b = some o → s'.heap.get? b = some o) → s'.gens = s.gens → s'.os = s.os → (∃ h1 : Heap, (∀ b o, s.heap.get? b = some o → h1.get? b = some o) ∧ h1.objs.size ≤ p) →
      s'.heap.get? p = some (seqObj "list" out c) → StrsAre out.toList ys → ys.Perm (sgns x) → sortedS ys = true → Q (.ref p) s') :
    wpAny (model P w) A (call (.builtin "sorted") [.str x t]) Q E s := by
  refine Calls.call_function_entry kind_sorted plain_sorted entry_sorted (args_sorted1 _) ?_
  unfold Builtin.«sorted»
  refine wpAny_bind (m := checkCount "sorted" 1 1 _) (wpAny_pure (wpAny_bind (wpAny_collect_str (A := A.in1) hh x t (fun s1 acc k1 g1 _ o1 it => ?_) hz)))
  have hS := items_strs it
  have vl : acc.toList.length ≤ sizeLine := by rw [Array.length_toList, it.1]; exact hz
  generalize acc.toList = vs at hS vl
  refine wpAny_bind (wpAny_newList ?_ vl)
  have oL : (s1.heap.push (seqObj "list" vs.toArray 0)).get? s1.heap.objs.size = some (seqObj "list" vs.toArray 0) := Heap.get?_push_size _ rfl
  refine wpAny_bind (wpAny_holding (wpAny_call_entry slot_list_sort ⟨_, oL, rfl⟩ entry_list_sort (list_sort_treeKAny strKind_oneLt oL hS.keysOf (fun v1 v2 rest e => keyKind_strs (by rw [← e]; exact hS)) vl fun st' hp hs => ⟨_, rfl, ?_⟩) (args_list_sort _)))
  obtain ⟨ys, a1, a2, a3⟩ := sorted_out_str hS hp hs
  obtain ⟨c, hc⟩ := sortedHeap_at (vs := vs) (out := ((arrOf st').map (·.2))) oL
  refine wpAny_pure ⟨_, rfl, hQ _ s1.heap.objs.size _ c ys (fun b u e => ?_) g1 o1 ⟨s1.heap, k1, Nat.le_refl _⟩ hc a1 a2 a3⟩
  have q := k1 b u e
  have lt := Heap.lt_size q
  show (sortedHeap (s1.heap.push (seqObj "list" vs.toArray 0)) s1.heap.objs.size vs _).get? b = some u
  rw [sortedHeap_old (Nat.ne_of_lt lt) (by rw [size_push']; exact Nat.lt_succ_of_lt lt)]
  exact Heap.get?_push_of_some _ q
end
def rSortedT : List V → Hp → VK → Prop := fun xs H Q => ∃ x : Str, xs = [.str x] ∧ x.length ≤ sizeLine ∧
  ∀ ys p, ys.Perm (sgns x) → sortedS ys = true → H p = none → Q (.ref p) (upd H p (.lst (ys.map V.str)))
theorem c_sortedT {X : Cx} (hc : X.calm = true) : CallR X (.builtin "sorted") rSortedT := by
  intro pins s σ H xs us Q I r h
  obtain ⟨x, rfl, hz, q⟩ := h
  obtain ⟨t, rfl⟩ : ∃ t, us = [.str x t] := by
    cases r with
    | cons a b => cases b; obtain ⟨t, rfl⟩ := a; exact ⟨_, rfl⟩
  refine run_sorted_str (I.ok.hd hc) hz fun s' p out c ys k g o hp hg hi pm hs => ?_
  have hlen : (ys.map V.str).length ≤ sizeLine := by
    rw [List.length_map, pm.length_eq]
    unfold sgns
    rw [List.length_map, Array.length_toList]
    exact hz
  obtain ⟨h1, k1, z1⟩ := hp
  have hn : H p = none := (I.hok.kept k1).fresh z1
  have hp : s.heap.get? p = none := by
    cases e : s.heap.get? p with
    | none => rfl
    | some o => exact absurd (Nat.lt_of_lt_of_le (Heap.lt_size (k1 p o e)) z1) (Nat.lt_irrefl _)
  exact ⟨.ref p, upd H p (.lst (ys.map V.str)), I.call' (ch := []) o (Un.laidN k hp hn) (I.hok.laidN k hn (o := .lst (ys.map V.str)) ⟨hlen, out.toList, c, vals_of_strs hi, by simpa using hg⟩) (by rw [g]; exact I.bare) (fun _ z => nomatch z), rfl, q ys p pm hs hn⟩
section
variable {K : PySem.W.Frag} {F H : Hp} {σ : L2.St} {ta : TA}
/-- the signs of a text, ascending -/
theorem el_sortT {l : List Nat} (h : EvA K ta σ F [txt l]) (hz : l.length ≤ 16777216) : EvL K (tCB rSortedT ta) σ F ((sortS (sgns ⟨l.toArray⟩)).map D.str) := fun H s Q q => h H s _ fun vs F1 H1 x1 dl => by
  cases dl with
  | cons a t =>
    cases t
    cases a
    refine ⟨_, rfl, by rw [txt_len, sizeLine_eq]; exact hz, fun ys p pm hs hp => ?_⟩
    have := sortedS_is pm hs
    subst this
    refine q p _ F1 _ (x1.back hp) (x1.tr (Ext.newM x1.s hp)) ⟨x1.s.free hp, upd_same⟩ ?_
    exact DenL.strs _
end
end Nm

set_option Elab.async false
set_option linter.all false
set_option maxRecDepth 100000
set_option maxHeartbeats 1000000
/-! zip of two texts, drawn by an enumerate. -/
namespace Nm
open PySem PySem.Spec L2 PyProof.Rows
def SgnAt (x : Str) (i : Nat) (v : Value) : Prop := ∃ c u, x.cps[i]? = some c ∧ v = .str ⟨#[c]⟩ u
section
variable {prog : Program} {w : World} {A : Around} {E : Value → Shared → Prop} {s : Shared}
theorem drawsStr (hh : A.handled = none) (it : Addr) (x : Str) (t : Tok) : Draws prog w A it [it] x.cps.size (SgnAt x) (fun i h => h.IsStrIter it (strIterType x) x t i) := by
  unfold strIterType
  cases x.cps.all (· < 128)
  · exact Draws.strWide hh it x t
  · exact Draws.strAscii hh it x t
theorem wp_alive {M : Model} {a : Addr} {Q : Option Obj → Shared → Prop} (h : Q (s.heap.get? a) s) : wpAny M A (loadIfAlive a) Q E s := fun Γ p _ => by
  unfold loadIfAlive
  rw [Sem.wp_loadIfAlive]
  exact wpAny_pure (M := M) (A := A) (E := E) h Γ p ‹_›
abbrev ZipAt (h : Heap) (z TI TO : Addr) (f0 f1 : Value) : Prop :=
  h.get? z = some { cls := .type "zip", dict := none, data := .fields #[f0, f1, .bool false, .ref TI, .ref TO], slots := #[] }
def Own0 (f0 f1 : Value) : Prop := (f0 = .none ∨ ∃ a : Addr, f0 = rawInt a) ∧ ∃ q, f1 = .bool q
theorem own_free {z TI TO : Addr} {f0 f1 : Value} {Q : Bool → Shared → Prop} (hz : ZipAt s.heap z TI TO f0 f1) (h0 : Own0 f0 f1)
    (hQ : ∀ r h' g1, ZipAt h' z TI TO f0 g1 → Own0 f0 g1 → Heap.SameBut z s.heap h' → Q r { s with heap := h' }) : wpAny (model prog w) A (Builtin.SmallTypes.ownedTupleIsFree (.ref z)) Q E s := by
  unfold Builtin.SmallTypes.ownedTupleIsFree
  obtain ⟨h0, q, rfl⟩ := h0
  refine wpAny_bind (wpAny_field hz rfl (x := f0) rfl ?_)
  rcases h0 with rfl | ⟨a, rfl⟩
  · exact wpAny_pure (hQ true _ _ hz ⟨.inl rfl, q, rfl⟩ (Heap.SameBut.refl _ _))
  · show wpAny _ _ (loadIfAlive (a : Int).toNat >>= _) _ _ _
    refine wpAny_bind (wp_alive ?_)
    cases s.heap.get? (a : Int).toNat with
    | none =>
      show wpAny _ _ (pure true) _ _ _
      exact wpAny_pure (hQ true _ _ hz ⟨.inr ⟨a, rfl⟩, q, rfl⟩ (Heap.SameBut.refl _ _))
    | some o =>
      show wpAny _ _ (field (.ref z) 1 >>= _) _ _ _
      refine wpAny_bind (wpAny_field hz rfl (x := .bool q) rfl ?_)
      cases q with
      | true =>
        show wpAny _ _ (pure false) _ _ _
        exact wpAny_pure (hQ false _ _ hz ⟨.inr ⟨a, rfl⟩, true, rfl⟩ (Heap.SameBut.refl _ _))
      | false =>
        show wpAny _ _ (setField (.ref z) 1 (.bool true) >>= fun _ => pure false) _ _ _
        refine wpAny_bind (wpAny_setField_rec hz (by simp) fun h1 hz1 hs1 => ?_)
        exact wpAny_pure (hQ false h1 (.bool true) hz1 ⟨.inr ⟨a, rfl⟩, true, rfl⟩ hs1)
structure Apart (z TI TO i1 i2 : Addr) : Prop where
  a1 : TI ≠ z
  a2 : TO ≠ z
  a3 : i1 ≠ z
  a4 : i2 ≠ z
  a5 : TI ≠ TO
  a6 : TI ≠ i1
  a7 : TI ≠ i2
  a8 : TO ≠ i1
  a9 : TO ≠ i2
  b1 : i1 ≠ i2
/-- what a zip of two texts is -/
structure ZipS (h : Heap) (z TI TO i1 i2 : Addr) (x y : Str) (tx ty : Tok) (k : Nat) : Prop where
  z : ∃ f0 f1, ZipAt h z TI TO f0 f1 ∧ Own0 f0 f1
  ti : IsPair h TI (.ref i1) (.ref i2)
  to : ∃ a b, IsPair h TO a b
  h1 : h.IsStrIter i1 (strIterType x) x tx k
  h2 : h.IsStrIter i2 (strIterType y) y ty k
theorem ZipS.keep {h h' : Heap} {z TI TO i1 i2 : Addr} {x y : Str} {tx ty : Tok} {k : Nat} (Z : ZipS h z TI TO i1 i2 x y tx ty k) (e : ∀ b, b ∈ [z, TI, TO, i1, i2] → ∀ o, h.get? b = some o → h'.get? b = some o) : ZipS h' z TI TO i1 i2 x y tx ty k := by
  obtain ⟨⟨f0, f1, hz, own⟩, ti, ⟨a, b, to⟩, h1, h2⟩ := Z
  obtain ⟨o1, e1, r1⟩ := h1
  obtain ⟨o2, e2, r2⟩ := h2
  exact ⟨⟨f0, f1, e z (by simp) _ hz, own⟩, e TI (by simp) _ ti, ⟨a, b, e TO (by simp) _ to⟩, ⟨o1, e i1 (by simp) _ e1, r1⟩, ⟨o2, e i2 (by simp) _ e2, r2⟩⟩
theorem ext_str {h h' : Heap} {a b : Addr} {ty : String} {x : Str} {t : Tok} {i : Nat} (y : h.IsStrIter a ty x t i) (hs : Heap.SameBut b h h') (ne : a ≠ b) : h'.IsStrIter a ty x t i := y.extBut hs.extBut ne
/-- one turn of the zip -/
theorem zipS_item {z TI TO i1 i2 : Addr} {x y : Str} {tx ty : Tok} {k : Nat} {Q : Value → Shared → Prop} (hh : A.handled = none) (D : Apart z TI TO i1 i2) (Z : ZipS s.heap z TI TO i1 i2 x y tx ty k) (hx : k < x.cps.size) (hy : k < y.cps.size)
    (hQ : ∀ h' T tk u v, ZipS h' z TI TO i1 i2 x y tx ty (k + 1) → SgnAt x k u → SgnAt y k v → s.heap.objs.size ≤ T → IsPair h' T u v → (∀ c o, c ∉ [z, TO, i1, i2] → s.heap.get? c = some o → h'.get? c = some o) → Q (.ref T) { s with heap := h', toks := tk }) :
    wpAny (model prog w) A (Builtin.«zip.__next__» ⟨[.ref z], []⟩) (fun fin s' => ∃ v, fin = .done (.ret v) ∧ Q v s') E s := by
  obtain ⟨hp, g, d, tk0, os⟩ := s
  obtain ⟨⟨f0, f1, hz, own⟩, hTI, ⟨a, b, hTO⟩, h1, h2⟩ := Z
  show wpAny _ _ (field (.ref z) 2 >>= _) _ _ _
  refine wpAny_bind (wpAny_field hz rfl (x := .bool false) rfl ?_)
  show wpAny _ _ (field (.ref z) 3 >>= _) _ _ _
  refine wpAny_bind (wpAny_field hz rfl (x := .ref TI) rfl (wpAny_bind (wpAny_seqItems hTI rfl ?_)))
  show wpAny _ _ (Builtin.SmallTypes.ownedTupleIsFree (.ref z) >>= _) _ _ _
  refine wpAny_bind (own_free hz own fun r h1' g1 hz1 own1 sb1 => ?_)
  replace sb1 : Heap.SameBut z hp h1' := sb1
  have sz1 : h1'.objs.size = hp.objs.size := sb1.1
  have hTO1 : IsPair h1' TO a b := sb1.extBut _ _ D.a2 hTO
  have hTI1 : IsPair h1' TI (.ref i1) (.ref i2) := sb1.extBut _ _ D.a1 hTI
  have e1 := ext_str h1 sb1 D.a3
  have e2 := ext_str h2 sb1 D.a4
  cases r with
  | true =>
    simp only [if_true]
    refine wpAny_bind (wpAny_rule (wpAny_bind (wpAny_field hz1 rfl (x := .ref TO) rfl ?_)))
    refine wpAny_bind (wpAny_setField_rec hz1 (by simp) fun h3 hz3 sb3 => ?_)
    replace hz3 : ZipAt h3 z TI TO .ellipsis g1 := hz3
    replace sb3 : Heap.SameBut z h1' h3 := sb3
    refine wpAny_bind ?_
    simp only [List.zipIdx_cons, List.zipIdx_nil, List.forIn_cons, List.forIn_nil]
    refine wpAny_bind (wpAny_bind (wpAny_onRaise ?_))
    show wpAny _ _ (Builtin.SmallTypes.nextOf (.ref i1) >>= _) _ _ _
    refine wpAny_bind ((drawsStr hh i1 x tx).item k _ _ _ hx (ext_str e1 sb3 D.a3) fun u h4 tk4 hu st4 sb4 => wpAny_pure ?_)
    replace sb4 : Heap.SameBut i1 h3 h4 := sb4
    have hTO4 : IsPair h4 TO a b := sb4.extBut _ _ D.a8 (sb3.extBut _ _ D.a2 hTO1)
    refine wpAny_bind (wpAny_seqItems hTO4 rfl (wpAny_bind (wpAny_updateSeq_pair hTO4 fun h5 hTO5 sb5 => ?_)))
    replace hTO5 : IsPair h5 TO u b := hTO5
    replace sb5 : Heap.SameBut TO h4 h5 := sb5
    refine wpAny_bind (wpAny_letGo (wpAny_pure ?_))
    refine wpAny_bind (wpAny_bind (wpAny_onRaise ?_))
    show wpAny _ _ (Builtin.SmallTypes.nextOf (.ref i2) >>= _) _ _ _
    refine wpAny_bind ((drawsStr hh i2 y ty).item k _ _ _ hy (ext_str (ext_str (ext_str e2 sb3 D.a4) sb4 D.b1.symm) sb5 D.a9.symm) fun v h6 tk6 hv st6 sb6 => wpAny_pure ?_)
    replace sb6 : Heap.SameBut i2 h5 h6 := sb6
    have hTO6 : IsPair h6 TO u b := sb6.extBut _ _ D.a9 hTO5
    refine wpAny_bind (wpAny_seqItems hTO6 rfl (wpAny_bind (wpAny_updateSeq_pair hTO6 fun h7 hTO7 sb7 => ?_)))
    replace hTO7 : IsPair h7 TO u v := hTO7
    replace sb7 : Heap.SameBut TO h6 h7 := sb7
    refine wpAny_bind (wpAny_letGo (wpAny_pure (wpAny_pure ?_)))
    refine wpAny_bind (wpAny_seqItems hTO7 rfl (wpAny_bind (wpAny_newTuple ?_)))
    have sz7 : h7.objs.size = hp.objs.size := by rw [sb7.1, sb6.1, sb5.1, sb4.1, sb3.1, sz1]
    have hz7 : ZipAt h7 z TI TO .ellipsis g1 := sb7.extBut _ _ D.a2.symm (sb6.extBut _ _ D.a4.symm (sb5.extBut _ _ D.a2.symm (sb4.extBut _ _ D.a3.symm hz3)))
    show wpAny _ _ (Builtin.SmallTypes.ownedTupleHandOut (.ref z) (.ref h7.objs.size) >>= _) _ _ _
    refine wpAny_bind ?_
    unfold Builtin.SmallTypes.ownedTupleHandOut
    have hz8 : ZipAt (h7.push { cls := .type "tuple", data := .seq #[u, v] }) z TI TO .ellipsis g1 := Heap.get?_push_of_some _ hz7
    refine wpAny_bind (wpAny_setField_rec hz8 (by simp) fun h9 hz9 sb9 => ?_)
    replace hz9 : ZipAt h9 z TI TO (rawInt h7.objs.size) g1 := hz9
    refine wpAny_setField_rec hz9 (by simp) fun ha hza sba => ?_
    replace hza : ZipAt ha z TI TO (rawInt h7.objs.size) (.bool false) := hza
    have up : ∀ c o, c ≠ z → h7.get? c = some o → ha.get? c = some o := fun c o c1 e => sba.extBut _ _ c1 (sb9.extBut _ _ c1 (Heap.get?_push_of_some _ e))
    have zlt : z < h7.objs.size := Heap.lt_size hz7
    have hTa : IsPair ha h7.objs.size u v := sba.extBut _ _ (Nat.ne_of_gt zlt) (sb9.extBut _ _ (Nat.ne_of_gt zlt) (Heap.get?_push_size _ rfl))
    have far : ∀ c o, c ≠ z → c ≠ TO → c ≠ i1 → c ≠ i2 → hp.get? c = some o → h7.get? c = some o := fun c o c1 c2 c3 c4 e => sb7.extBut _ _ c2 (sb6.extBut _ _ c4 (sb5.extBut _ _ c2 (sb4.extBut _ _ c3 (sb3.extBut _ _ c1 (sb1.extBut _ _ c1 e)))))
    refine wpAny_pure ⟨_, rfl, hQ ha h7.objs.size tk6 u v ⟨⟨_, _, hza, .inr ⟨_, rfl⟩, false, rfl⟩, up _ _ D.a1 (far _ _ D.a1 D.a5 D.a6 D.a7 hTI), ⟨u, v, up _ _ D.a2 hTO7⟩, ?_, ?_⟩ hu hv (by rw [sz7]; exact Nat.le_refl _) hTa fun c o hc e => ?_⟩
    · obtain ⟨o, q, r⟩ := ext_str (ext_str (ext_str st4 sb5 D.a8.symm) sb6 D.b1) sb7 D.a8.symm
      exact ⟨o, up _ _ D.a3 q, r⟩
    · obtain ⟨o, q, r⟩ := ext_str st6 sb7 D.a9.symm
      exact ⟨o, up _ _ D.a4 q, r⟩
    · simp only [List.mem_cons, List.not_mem_nil, or_false, not_or] at hc
      exact up _ _ hc.1 (far c o hc.1 hc.2.1 hc.2.2.1 hc.2.2.2 e)
  | false =>
    simp only [Bool.false_eq_true, if_false]
    refine wpAny_bind ?_
    simp only [List.forIn_toArray, List.forIn_cons, List.forIn_nil]
    refine wpAny_bind (wpAny_bind (wpAny_holding ?_))
    show wpAny _ _ (Builtin.SmallTypes.nextOf (.ref i1) >>= _) _ _ _
    refine wpAny_bind ((drawsStr hh i1 x tx).item k _ _ _ hx e1 fun u h4 tk4 hu st4 sb4 => wpAny_pure ?_)
    replace sb4 : Heap.SameBut i1 h1' h4 := sb4
    refine wpAny_pure ?_
    refine wpAny_bind (wpAny_bind (wpAny_holding ?_))
    show wpAny _ _ (Builtin.SmallTypes.nextOf (.ref i2) >>= _) _ _ _
    refine wpAny_bind ((drawsStr hh i2 y ty).item k _ _ _ hy (ext_str e2 sb4 D.b1.symm) fun v h6 tk6 hv st6 sb6 => wpAny_pure ?_)
    replace sb6 : Heap.SameBut i2 h4 h6 := sb6
    refine wpAny_pure (wpAny_pure ?_)
    refine wpAny_bind (wpAny_newTuple ?_ (by show 2 ≤ sizeLine; exact sz2))
    have sz6 : h6.objs.size = hp.objs.size := by rw [sb6.1, sb4.1, sz1]
    have up : ∀ c o, h6.get? c = some o → (h6.push { cls := .type "tuple", data := .seq #[u, v] }).get? c = some o := fun c o e => Heap.get?_push_of_some _ e
    have far : ∀ c o, c ≠ i1 → c ≠ i2 → h1'.get? c = some o → h6.get? c = some o := fun c o c3 c4 e => sb6.extBut _ _ c4 (sb4.extBut _ _ c3 e)
    refine wpAny_pure ⟨_, rfl, hQ _ h6.objs.size tk6 u v ⟨⟨_, _, up _ _ (far _ _ D.a3.symm D.a4.symm hz1), own1⟩, up _ _ (far _ _ D.a6 D.a7 hTI1), ⟨a, b, up _ _ (far _ _ D.a8 D.a9 hTO1)⟩, ?_, ?_⟩ hu hv (by rw [sz6]; exact Nat.le_refl _) (Heap.get?_push_size _ rfl) fun c o hc e => ?_⟩
    · obtain ⟨o, q, r⟩ := ext_str st4 sb6 D.b1
      exact ⟨o, up _ _ q, r⟩
    · obtain ⟨o, q, r⟩ := st6
      exact ⟨o, up _ _ q, r⟩
    · simp only [List.mem_cons, List.not_mem_nil, or_false, not_or] at hc
      exact up _ _ (far c o hc.2.2.1 hc.2.2.2 (sb1.extBut _ _ hc.1 e))
/-- the end of the zip -/
theorem zipS_end {z TI TO i1 i2 : Addr} {x y : Str} {tx ty : Tok} {k : Nat} {Q : Fin → Shared → Prop} (hh : A.handled = none) (D : Apart z TI TO i1 i2) (Z : ZipS s.heap z TI TO i1 i2 x y tx ty k) (hend : k = x.cps.size ∨ (k < x.cps.size ∧ k = y.cps.size))
    (hE : ∀ h' e tk, (∀ c o, c ∉ [z, TO, i1, i2] → s.heap.get? c = some o → h'.get? c = some o) → (∃ o, h'.get? e = some o ∧ o.cls = .type "StopIteration") → E (.ref e) { s with heap := h', toks := tk }) :
    wpAny (model prog w) A (Builtin.«zip.__next__» ⟨[.ref z], []⟩) Q E s := by
  obtain ⟨hp, g, d, tk0, os⟩ := s
  obtain ⟨⟨f0, f1, hz, own⟩, hTI, ⟨a, b, hTO⟩, h1, h2⟩ := Z
  show wpAny _ _ (field (.ref z) 2 >>= _) _ _ _
  refine wpAny_bind (wpAny_field hz rfl (x := .bool false) rfl ?_)
  show wpAny _ _ (field (.ref z) 3 >>= _) _ _ _
  refine wpAny_bind (wpAny_field hz rfl (x := .ref TI) rfl (wpAny_bind (wpAny_seqItems hTI rfl ?_)))
  show wpAny _ _ (Builtin.SmallTypes.ownedTupleIsFree (.ref z) >>= _) _ _ _
  refine wpAny_bind (own_free hz own fun r h1' g1 hz1 own1 sb1 => ?_)
  replace sb1 : Heap.SameBut z hp h1' := sb1
  have hTO1 : IsPair h1' TO a b := sb1.extBut _ _ D.a2 hTO
  have e1 := ext_str h1 sb1 D.a3
  have e2 := ext_str h2 sb1 D.a4
  cases r with
  | true =>
    simp only [if_true]
    refine wpAny_bind (wpAny_rule (wpAny_bind (wpAny_field hz1 rfl (x := .ref TO) rfl ?_)))
    refine wpAny_bind (wpAny_setField_rec hz1 (by simp) fun h3 hz3 sb3 => ?_)
    replace hz3 : ZipAt h3 z TI TO .ellipsis g1 := hz3
    replace sb3 : Heap.SameBut z h1' h3 := sb3
    refine wpAny_bind ?_
    simp only [List.zipIdx_cons, List.zipIdx_nil, List.forIn_cons, List.forIn_nil]
    refine wpAny_bind (wpAny_bind (wpAny_onRaise ?_))
    show wpAny _ _ (Builtin.SmallTypes.nextOf (.ref i1) >>= _) _ _ _
    rcases hend with rfl | ⟨hx, rfl⟩
    · refine wpAny_bind ((drawsStr hh i1 x tx).done _ _ _ (ext_str e1 sb3 D.a3) fun h4 e sb4 he => ?_)
      obtain ⟨oe, hoe, hce⟩ := he
      replace sb4 : Heap.ExtBut i1 h3 h4 := sb4
      have hz4 : ZipAt h4 z TI TO .ellipsis g1 := sb4 _ _ D.a3.symm hz3
      have hez : e ≠ z := fun q => by subst q; rw [hz4] at hoe; cases hoe; simp at hce
      refine wpAny_setField_rec hz4 (by simp) fun h5 _ sb5 => hE h5 e tk0 (fun c o hc q => ?_) ⟨oe, sb5.extBut _ _ hez hoe, hce⟩
      simp only [List.mem_cons, List.not_mem_nil, or_false, not_or] at hc
      exact sb5.extBut _ _ hc.1 (sb4 _ _ hc.2.2.1 (sb3.extBut _ _ hc.1 (sb1.extBut _ _ hc.1 q)))
    · refine wpAny_bind ((drawsStr hh i1 x tx).item _ _ _ _ hx (ext_str e1 sb3 D.a3) fun u h4 tk4 hu st4 sb4 => wpAny_pure ?_)
      replace sb4 : Heap.SameBut i1 h3 h4 := sb4
      have hTO4 : IsPair h4 TO a b := sb4.extBut _ _ D.a8 (sb3.extBut _ _ D.a2 hTO1)
      refine wpAny_bind (wpAny_seqItems hTO4 rfl (wpAny_bind (wpAny_updateSeq_pair hTO4 fun h5 hTO5 sb5 => ?_)))
      replace sb5 : Heap.SameBut TO h4 h5 := sb5
      refine wpAny_bind (wpAny_letGo (wpAny_pure ?_))
      refine wpAny_bind (wpAny_bind (wpAny_onRaise ?_))
      show wpAny _ _ (Builtin.SmallTypes.nextOf (.ref i2) >>= _) _ _ _
      refine wpAny_bind ((drawsStr hh i2 y ty).done _ _ _ (ext_str (ext_str (ext_str e2 sb3 D.a4) sb4 D.b1.symm) sb5 D.a9.symm) fun h6 e sb6 he => ?_)
      obtain ⟨oe, hoe, hce⟩ := he
      replace sb6 : Heap.ExtBut i2 h5 h6 := sb6
      have hz6 : ZipAt h6 z TI TO .ellipsis g1 := sb6 _ _ D.a4.symm (sb5.extBut _ _ D.a2.symm (sb4.extBut _ _ D.a3.symm hz3))
      have hez : e ≠ z := fun q => by subst q; rw [hz6] at hoe; cases hoe; simp at hce
      refine wpAny_setField_rec hz6 (by simp) fun h7 _ sb7 => hE h7 e _ (fun c o hc q => ?_) ⟨oe, sb7.extBut _ _ hez hoe, hce⟩
      simp only [List.mem_cons, List.not_mem_nil, or_false, not_or] at hc
      exact sb7.extBut _ _ hc.1 (sb6 _ _ hc.2.2.2 (sb5.extBut _ _ hc.2.1 (sb4.extBut _ _ hc.2.2.1 (sb3.extBut _ _ hc.1 (sb1.extBut _ _ hc.1 q)))))
  | false =>
    simp only [Bool.false_eq_true, if_false]
    refine wpAny_bind ?_
    simp only [List.forIn_toArray, List.forIn_cons, List.forIn_nil]
    refine wpAny_bind (wpAny_bind (wpAny_holding ?_))
    show wpAny _ _ (Builtin.SmallTypes.nextOf (.ref i1) >>= _) _ _ _
    rcases hend with rfl | ⟨hx, rfl⟩
    · refine wpAny_bind ((drawsStr hh i1 x tx).done _ _ _ e1 fun h4 e sb4 he => hE h4 e tk0 (fun c o hc q => ?_) he)
      replace sb4 : Heap.ExtBut i1 h1' h4 := sb4
      simp only [List.mem_cons, List.not_mem_nil, or_false, not_or] at hc
      exact sb4 _ _ hc.2.2.1 (sb1.extBut _ _ hc.1 q)
    · refine wpAny_bind ((drawsStr hh i1 x tx).item _ _ _ _ hx e1 fun u h4 tk4 hu st4 sb4 => wpAny_pure ?_)
      replace sb4 : Heap.SameBut i1 h1' h4 := sb4
      refine wpAny_pure ?_
      refine wpAny_bind (wpAny_bind (wpAny_holding ?_))
      show wpAny _ _ (Builtin.SmallTypes.nextOf (.ref i2) >>= _) _ _ _
      refine wpAny_bind ((drawsStr hh i2 y ty).done _ _ _ (ext_str e2 sb4 D.b1.symm) fun h6 e sb6 he => hE h6 e _ (fun c o hc q => ?_) he)
      replace sb6 : Heap.ExtBut i2 h4 h6 := sb6
      simp only [List.mem_cons, List.not_mem_nil, or_false, not_or] at hc
      exact sb6 _ _ hc.2.2.2 (sb4.extBut _ _ hc.2.2.1 (sb1.extBut _ _ hc.1 q))
end
end Nm

set_option Elab.async false
set_option linter.all false
set_option maxRecDepth 100000
set_option maxHeartbeats 1000000
namespace Nm
open PySem PySem.Spec L2 PyProof.Rows
section
variable {prog : Program} {w : World} {A : Around} {E : Value → Shared → Prop} {s : Shared}
theorem nextZ_item {z TI TO i1 i2 : Addr} {x y : Str} {tx ty : Tok} {k : Nat} {Q : Value → Shared → Prop} (hh : A.handled = none) (D : Apart z TI TO i1 i2) (Z : ZipS s.heap z TI TO i1 i2 x y tx ty k) (hx : k < x.cps.size) (hy : k < y.cps.size)
    (hQ : ∀ h' T tk u v, ZipS h' z TI TO i1 i2 x y tx ty (k + 1) → SgnAt x k u → SgnAt y k v → s.heap.objs.size ≤ T → IsPair h' T u v → (∀ c o, c ∉ [z, TO, i1, i2] → s.heap.get? c = some o → h'.get? c = some o) → Q (.ref T) { s with heap := h', toks := tk }) :
    wpAny (model prog w) A (Builtin.SmallTypes.nextOf (.ref z)) Q E s := by
  have hT : s.TypeIs (.ref z) "zip" := by
    obtain ⟨f0, f1, hz, _⟩ := Z.z
    exact ⟨_, hz, rfl⟩
  unfold Builtin.SmallTypes.nextOf
  exact wpAny_bind (wpAny_callSpecial?_slot (name := Str.ofString "__next__") hT F.slot_zip_next (wpAny_call_entry F.slot_zip_next hT F.entry_zip_next (zipS_item (by simpa using hh) D Z hx hy fun h' T tk u v a1 a2 a3 a4 a5 a6 => wpAny_pure (hQ h' T tk u v a1 a2 a3 a4 a5 a6)) (F.args_zip_next_1 _)))
theorem nextZ_end {z TI TO i1 i2 : Addr} {x y : Str} {tx ty : Tok} {k : Nat} {Q : Value → Shared → Prop} (hh : A.handled = none) (D : Apart z TI TO i1 i2) (Z : ZipS s.heap z TI TO i1 i2 x y tx ty k) (hend : k = x.cps.size ∨ (k < x.cps.size ∧ k = y.cps.size))
    (hE : ∀ h' e tk, (∀ c o, c ∉ [z, TO, i1, i2] → s.heap.get? c = some o → h'.get? c = some o) → (∃ o, h'.get? e = some o ∧ o.cls = .type "StopIteration") → E (.ref e) { s with heap := h', toks := tk }) :
    wpAny (model prog w) A (Builtin.SmallTypes.nextOf (.ref z)) Q E s := by
  have hT : s.TypeIs (.ref z) "zip" := by
    obtain ⟨f0, f1, hz, _⟩ := Z.z
    exact ⟨_, hz, rfl⟩
  unfold Builtin.SmallTypes.nextOf
  exact wpAny_bind (wpAny_callSpecial?_slot (name := Str.ofString "__next__") hT F.slot_zip_next (wpAny_call_entry F.slot_zip_next hT F.entry_zip_next (zipS_end (by simpa using hh) D Z hend hE) (F.args_zip_next_1 _)))
theorem enumZ_item {e z TI TO i1 i2 : Addr} {x y : Str} {tx ty : Tok} {i : Nat} {old : Value} {Q : Option Value → Shared → Prop} (hh : A.handled = none) (D : Apart z TI TO i1 i2) (he : IsEnum s.heap e z i old) (Z : ZipS s.heap z TI TO i1 i2 x y tx ty i) (hef : e ∉ [z, TI, TO, i1, i2]) (hx : i < x.cps.size) (hy : i < y.cps.size)
    (hQ : ∀ h1 h' T R tk tk1 u v, SgnAt x i u → SgnAt y i v → s.heap.objs.size ≤ T → IsPair h1 T u v → (∀ c o, c ∉ [z, TO, i1, i2] → s.heap.get? c = some o → h1.get? c = some o) → R = h1.objs.size → (∀ c o, c ≠ e → h1.get? c = some o → h'.get? c = some o) →
      IsEnumOut h' e z ((i : Int) + 1) (.ref T) R → ZipS h' z TI TO i1 i2 x y tx ty (i + 1) → h'.get? R = some { cls := .type "tuple", data := .seq #[.int i tk1, .ref T] } → e < R → Q (some (.ref R)) { s with heap := h', toks := tk }) :
    wpAny (model prog w) A (pyNext (.ref e)) Q E s := by
  have hT : s.TypeIs (.ref e) "enumerate" := ⟨_, he, rfl⟩
  unfold pyNext
  refine wpAny_bind (wpAny_attempt (wpAny_callSpecial?_slot (name := Str.ofString "__next__") hT F.slot_enumerate_next (wpAny_call_entry F.slot_enumerate_next hT F.entry_enumerate_next ?_ (F.args_enumerate_next_1 _))))
  obtain ⟨hp, g, d, tk0, os⟩ := s
  have ne : ∀ c, c ∈ [z, TI, TO, i1, i2] → c ≠ e := fun c hc q => hef (q ▸ hc)
  have ne2 : e ∉ [z, TO, i1, i2] := fun q => hef (by
    simp only [List.mem_cons, List.not_mem_nil, or_false] at q ⊢
    rcases q with q | q | q | q
    · exact .inl q
    · exact .inr (.inr (.inl q))
    · exact .inr (.inr (.inr (.inl q)))
    · exact .inr (.inr (.inr (.inr q))))
  show wpAny _ _ (field (.ref e) 2 >>= _) _ _ _
  refine wpAny_bind (wpAny_field he rfl (x := .ref z) rfl ?_)
  refine wpAny_bind (nextZ_item (by simpa using hh) D Z hx hy fun h1 T tk u v Z1 hu hv hT1 hp1 far => ?_)
  have he1 : IsEnum h1 e z i old := far e _ ne2 he
  show wpAny _ _ (field (.ref e) 3 >>= _) _ _ ⟨h1, g, d, tk, os⟩
  refine wpAny_bind (wpAny_field he1 rfl (x := rawInt i) rfl ?_)
  show wpAny _ _ (field (.ref e) 4 >>= _) _ _ ⟨h1, g, d, tk, os⟩
  refine wpAny_bind (wpAny_field he1 rfl (x := .none) rfl ?_)
  show wpAny _ _ (mkInt i >>= _) _ _ ⟨h1, g, d, tk, os⟩
  refine wpAny_bind (wpAny_mkInt ?_)
  show wpAny _ _ (setField (.ref e) 3 (rawInt ((i : Int) + 1)) >>= _) _ _ ⟨h1, g, d, tk + 1, os⟩
  refine wpAny_bind (wpAny_setField_rec he1 (by simp) fun h2 he2 sb2 => ?_)
  replace sb2 : Heap.SameBut e h1 h2 := sb2
  replace he2 : IsEnum h2 e z ((i : Int) + 1) old := he2
  show wpAny _ _ (setField (.ref e) 4 .none >>= _) _ _ ⟨h2, g, d, tk + 1, os⟩
  refine wpAny_bind (wpAny_setField_rec he2 (by simp) fun h3 he3 sb3 => ?_)
  replace sb3 : Heap.SameBut e h2 h3 := sb3
  replace he3 : IsEnum h3 e z ((i : Int) + 1) old := he3
  show wpAny _ _ (newTuple [.int i tk, .ref T] >>= _) _ _ ⟨h3, g, d, tk + 1, os⟩
  refine wpAny_bind (wpAny_newTuple ?_)
  have he4 : IsEnum (h3.push { cls := .type "tuple", data := .seq #[.int i tk, .ref T] }) e z ((i : Int) + 1) old := Heap.get?_push_of_some _ he3
  have sz3 : h3.objs.size = h1.objs.size := by rw [sb3.1, sb2.1]
  have elt : e < h3.objs.size := Heap.lt_size he3
  show wpAny _ _ (Builtin.SmallTypes.ownedTupleIsFree (.ref e) >>= _) _ _ ⟨h3.push { cls := .type "tuple", data := .seq #[.int i tk, .ref T] }, g, d, tk + 1, os⟩
  refine wpAny_bind ?_
  unfold Builtin.SmallTypes.ownedTupleIsFree
  refine wpAny_bind (wpAny_field he4 rfl (x := .none) rfl (wpAny_pure ?_))
  simp only [if_true]
  refine wpAny_bind (wpAny_rule (wpAny_bind (wpAny_field he4 rfl (x := old) rfl ?_)))
  refine wpAny_bind (wpAny_setField_rec he4 (by simp) fun h5 he5 sb5 => ?_)
  replace sb5 : Heap.SameBut e _ h5 := sb5
  replace he5 : IsEnum h5 e z ((i : Int) + 1) (.ref T) := he5
  show wpAny _ _ (Builtin.SmallTypes.ownedTupleHandOut (.ref e) (.ref h3.objs.size) >>= _) _ _ ⟨h5, g, d, tk + 1, os⟩
  refine wpAny_bind ?_
  unfold Builtin.SmallTypes.ownedTupleHandOut
  refine wpAny_bind (wpAny_setField_rec he5 (by simp) fun h6 he6 sb6 => ?_)
  replace sb6 : Heap.SameBut e h5 h6 := sb6
  replace he6 : IsEnumOut h6 e z ((i : Int) + 1) (.ref T) h3.objs.size := he6
  refine wpAny_setField_rec he6 (by simp) fun h7 he7 sb7 => ?_
  replace sb7 : Heap.SameBut e h6 h7 := sb7
  replace he7 : IsEnumOut h7 e z ((i : Int) + 1) (.ref T) h3.objs.size := he7
  have up : ∀ c o, c ≠ e → (h3.push { cls := .type "tuple", data := .seq #[.int i tk, .ref T] }).get? c = some o → h7.get? c = some o := fun c o hc q => sb7.extBut _ _ hc (sb6.extBut _ _ hc (sb5.extBut _ _ hc q))
  have up1 : ∀ c o, c ≠ e → h1.get? c = some o → h7.get? c = some o := fun c o hc q => up c o hc (Heap.get?_push_of_some _ (sb3.extBut _ _ hc (sb2.extBut _ _ hc q)))
  refine wpAny_bind (wpAny_letGo (wpAny_pure ⟨_, rfl, wpAny_pure (hQ h1 h7 T h3.objs.size (tk + 1) tk u v hu hv hT1 hp1 far sz3 up1 he7 (Z1.keep fun b hb o q => up1 b o (ne b hb) q) (up _ _ (Nat.ne_of_gt elt) (Heap.get?_push_size _ rfl)) elt)⟩))
theorem enumZ_end {e z TI TO i1 i2 : Addr} {x y : Str} {tx ty : Tok} {i : Nat} {old : Value} {Q : Option Value → Shared → Prop} (hh : A.handled = none) (D : Apart z TI TO i1 i2) (he : IsEnum s.heap e z i old) (Z : ZipS s.heap z TI TO i1 i2 x y tx ty i) (hend : i = x.cps.size ∨ (i < x.cps.size ∧ i = y.cps.size))
    (hQ : ∀ h' tk, (∀ c o, c ∉ [z, TO, i1, i2] → s.heap.get? c = some o → h'.get? c = some o) → Q none { s with heap := h', toks := tk }) : wpAny (model prog w) A (pyNext (.ref e)) Q E s := by
  have hT : s.TypeIs (.ref e) "enumerate" := ⟨_, he, rfl⟩
  unfold pyNext
  refine wpAny_bind (wpAny_attempt (wpAny_callSpecial?_slot (name := Str.ofString "__next__") hT F.slot_enumerate_next (wpAny_call_entry F.slot_enumerate_next hT F.entry_enumerate_next ?_ (F.args_enumerate_next_1 _))))
  show wpAny _ _ (field (.ref e) 2 >>= _) _ _ _
  refine wpAny_bind (wpAny_field he rfl (x := .ref z) rfl ?_)
  refine wpAny_bind (nextZ_end (by simpa using hh) D Z hend fun h' ex tk far hx => ?_)
  obtain ⟨o, ho, hc⟩ := hx
  refine wpAny_bind (wpAny_isInstance (T := "StopIteration") (b := true) ⟨o, ho, hc⟩ isSubtype_stop ?_)
  exact wpAny_pure (hQ _ _ far)
end
end Nm

set_option Elab.async false
set_option linter.all false
set_option maxRecDepth 100000
set_option maxHeartbeats 2000000
namespace Nm
open PySem PySem.Spec L2 PyProof.Rows
abbrev sIt (x : Str) (t : Tok) : Obj := { cls := .type (strIterType x), data := .fields #[.str x t, .int 0 0] }
abbrev zh2 (h : Heap) (x y : Str) (t u : Tok) : Heap := (h.push (sIt x t)).push (sIt y u)
abbrev zh3 (h : Heap) (x y : Str) (t u : Tok) : Heap := (zh2 h x y t u).push { cls := .type "tuple", data := .seq #[.ref h.objs.size, .ref (h.push (sIt x t)).objs.size] }
abbrev zh4 (h : Heap) (x y : Str) (t u : Tok) : Heap := (zh3 h x y t u).push { cls := .type "tuple", data := .seq #[.none, .none] }
abbrev zh5 (h : Heap) (x y : Str) (t u : Tok) : Heap := (zh4 h x y t u).push { cls := .type "zip", data := .fields #[.none, .bool false, .bool false, .ref (zh2 h x y t u).objs.size, .ref (zh3 h x y t u).objs.size] }
theorem meets_zipS (x y : Str) (t u : Tok) : Meets (Builtin.«zip.__new__» ⟨[.type "zip", .str x t, .str y u], []⟩) (fun _ R s => R (.ok (.ret (.ref (zh4 s.heap x y t u).objs.size))) { s with heap := zh5 s.heap x y t u }) :=
  .of_wp fun prog w A R s h => by
    obtain ⟨hp, g, d, tk, os⟩ := s
    have hsub := sub_zip
    wp_walk using wpAny_pyIter_strU, wpAny_pyIter_strU
    exact ⟨_, rfl, h⟩
theorem meets_enumZ (z : Addr) (TI TO : Addr) : Meets (Builtin.«enumerate.__new__» ⟨[.type "enumerate", .ref z], []⟩) (fun _ R s => IsZip s.heap z TI TO .none ∧ R (.ok (.ret (.ref s.heap.objs.size))) { s with heap := s.heap.push { cls := .type "enumerate", data := .fields #[.none, .bool false, .ref z, rawInt 0, .none, .none] } }) :=
  .of_wp fun prog w A R s h => by
    obtain ⟨hp, g, d, tk, os⟩ := s
    obtain ⟨hz, h⟩ := h
    have hz' : IsZip (Shared.heap ⟨hp, g, d, tk, os⟩) z TI TO .none := hz
    have hsub := sub_enumerate
    wp_walk
    refine wpAny_stack_any fun st => wpAny_pure ?_
    split
    · rename_i c _ _ _ _ _
      cases (c == Value.type "enumerate")
      · wp_walk using wpAny_pyIter_zip hz'
        exact ⟨_, rfl, h⟩
      · wp_walk using wpAny_pyIter_zip hz'
        exact ⟨_, rfl, h⟩
    · wp_walk using wpAny_pyIter_zip hz'
      exact ⟨_, rfl, h⟩
section
variable {prog : Program} {w : World} {A : Around} {E : Value → Shared → Prop} {s : Shared}
theorem run_zipS {x y : Str} {t u : Tok} {Q : Value → Shared → Prop}
    (h : ∀ h', IsZip h' (s.heap.objs.size + 4) (s.heap.objs.size + 2) (s.heap.objs.size + 3) .none → ZipS h' (s.heap.objs.size + 4) (s.heap.objs.size + 2) (s.heap.objs.size + 3) s.heap.objs.size (s.heap.objs.size + 1) x y t u 0 → h'.objs.size = s.heap.objs.size + 5 →
      (∀ c o, s.heap.get? c = some o → h'.get? c = some o) → Q (.ref (s.heap.objs.size + 4)) { s with heap := h' }) :
    wpAny (model prog w) A (call (.type "zip") [.str x t, .str y u]) Q E s := by
  refine callType_new F.called_zip (by decide) (F.typeCall_zip_2 _ _) (F.newCall_zip_2 _ _) (fun obj => F.args_object_init_3 obj _ _) F.entry_zip_new (meets_zipS x y t u) ?_
  have z1 : (s.heap.push (sIt x t)).objs.size = s.heap.objs.size + 1 := Heap.size_push ..
  have z2 : (zh2 s.heap x y t u).objs.size = s.heap.objs.size + 2 := by rw [Heap.size_push, z1]
  have z3 : (zh3 s.heap x y t u).objs.size = s.heap.objs.size + 3 := by rw [Heap.size_push, z2]
  have z4 : (zh4 s.heap x y t u).objs.size = s.heap.objs.size + 4 := by rw [Heap.size_push, z3]
  have z5 : (zh5 s.heap x y t u).objs.size = s.heap.objs.size + 5 := by rw [Heap.size_push, z4]
  have p5 : (zh5 s.heap x y t u).get? (zh4 s.heap x y t u).objs.size = some _ := Heap.get?_push_size _ rfl
  have p4 : (zh5 s.heap x y t u).get? (zh3 s.heap x y t u).objs.size = some _ := Heap.get?_push_of_some _ (Heap.get?_push_size _ rfl)
  have p3 : (zh5 s.heap x y t u).get? (zh2 s.heap x y t u).objs.size = some _ := Heap.get?_push_of_some _ (Heap.get?_push_of_some _ (Heap.get?_push_size _ rfl))
  have p2 : (zh5 s.heap x y t u).get? (s.heap.push (sIt x t)).objs.size = some _ := Heap.get?_push_of_some _ (Heap.get?_push_of_some _ (Heap.get?_push_of_some _ (Heap.get?_push_size _ rfl)))
  have p1 : (zh5 s.heap x y t u).get? s.heap.objs.size = some _ := Heap.get?_push_of_some _ (Heap.get?_push_of_some _ (Heap.get?_push_of_some _ (Heap.get?_push_of_some _ (Heap.get?_push_size _ rfl))))
  show _ ∧ _
  rw [z2, z3, z4] at p5
  rw [z1, z2] at p3
  rw [z3] at p4
  rw [z1] at p2
  rw [z4]
  exact ⟨⟨_, p5, rfl⟩, h _ p5 ⟨⟨_, _, p5, .inl rfl, false, rfl⟩, p3, ⟨_, _, p4⟩, ⟨_, p1, rfl, rfl⟩, ⟨_, p2, rfl, rfl⟩⟩ z5 fun c o q => Heap.get?_push_of_some _ (Heap.get?_push_of_some _ (Heap.get?_push_of_some _ (Heap.get?_push_of_some _ (Heap.get?_push_of_some _ q))))⟩
theorem run_enumZ {z TI TO : Addr} {Q : Value → Shared → Prop} (hz : IsZip s.heap z TI TO .none)
    (h : ∀ h', IsEnum h' s.heap.objs.size z 0 .none → h'.objs.size = s.heap.objs.size + 1 → (∀ b o, s.heap.get? b = some o → h'.get? b = some o) → Q (.ref s.heap.objs.size) { s with heap := h' }) :
    wpAny (model prog w) A (call (.type "enumerate") [.ref z]) Q E s := by
  refine callType_new F.called_enumerate (by decide) (F.typeCall_enumerate_1 _) (F.newCall_enumerate_1 _) (fun obj => F.args_object_init_2 obj _) F.entry_enumerate_new (meets_enumZ z TI TO) ⟨hz, ?_⟩
  have he : IsEnum (s.heap.push { cls := .type "enumerate", data := .fields #[.none, .bool false, .ref z, rawInt 0, .none, .none] }) s.heap.objs.size z 0 .none := Heap.get?_push_size _ rfl
  exact ⟨⟨_, he, rfl⟩, h _ he (Heap.size_push ..) fun b o q => Heap.get?_push_of_some _ q⟩
end
end Nm

set_option Elab.async false
set_option linter.all false
set_option maxRecDepth 100000
set_option maxHeartbeats 1000000
namespace Nm
open PySem PySem.Spec L2 PyProof.Rows
/-! ### enumerate(zip(text, text)) -/
def ItEZ (x y : Str) : It :=
  ⟨fun i _ => i < x.cps.size ∧ i < y.cps.size, fun i H v H' => ∃ T R c d, v = .ref R ∧ H T = none ∧ H R = none ∧ R ≠ T ∧ x.cps[i]? = some c ∧ y.cps[i]? = some d ∧ H' = upd (upd H T (.tup [.str ⟨#[c]⟩, .str ⟨#[d]⟩])) R (.tup [.int (i : Nat), .ref T]),
    fun i _ => i = x.cps.size ∨ (i < x.cps.size ∧ i = y.cps.size)⟩
theorem fp_none {X : Cx} {pins : List (Addr × Obj)} {H : Hp} {b T : Addr} {o : HO} (h : FpOk X pins H b) (ne : b ≠ T) : FpOk X pins (upd H T o) b := ⟨by rw [upd_ne ne]; exact h.1, h.2⟩
theorem turn_enumZ {P : Program} {w : World} {K : PySem.W.Frag} {elts : List Expr} {kk : Nat} {tpos : Pos} {e z TI TO i1 i2 : Addr} {x y : Str} {tx ty : Tok} (D : Apart z TI TO i1 i2) (hef : e ∉ [z, TI, TO, i1, i2]) :
    Turn P w K (.Tuple elts kk tpos) (ItEZ x y) [e, z, TI, TO, i1, i2] e (fun i h => (∃ old, IsEnum h e z ((i : Nat) : Int) old) ∧ ZipS h z TI TO i1 i2 x y tx ty i) where
  mem := by simp
  obj := fun i h st b hb => by
    obtain ⟨⟨old, he⟩, ⟨⟨f0, f1, hz, _⟩, ti, ⟨a, c, to⟩, ⟨o1, e1, _, d1⟩, ⟨o2, e2, _, d2⟩⟩⟩ := st
    simp only [List.mem_cons, List.not_mem_nil, or_false] at hb
    rcases hb with rfl | rfl | rfl | rfl | rfl | rfl
    · exact ⟨_, he, fun v q => nomatch q⟩
    · exact ⟨_, hz, fun v q => nomatch q⟩
    · exact ⟨_, ti, fun v q => nomatch q⟩
    · exact ⟨_, to, fun v q => nomatch q⟩
    · exact ⟨_, e1, fun v q => by rw [d1] at q; cases q⟩
    · exact ⟨_, e2, fun v q => by rw [d2] at q; cases q⟩
  keep := fun i h h' st k => by
    obtain ⟨⟨old, he⟩, Z⟩ := st
    exact ⟨⟨old, k e (by simp) _ he⟩, Z.keep fun b hb o q => k b (List.mem_cons_of_mem _ hb) o q⟩
  item := by
    intro X hP hw hK hc i pins s σ H E I hf st hg
    subst hP hw hK
    obtain ⟨⟨old, he⟩, Z⟩ := st
    have sub : ∀ b, b ∈ [z, TO, i1, i2] → b ∈ [e, z, TI, TO, i1, i2] := fun b hb => by
      simp only [List.mem_cons, List.not_mem_nil, or_false] at hb ⊢
      rcases hb with q | q | q | q <;> simp [q]
    have lt : ∀ b, b ∈ [e, z, TI, TO, i1, i2] → b < s.heap.objs.size := fun b hb => by
      obtain ⟨⟨f0, f1, hz, _⟩, ti, ⟨a, c, to⟩, ⟨o1, e1, _⟩, ⟨o2, e2, _⟩⟩ := Z
      simp only [List.mem_cons, List.not_mem_nil, or_false] at hb
      rcases hb with rfl | rfl | rfl | rfl | rfl | rfl
      · exact Heap.lt_size he
      · exact Heap.lt_size hz
      · exact Heap.lt_size ti
      · exact Heap.lt_size to
      · exact Heap.lt_size e1
      · exact Heap.lt_size e2
    refine enumZ_item (I.ok.hd hc) D he Z hef hg.1 hg.2 fun h1 h2 T R tk tk1 u v hu hv hT hp1 far hR up he2 Z2 hR2 elt => ?_
    obtain ⟨c, t1, hcx, rfl⟩ := hu
    obtain ⟨d, t2, hdy, rfl⟩ := hv
    refine ⟨_, rfl, wpAny_letOwnedTupleGo_enum (s := { s with heap := h2, toks := tk }) he2 fun h3 he3 sb => ?_⟩
    have eT : e ≠ T := Nat.ne_of_lt (Nat.lt_of_lt_of_le (lt e (by simp)) hT)
    have Tlt : T < h1.objs.size := Heap.lt_size hp1
    have new1 : ObjOk X.prog X.w (upd H T (.tup [.str ⟨#[c]⟩, .str ⟨#[d]⟩])) h1 T (.tup [.str ⟨#[c]⟩, .str ⟨#[d]⟩]) := ⟨sz2, [.str ⟨#[c]⟩ t1, .str ⟨#[d]⟩ t2], .cons ⟨_, rfl⟩ (.cons ⟨_, rfl⟩ .nil), ⟨_, hp1, rfl, _, rfl⟩⟩
    have I1 : L2.Inv X pins σ (upd H T (.tup [.str ⟨#[c]⟩, .str ⟨#[d]⟩])) { s with heap := h1, toks := tk } := I.turnedNew (ch := [z, TO, i1, i2]) far (fun b hb => hf b (sub b hb)) hT new1
    have hR3 : h3.get? R = some { cls := .type "tuple", data := .seq #[.int i tk1, .ref T] } := sb.extBut _ _ (Nat.ne_of_gt elt) hR2
    have new2 : ObjOk X.prog X.w (upd (upd H T (.tup [.str ⟨#[c]⟩, .str ⟨#[d]⟩])) R (.tup [.int (i : Nat), .ref T])) h3 R (.tup [.int (i : Nat), .ref T]) := ⟨sz2, [.int i tk1, .ref T], .cons ⟨_, rfl⟩ (.cons rfl .nil), ⟨_, hR3, rfl, _, rfl⟩⟩
    have I2 : L2.Inv X pins σ (upd (upd H T (.tup [.str ⟨#[c]⟩, .str ⟨#[d]⟩])) R (.tup [.int (i : Nat), .ref T])) { s with heap := h3, toks := tk } :=
      I1.turnedNew (ch := [e]) (fun b o hb q => sb.extBut _ _ (by simpa using hb) (up b o (by simpa using hb) q)) (fun b hb => by
        have eb : b = e := by simpa using hb
        subst eb
        exact fp_none (hf b (by simp)) eT) (by rw [hR]; exact Nat.le_refl _) new2
    have ne : R ≠ T := by rw [hR]; exact Nat.ne_of_gt Tlt
    have hHT : H T = none := I.hok.fresh hT
    have hHR : H R = none := by
      have := I1.hok.fresh (a := R) (by rw [hR]; exact Nat.le_refl _)
      rw [upd_ne ne] at this
      exact this
    refine ⟨.ref R, _, I2, rfl, ⟨T, R, c, d, rfl, hHT, hHR, ne, hcx, hdy, rfl⟩, ⟨⟨.ref T, ?_⟩, Z2.keep fun b hb o q => sb.extBut _ _ (fun z => hef (z ▸ hb)) q⟩, fun b hb => ?_⟩
    · have e1 : ((i + 1 : Nat) : Int) = (i : Int) + 1 := by omega
      rw [e1]; exact he3
    · have l1 := lt b hb
      have b1 : b ≠ T := Nat.ne_of_lt (Nat.lt_of_lt_of_le l1 hT)
      have b2 : b ≠ R := by rw [hR]; exact Nat.ne_of_lt (Nat.lt_of_lt_of_le l1 (Nat.le_trans hT (Nat.le_of_lt Tlt)))
      rw [upd_ne b2, upd_ne b1]
      exact (hf b hb).1
  done := by
    intro X hP hw hK hc i pins s σ H E I hf st hg
    subst hP hw hK
    obtain ⟨⟨old, he⟩, Z⟩ := st
    have sub : ∀ b, b ∈ [z, TO, i1, i2] → b ∈ [e, z, TI, TO, i1, i2] := fun b hb => by
      simp only [List.mem_cons, List.not_mem_nil, or_false] at hb ⊢
      rcases hb with q | q | q | q <;> simp [q]
    exact enumZ_end (I.ok.hd hc) D he Z hg fun h' tk far => ⟨rfl, I.turnedL (t' := tk) (ch := [z, TO, i1, i2]) far (fun b hb => hf b (sub b hb))⟩
  self := fun A i s Q E st h => let ⟨⟨_, he⟩, _⟩ := st; wpAny_pyIter_enum he h
def iEnumZ (ta : TA) : TI := fun σ H R => ta σ H fun vs H1 => ∃ x y, vs = [.str x, .str y] ∧ R (ItEZ x y) H1
theorem pi_enumZ {X : Cx} {a b : Expr} {ta : TA} {p p2 q pos tpos : Pos} {elts : List Expr} {kk : Nat} (hg : Gl X "enumerate") (hm : X.mg "enumerate" = none) (hg2 : Gl X "zip") (hm2 : X.mg "zip" = none) (ha : PA X [a, b] ta)
    (hs : starEach [a, b] X.env = (false, eval a X.env) :: starEach [b] X.env := by rfl) (hpl : (backTo q (starEach [b] X.env)).any (·.1) = false := by rfl)
    (na : starEach [Expr.Call (.Name "zip" p2) [a, b] [] q] X.env = (false, eval (Expr.Call (.Name "zip" p2) [a, b] [] q) X.env) :: starEach [] X.env := by rfl) :
    PI X (.Tuple elts kk tpos) (.Call (.Name "enumerate" p) [.Call (.Name "zip" p2) [a, b] [] q] [] pos) (iEnumZ ta) := by
  refine ⟨fun pins s σ H R I h => ?_⟩
  refine Call_ (ld_blt I hg hm boot_enumerate (callWith_type1 (args_cons ?_ na) na rfl))
  refine Call_ (ld_blt I hg2 hm2 boot_zip (callWith_type1 (thn (ha.run q pins s σ H _ I h) fun us s1 ⟨vs, H1, I1, r1, q1⟩ => ?_) hs hpl))
  obtain ⟨x, y, ex, qq⟩ := q1
  subst ex
  cases r1 with
  | cons r rr =>
    cases rr with
    | cons r' rr =>
      cases rr
      obtain ⟨tx, rfl⟩ := r
      obtain ⟨ty, rfl⟩ := r'
      refine run_zipS fun h' hz Z hsz hk => args_nil (run_enumZ hz fun h2 he hsz2 hk2 => wpAny_pyIter_enum he ?_)
      have I2 : L2.Inv X pins σ H1 { s1 with heap := h2 } := I1.kept (t' := s1.toks) fun b o e => hk2 b o (hk b o e)
      have n : ∀ i j : Nat, i ≠ j → s1.heap.objs.size + i ≠ s1.heap.objs.size + j := fun i j h z => h (Nat.add_left_cancel z)
      have esz : Shared.heap { s1 with heap := h' } = h' := rfl
      rw [esz, hsz] at he
      refine ⟨h'.objs.size, [h'.objs.size, s1.heap.objs.size + 4, s1.heap.objs.size + 2, s1.heap.objs.size + 3, s1.heap.objs.size, s1.heap.objs.size + 1], _, _, H1, rfl, I2, turn_enumZ ⟨n 2 4 (by decide), n 3 4 (by decide), n 0 4 (by decide), n 1 4 (by decide), n 2 3 (by decide), n 2 0 (by decide), n 2 1 (by decide), n 3 0 (by decide), n 3 1 (by decide), n 0 1 (by decide)⟩ ?_, ⟨⟨.none, by rw [hsz]; exact he⟩, Z.keep fun b hb o e => hk2 b o e⟩, fun c hcm => ?_, qq⟩
      · rw [hsz]
        simp only [List.mem_cons, List.not_mem_nil, or_false, not_or]
        exact ⟨n 5 4 (by decide), n 5 2 (by decide), n 5 3 (by decide), n 5 0 (by decide), n 5 1 (by decide)⟩
      · have hle : s1.heap.objs.size ≤ c := by
          simp only [List.mem_cons, List.not_mem_nil, or_false] at hcm
          rcases hcm with z | z | z | z | z | z
          · rw [z, hsz]; exact Nat.le_add_right _ _
          · rw [z]; exact Nat.le_add_right _ _
          · rw [z]; exact Nat.le_add_right _ _
          · rw [z]; exact Nat.le_add_right _ _
          · rw [z]; exact Nat.le_refl _
          · rw [z]; exact Nat.le_add_right _ _
        exact I1.fpOk hle (I1.hok.fresh hle)
/-! ### enumerate(text) -/
def ItES (x : Str) : It :=
  ⟨fun i _ => i < x.cps.size, fun i H v H' => ∃ T c, v = .ref T ∧ H T = none ∧ x.cps[i]? = some c ∧ H' = upd H T (.tup [.int (i : Nat), .str ⟨#[c]⟩]), fun i _ => i = x.cps.size⟩
theorem turn_enumS {P : Program} {w : World} {K : PySem.W.Frag} {elts : List Expr} {kk : Nat} {tpos : Pos} {e it : Addr} {x : Str} {tx : Tok} (hne : e ≠ it) :
    Turn P w K (.Tuple elts kk tpos) (ItES x) [e, it] e (fun i h => (∃ old, IsEnum h e it ((i : Nat) : Int) old) ∧ h.IsStrIter it (strIterType x) x tx i) where
  mem := by simp
  obj := fun i h st b hb => by
    obtain ⟨⟨old, he⟩, ⟨o, ho, _, d⟩⟩ := st
    simp only [List.mem_cons, List.not_mem_nil, or_false] at hb
    rcases hb with rfl | rfl
    · exact ⟨_, he, fun v q => nomatch q⟩
    · exact ⟨_, ho, fun v q => by rw [d] at q; cases q⟩
  keep := fun i h h' st k => by
    obtain ⟨⟨old, he⟩, ⟨o, ho, r⟩⟩ := st
    exact ⟨⟨old, k e (by simp) _ he⟩, ⟨o, k it (by simp) _ ho, r⟩⟩
  item := by
    intro X hP hw hK hc i pins s σ H E I hf st hg
    subst hP hw hK
    obtain ⟨⟨old, he⟩, hit⟩ := st
    have el : e < s.heap.objs.size := Heap.lt_size he
    have il : it < s.heap.objs.size := by obtain ⟨_, q, _⟩ := hit; exact Heap.lt_size q
    refine wpAny_pyNext_enum_itemD (drawsStr (A := X.A.in1) (by simpa using I.ok.hd hc) it x tx) he hit hg hne (by simpa using hne) fun v h1 tk hv ho hit' hT hsz hk => ?_
    obtain ⟨c, t1, hcx, rfl⟩ := hv
    refine ⟨_, rfl, wpAny_letOwnedTupleGo_enum (s := { s with heap := h1, toks := tk + 1 }) ho fun h2 he' sb => ?_⟩
    have hT2 : h2.get? s.heap.objs.size = some { cls := .type "tuple", data := .seq #[.int i tk, .str ⟨#[c]⟩ t1] } := sb.extBut _ _ (Nat.ne_of_gt el) hT
    have new : ObjOk X.prog X.w (upd H s.heap.objs.size (.tup [.int (i : Nat), .str ⟨#[c]⟩])) h2 s.heap.objs.size (.tup [.int (i : Nat), .str ⟨#[c]⟩]) := ⟨sz2, [.int i tk, .str ⟨#[c]⟩ t1], .cons ⟨_, rfl⟩ (.cons ⟨_, rfl⟩ .nil), ⟨_, hT2, rfl, _, rfl⟩⟩
    have I1 : L2.Inv X pins σ (upd H s.heap.objs.size (.tup [.int (i : Nat), .str ⟨#[c]⟩])) { s with heap := h2, toks := tk + 1 } :=
      I.turnedNew (ch := [e, it]) (fun b o hb q => sb.extBut _ _ (fun z => hb (by simp [z])) (hk b o (fun z => hb (by simp [z])) (fun z => hb (by simp [z])) q)) hf (Nat.le_refl _) new
    refine ⟨.ref s.heap.objs.size, _, I1, rfl, ⟨_, c, rfl, I.hok.fresh (Nat.le_refl _), hcx, rfl⟩, ⟨⟨.str ⟨#[c]⟩ t1, ?_⟩, ext_str hit' sb (Ne.symm hne)⟩, fun b hb => ?_⟩
    · have e1 : ((i + 1 : Nat) : Int) = (i : Int) + 1 := by omega
      rw [e1]; exact he'
    · have lb : b < s.heap.objs.size := by
        simp only [List.mem_cons, List.not_mem_nil, or_false] at hb
        rcases hb with z | z
        · rw [z]; exact el
        · rw [z]; exact il
      rw [upd_ne (Nat.ne_of_lt lb)]
      exact (hf b hb).1
  done := by
    intro X hP hw hK hc i pins s σ H E I hf st hg
    subst hP hw hK
    obtain ⟨⟨old, he⟩, hit⟩ := st
    have hg : i = x.cps.size := hg
    subst hg
    obtain ⟨f0, f1, f2, f3, f4, f5⟩ := hf it (by simp)
    exact wpAny_pyNext_enum_endD (drawsStr (A := X.A.in1) (by simpa using I.ok.hd hc) it x tx) he hit fun h' eb => ⟨rfl, I.turned (t' := s.toks) (fun b o hb q => eb b o hb q) f0 f1 f3 f4 f5⟩
  self := fun A i s Q E st h => let ⟨⟨_, he⟩, _⟩ := st; wpAny_pyIter_enum he h
def iEnumS (ta : TA) : TI := fun σ H R => ta σ H fun vs H1 => ∃ x, vs = [.str x] ∧ R (ItES x) H1
theorem pi_enumS {X : Cx} {e : Expr} {ta : TA} {p pos tpos : Pos} {elts : List Expr} {kk : Nat} (hg : Gl X "enumerate") (hm : X.mg "enumerate" = none) (ha : PA X [e] ta) (hs : starEach [e] X.env = [(false, eval e X.env)] := by rfl) :
    PI X (.Tuple elts kk tpos) (.Call (.Name "enumerate" p) [e] [] pos) (iEnumS ta) := by
  refine ⟨fun pins s σ H R I h => ?_⟩
  refine Call_ (ld_blt I hg hm boot_enumerate (callWith_type1 (thn (ha.run pos pins s σ H _ I h) fun us s1 ⟨vs, H1, I1, r1, q1⟩ => ?_) hs rfl))
  obtain ⟨x, ex, q⟩ := q1
  subst ex
  cases r1 with
  | cons r rr =>
    cases rr
    obtain ⟨tx, rfl⟩ := r
    refine call_enumerate_str fun h' he hit hsz hk => wpAny_pyIter_enum he ?_
    have I2 : L2.Inv X pins σ H1 { s1 with heap := h' } := I1.kept (t' := s1.toks) hk
    refine ⟨s1.heap.objs.size + 1, [s1.heap.objs.size + 1, s1.heap.objs.size], _, _, H1, rfl, I2, turn_enumS (Nat.succ_ne_self _), ⟨⟨.none, he⟩, hit⟩, fun b hb => ?_, q⟩
    have hle : s1.heap.objs.size ≤ b := by
      simp only [List.mem_cons, List.not_mem_nil, or_false] at hb
      rcases hb with z | z
      · rw [z]; exact Nat.le_add_right _ _
      · rw [z]; exact Nat.le_refl _
    exact I1.fpOk hle (I1.hok.fresh hle)
/-! ### by data -/
theorem DenK.getV {K : PySem.W.Frag} {F : Hp} : ∀ {kvs : List (Key × V)} {es : List (Key × D)} {i : Nat} {k : Key} {v : V}, DenK K F kvs es → kvs[i]? = some (k, v) → ∃ d, es[i]? = some (k, d) ∧ Den K F v d
  | _, _, _, _, _, .nil, e => by simp at e
  | _, _, 0, _, _, .cons h _, e => by simp at e; obtain ⟨rfl, rfl⟩ := e; exact ⟨_, rfl, h⟩
  | _, _, i + 1, _, _, .cons _ t, e => by
    obtain ⟨d, h1, h2⟩ := DenK.getV (i := i) t (by simpa using e)
    exact ⟨d, by simpa using h1, h2⟩
section
variable {K : PySem.W.Frag} {F H : Hp} {σ : L2.St} {ta : TA} {te : TE}
/-- (0, c), (1, d), .. -/
def enumD (l : List D) : List D := l.zipIdx.map fun p => .tup [.int (p.2 : Nat), p.1]
def zipC : List Nat → List Nat → List (Nat × Nat) := List.zip
theorem ei_enumS {l : List Nat} {d : D} (h : EvA K ta σ F [d]) (e : d = txt l) : EvI K (iEnumS ta) σ F ((List.range l.length).map fun i => .tup [.int (i : Nat), .str ⟨#[l.getD i 0]⟩]) := fun H s R q => h H s _ fun vs F1 H1 x1 dl => by
  subst e
  cases dl with
  | cons a t =>
    cases t; cases a
    refine ⟨_, rfl, q _ F1 H1 x1 ⟨fun _ => True, fun i H v H' => ∃ T c, v = .ref T ∧ H T = none ∧ l[i]? = some c ∧ H' = upd H T (.tup [.int (i : Nat), .str ⟨#[c]⟩]), ⟨fun i H hi _ => ?_, fun H _ => ?_, fun i H x H' hi _ y => ?_⟩, fun _ _ => trivial, fun i H v H' hi s y => ?_⟩⟩
    · rw [List.length_map, List.length_range] at hi
      show i < l.toArray.size
      simpa using hi
    · rw [List.length_map, List.length_range]
      show l.length = l.toArray.size
      simp
    · obtain ⟨T, c, h1, h2, h3, h4⟩ := y
      exact ⟨T, c, h1, h2, by simpa using h3, h4⟩
    · obtain ⟨T, c, rfl, h2, h3, rfl⟩ := y
      have lt := (List.getElem?_eq_some_iff.mp h3).1
      refine ⟨_, upd F1 T (.tup [.int (i : Nat), .str ⟨#[c]⟩]), ?_, Ext.new s h2, .tup (SqT.of upd_same) (.cons (.int _) (.cons (.str _) .nil))⟩
      rw [List.getElem?_map, List.getElem?_range lt, Option.map_some, List.getD_eq_getElem?_getD, h3]
      rfl
theorem ei_enumZ {l m : List Nat} {d e : D} (h : EvA K ta σ F [d, e]) (e1 : d = txt l) (e2 : e = txt m) : EvI K (iEnumZ ta) σ F ((List.range (min l.length m.length)).map fun i => .tup [.int (i : Nat), .tup [.str ⟨#[l.getD i 0]⟩, .str ⟨#[m.getD i 0]⟩]]) := fun H s R q => h H s _ fun vs F1 H1 x1 dl => by
  subst e1; subst e2
  cases dl with
  | cons a t =>
    cases t with
    | cons b t =>
      cases t; cases a; cases b
      refine ⟨_, _, rfl, q _ F1 H1 x1 ⟨fun _ => True, fun i H v H' => ∃ T R c d, v = .ref R ∧ H T = none ∧ H R = none ∧ R ≠ T ∧ l[i]? = some c ∧ m[i]? = some d ∧ H' = upd (upd H T (.tup [.str ⟨#[c]⟩, .str ⟨#[d]⟩])) R (.tup [.int (i : Nat), .ref T]), ⟨fun i H hi _ => ?_, fun H _ => ?_, fun i H x H' hi _ y => ?_⟩, fun _ _ => trivial, fun i H v H' hi s y => ?_⟩⟩
      · rw [List.length_map, List.length_range] at hi
        show i < l.toArray.size ∧ i < m.toArray.size
        simp only [List.size_toArray]
        omega
      · rw [List.length_map, List.length_range]
        show min l.length m.length = l.toArray.size ∨ (min l.length m.length < l.toArray.size ∧ min l.length m.length = m.toArray.size)
        simp only [List.size_toArray]
        omega
      · obtain ⟨T, R, c, d, h1, h2, h3, h4, h5, h6, h7⟩ := y
        exact ⟨T, R, c, d, h1, h2, h3, h4, by simpa using h5, by simpa using h6, h7⟩
      · obtain ⟨T, R, c, d, rfl, h2, h3, ne, h5, h6, rfl⟩ := y
        have lt1 := (List.getElem?_eq_some_iff.mp h5).1
        have lt2 := (List.getElem?_eq_some_iff.mp h6).1
        have y1 := Ext.new (o := .tup [.str ⟨#[c]⟩, .str ⟨#[d]⟩]) s h2
        have h3' : upd H T (.tup [.str ⟨#[c]⟩, .str ⟨#[d]⟩]) R = none := by rw [upd_ne ne]; exact h3
        have y2 := Ext.new (o := .tup [.int (i : Nat), .ref T]) y1.s h3'
        refine ⟨_, _, ?_, y1.tr y2, .tup (SqT.of upd_same) (.cons (.int _) (.cons (.tup (ds := [.str ⟨#[c]⟩, .str ⟨#[d]⟩]) (SqT.of (y2.f _ _ upd_same)) (.cons (.str _) (.cons (.str _) .nil))) .nil))⟩
        rw [List.getElem?_map, List.getElem?_range (by omega), Option.map_some, List.getD_eq_getElem?_getD, List.getD_eq_getElem?_getD, h5, h6]
        rfl
/-- for k, v in d.items() -/
theorem ei_items {es : List (Key × D)} (h : EvD K te σ F (.dic es)) : EvI K (iItems te) σ F (es.map fun e => .tup [kD e.1, e.2]) := fun H s R q => h H s _ fun v F1 H1 x1 d1 => by
  cases d1 with
  | dic hh l =>
    rename_i a o kvs
    refine ⟨a, o, kvs, rfl, x1.s _ _ hh, q _ F1 H1 x1 ⟨fun H => H a = some (.frz o (.dK kvs)), YPair (fun i => kvs[i]?.map fun kv => kV kv.1) (fun i => kvs[i]?.map Prod.snd), ?_, fun H s => s _ _ hh, fun i H x H' hi s y => ?_⟩⟩
    · rw [List.length_map, ← l.length]; exact walk_items
    · obtain ⟨T, x1, x2, rfl, h2, rfl, h3, h4⟩ := y
      obtain ⟨⟨k, v⟩, g1, g2⟩ := Option.map_eq_some_iff.mp h3
      have h4 : kvs[i]?.map Prod.snd = some x2 := h4
      rw [g1] at h4
      have h4 : v = x2 := by simpa using h4
      have g2 : kV k = x1 := g2
      subst h4; subst g2
      have gk : ∃ d, es[i]? = some (k, d) ∧ Den K F1 v d := by
        have e := DenK.getV l g1
        exact e
      obtain ⟨d, e1, e2⟩ := gk
      have y1 := Ext.new (o := .tup [kV k, v]) s h2
      have e2' : Den K (upd F1 T (.tup [kV k, v])) v d := e2.up y1.f
      refine ⟨.tup [kD k, d], _, by rw [List.getElem?_map, e1]; rfl, y1, .tup (SqT.of upd_same) (.cons ?_ (.cons e2' .nil))⟩
      cases k with
      | inl n => exact .int n
      | inr z => exact .str z
end
end Nm

set_option Elab.async false
set_option linter.all false
set_option maxRecDepth 100000
set_option maxHeartbeats 1000000
namespace Nm
open PySem PySem.Spec L2 PyProof.Rows
/-! ### xs[::-1], of a list or of a text -/
def revS (z : Str) : Str := ⟨z.cps.toList.reverse.toArray⟩
def tRevS (te : TE) : TE := fun σ H Q => te σ H fun x H1 => ∃ z, x = .str z ∧ z.length ≤ sizeLine ∧ Q (.str (revS z)) H1
def tRevA (K : PySem.W.Frag) (te : TE) : TE := fun σ H Q => tRevL K te σ H Q ∨ tRevS te σ H Q
theorem rev_pick (z : Str) : ((Builtin.Str.strSliceIndices none none (-1) z.length).filterMap (z.cps[·]?)).toArray = z.cps.toList.reverse.toArray := by
  rw [picked_rev]
  congr 1
  obtain ⟨⟨l⟩⟩ := z
  show ((List.range l.length).map fun k => l.length - 1 - k).filterMap (fun i => (l.toArray)[i]?) = l.reverse
  apply List.ext_getElem?
  intro i
  have e1 : (((List.range l.length).map fun k => l.length - 1 - k).filterMap (fun i => (l.toArray)[i]?)) = (List.range l.length).map fun k => l.getD (l.length - 1 - k) 0 := by
    rw [List.filterMap_map]
    have : ∀ r : List Nat, (∀ k ∈ r, k < l.length) → r.filterMap ((fun i => (l.toArray)[i]?) ∘ fun k => l.length - 1 - k) = r.map fun k => l.getD (l.length - 1 - k) 0 := by
      intro r
      induction r with
      | nil => intro _; rfl
      | cons k r ih =>
        intro h
        have hk := h k List.mem_cons_self
        have lt : l.length - 1 - k < l.length := by omega
        rw [List.filterMap_cons, List.map_cons, ih fun j hj => h j (List.mem_cons_of_mem _ hj)]
        simp [lt]
    exact this _ fun k hk => List.mem_range.mp hk
  rw [e1, List.getElem?_map]
  by_cases h : i < l.length
  · rw [List.getElem?_range h, List.getElem?_reverse h, Option.map_some, List.getD_eq_getElem?_getD]
    have lt : l.length - 1 - i < l.length := by omega
    rw [List.getElem?_eq_getElem lt]
    rfl
  · rw [List.getElem?_eq_none (by simpa using h), List.getElem?_eq_none (by simpa using h)]
    rfl
theorem pe_revS {X : Cx} {e : Expr} {te : TE} {k : Nat} {p1 p2 p3 pos : Pos} (he : PE X e te) : PE X (.Subscript e (.Slice none none (some (.UnaryOp .USub (.Constant (.int 1) k p1) p2)) p3) pos) (tRevS te) := by
  have st : PO X (some (.UnaryOp .USub (.Constant (.int 1) k p1) p2)) (tPart (tUn (rU fun i => .int (-i)) (tC (.int 1)))) := po_some (pe_un un_neg pe_int)
  refine ⟨fun pins s σ H Q I h => Subscript_ (thn (he.run pins s σ H _ I h) fun v s1 ⟨x, H1, I1, r1, z, ex, hz, q⟩ => ?_)⟩
  subst ex
  obtain ⟨t, rfl⟩ := r1
  refine wpAny_Slice (thn (po_none.run pins s1 σ H1 (fun o Ha => o = none ∧ Ha = H1) I1 ⟨rfl, rfl⟩) fun va sa ⟨oa, Ha, Ia, pa, ea, ha⟩ => thn (po_none.run pins sa σ Ha (fun o Hb => o = none ∧ Hb = Ha) Ia ⟨rfl, rfl⟩) fun vb sb ⟨ob, Hb, Ib, pb, eb, hb⟩ => thn (st.run pins sb σ Hb (fun o Hc => o = some (-1) ∧ Hc = Hb) Ib ⟨1, rfl, -1, rfl, rfl, rfl⟩) fun vc sc ⟨oc, Hc, Ic, pc, ec, hc⟩ => ?_)
  subst ea ha eb hb ec hc
  have I5 : L2.Inv X pins σ Hc { sc with heap := sc.heap.push { cls := .type "slice", data := .fields #[va, vb, vc] } } := Ic.kept (t' := sc.toks) fun b ob q => Heap.get?_push_of_some _ q
  obtain ⟨l', rfl, el⟩ := IsPart.raw pa
  obtain ⟨u', rfl, eu⟩ := IsPart.raw pb
  obtain ⟨v', rfl, ev⟩ := IsPart.raw pc
  refine tail_any (ops := [.str z t, .ref sc.heap.objs.size]) (typeIs_str _ _ _) F.slot_str_getitem.lookup ?_ (by with_unfolding_all rfl)
  refine wpAny_getItem_str_slice (l := l') (u := u') (st := v') ⟨_, Heap.get?_push_size _ rfl, rfl, rfl⟩ (by rw [ev]; rfl) ?_
  have e0 : ((v'.map (·.1)).getD 1) = -1 := by rw [ev]; rfl
  have key : sliceMade z t l' u' v' = .str (revS z) := by
    unfold sliceMade slicePicked
    rw [e0, el, eu, rev_pick]
    rfl
  rw [key]
  refine ⟨?_, .str (revS z), Hc, I5.tok _, ⟨_, rfl⟩, q⟩
  show (revS z).length ≤ sizeLine
  have : (revS z).length = z.length := by simp [revS, Str.length]
  rw [this]; exact hz
theorem pe_revA {X : Cx} {e : Expr} {te : TE} {k : Nat} {p1 p2 p3 pos : Pos} (he : PE X e te) : PE X (.Subscript e (.Slice none none (some (.UnaryOp .USub (.Constant (.int 1) k p1) p2)) p3) pos) (tRevA X.K te) :=
  ⟨fun pins s σ H Q I h => h.elim ((pe_revL he).run pins s σ H Q I) ((pe_revS he).run pins s σ H Q I)⟩
section
variable {K : PySem.W.Frag} {F H : Hp} {σ : L2.St} {te : TE} {d : D}
theorem DenL.reverse {F : Hp} : ∀ {vs : List V} {ds : List D}, DenL K F vs ds → DenL K F vs.reverse ds.reverse
  | _, _, .nil => .nil
  | _, _, .cons h t => by
    rw [List.reverse_cons, List.reverse_cons]
    exact t.reverse.append (.cons h .nil)
theorem el_rev {ds : List D} (h : EvD K te σ F (.lst ds)) : EvL K (tRevA K te) σ F ds.reverse := fun H s Q q => .inl (h H s _ fun v F1 H1 x1 d1 => by
  cases d1 with
  | lst a l => exact ⟨_, _, rfl, SqL.of (x1.s _ _ a), fun p hp => q p _ F1 _ (x1.back hp) (x1.tr (Ext.newM x1.s hp)) ⟨x1.s.free hp, upd_same⟩ l.reverse⟩)
theorem ev_revT {l : List Nat} (h : EvD K te σ F (txt l)) (hz : l.length ≤ 16777216) : EvD K (tRevA K te) σ F (txt l.reverse) := fun H s Q q => .inr (h H s _ fun v F1 H1 x1 d1 => by
  cases d1
  exact ⟨_, rfl, by rw [txt_len, sizeLine_eq]; exact hz, q _ F1 H1 x1 (.str _)⟩)
/-- o.f, a property -/
theorem ev_prop {C : Addr} {gs : List (Str × D)} {E : XK} {R : List D → D → Prop} (h : EvD K te σ F (.obj C gs)) (hR : R [.obj C gs] d) : EvD K (tProp C (spR K 1 R) [] E te) σ F d := fun H s Q q =>
  h H s _ fun v F1 H1 x1 d1 => by
    have d1' := d1
    cases d1 with
    | obj a l => exact ⟨_, _, _, rfl, x1.s _ _ a, F1, [.obj C gs], d, x1.s, .cons d1' .nil, hR, rfl, fun v F2 H2 x2 d2 => q v F2 H2 (x1.tr x2) d2⟩
end
end Nm

set_option Elab.async false
set_option linter.all false
set_option maxRecDepth 100000
set_option maxHeartbeats 1000000
/-! Single exchanges, in plain words. -/
namespace Nm
open PySem PySem.Spec L2
def put (l : List Nat) (at_ many : Nat) (w : List Nat) : List Nat := l.take at_ ++ w ++ l.drop (at_ + many)
/-- by folds, at one place -/
def byFat (fo : Fo) (l : List Nat) (i : Nat) : List (List Nat) :=
  (match lk fo (l.getD i 0) with | some w => [put l i 1 w] | none => []) ++ (fo.filter fun p => decide ((l.drop i).take p.2.length = p.2)).map fun p => put l i p.2.length [p.1]
def byF (fo : Fo) (l : List Nat) : List (List Nat) := (List.range l.length).flatMap (byFat fo l)
def two (ma : Ma) (a b : Nat) : Bool := (lk ma a).isSome && ((lk ma b).isSome && !decide (lk ma a = lk ma b))
def byMat (ma : Ma) (l : List Nat) (i : Nat) : List (List Nat) := if two ma (l.getD i 0) (l.getD (i + 1) 0) then [put l i 2 [l.getD (i + 1) 0, l.getD i 0]] else []
def byM (ma : Ma) (l : List Nat) : List (List Nat) := (List.range (l.length - 1)).flatMap (byMat ma l)
def mkS (w : List Nat) : Str := ⟨w.toArray⟩
theorem mkS_inj {a b : List Nat} (h : mkS a = mkS b) : a = b := by
  have := congrArg (fun s : Str => s.cps.toList) h
  simpa [mkS] using this
/-- sorted(set(..)) of texts -/
def setT (ws : List (List Nat)) : List (List Nat) := (setS (ws.map mkS)).map fun s => s.cps.toList
theorem setT_S (ws : List (List Nat)) : (setT ws).map mkS = setS (ws.map mkS) := by
  unfold setT
  rw [List.map_map]
  exact List.map_id' _
theorem setT_mem {ws : List (List Nat)} {w : List Nat} : w ∈ setT ws ↔ w ∈ ws := by
  unfold setT
  rw [List.mem_map]
  constructor
  · rintro ⟨s, hs, rfl⟩
    obtain ⟨v, hv, rfl⟩ := List.mem_map.mp (setS_mem.mp hs)
    simpa [mkS] using hv
  · intro h
    exact ⟨mkS w, setS_mem.mpr (List.mem_map.mpr ⟨w, h, rfl⟩), by simp [mkS]⟩
theorem setT_congr {a b : List (List Nat)} (h : ∀ w, w ∈ a ↔ w ∈ b) : setT a = setT b := by
  unfold setT
  congr 1
  refine setS_congr fun z => ?_
  rw [List.mem_map, List.mem_map]
  exact ⟨fun ⟨w, hw, e⟩ => ⟨w, (h w).mp hw, e⟩, fun ⟨w, hw, e⟩ => ⟨w, (h w).mpr hw, e⟩⟩
theorem setT_len (ws : List (List Nat)) : (setT ws).length ≤ ws.length := by
  unfold setT
  rw [List.length_map]
  have := setS_len (ws.map mkS)
  rw [List.length_map] at this
  exact this
def exs (fo : Fo) (ma : Ma) (l : List Nat) : List (List Nat) := setT (byF fo l ++ byM ma l)
/-! ### how many, how long -/
theorem filt_len {α : Type} (p : α → Bool) (l : List α) : (l.filter p).length ≤ l.length := List.length_filter_le p l
theorem byFat_len (fo : Fo) (l : List Nat) (i : Nat) : (byFat fo l i).length ≤ fo.length + 1 := by
  unfold byFat
  rw [List.length_append, List.length_map]
  have := filt_len (fun p : Nat × List Nat => decide ((l.drop i).take p.2.length = p.2)) fo
  split <;> simp only [List.length_cons, List.length_nil] <;> omega
theorem byMat_len (ma : Ma) (l : List Nat) (i : Nat) : (byMat ma l i).length ≤ 1 := by
  unfold byMat
  split <;> simp
theorem byF_len (fo : Fo) (l : List Nat) : (byF fo l).length ≤ l.length * (fo.length + 1) := by
  have := flatMap_len (byFat fo l) (fo.length + 1) (List.range l.length) fun i _ => byFat_len fo l i
  rw [List.length_range] at this
  exact this
theorem byM_len (ma : Ma) (l : List Nat) : (byM ma l).length ≤ l.length := by
  have := flatMap_len (byMat ma l) 1 (List.range (l.length - 1)) fun i _ => byMat_len ma l i
  rw [List.length_range] at this
  unfold byM
  omega
theorem put_len {l w : List Nat} {i m : Nat} : (put l i m w).length ≤ l.length + w.length := by
  unfold put
  rw [List.length_append, List.length_append, List.length_take, List.length_drop]
  omega
theorem put_mem {l w : List Nat} {i m c : Nat} (h : c ∈ put l i m w) : c ∈ l ∨ c ∈ w := by
  unfold put at h
  rcases List.mem_append.mp h with h | h
  · rcases List.mem_append.mp h with h | h
    · exact .inl (List.mem_of_mem_take h)
    · exact .inr h
  · exact .inl (List.mem_of_mem_drop h)
/-! ### each exchange, shown by its pieces -/
/-- one exchange: what is put in place of what -/
inductive Ex1 (fo : Fo) (ma : Ma) : List Nat → List Nat → Prop
  | fold {c : Nat} {w : List Nat} (a b : List Nat) : lk fo c = some w → Ex1 fo ma (a ++ c :: b) (a ++ (w ++ b))
  | back {c : Nat} {w : List Nat} (a b : List Nat) : (c, w) ∈ fo → Ex1 fo ma (a ++ (w ++ b)) (a ++ c :: b)
  | swap {c d : Nat} (a b : List Nat) : two ma c d = true → Ex1 fo ma (a ++ c :: d :: b) (a ++ d :: c :: b)
theorem cut1 {l : List Nat} {i : Nat} (h : i < l.length) : l = l.take i ++ l.getD i 0 :: l.drop (i + 1) := by
  conv => lhs; rw [← List.take_append_drop i l]
  rw [List.drop_eq_getElem_cons h, List.getD_eq_getElem?_getD, List.getElem?_eq_getElem h]
  rfl
theorem cut2 {l : List Nat} {i : Nat} (h : i + 1 < l.length) : l = l.take i ++ l.getD i 0 :: l.getD (i + 1) 0 :: l.drop (i + 2) := by
  have h1 := cut1 (l := l) (i := i) (by omega)
  have h2 : l.drop (i + 1) = l.getD (i + 1) 0 :: l.drop (i + 2) := by
    rw [List.drop_eq_getElem_cons h, List.getD_eq_getElem?_getD, List.getElem?_eq_getElem h]
    rfl
  rw [h2] at h1
  exact h1
theorem put_app (a b c w : List Nat) : put (a ++ (b ++ c)) a.length b.length w = a ++ (w ++ c) := by
  unfold put
  rw [List.take_left', List.append_assoc]
  · congr 2
    rw [← List.append_assoc, show a.length + b.length = (a ++ b).length by rw [List.length_append]]
    exact List.drop_left
  · rfl
theorem mem_byF {fo : Fo} {l w : List Nat} (hw : ∀ p ∈ fo, 1 ≤ p.2.length) : w ∈ byF fo l ↔ (∃ c v a b, lk fo c = some v ∧ l = a ++ c :: b ∧ w = a ++ (v ++ b)) ∨ ∃ c v a b, (c, v) ∈ fo ∧ l = a ++ (v ++ b) ∧ w = a ++ c :: b := by
  unfold byF
  rw [List.mem_flatMap]
  constructor
  · rintro ⟨i, hi, h⟩
    have hi := List.mem_range.mp hi
    unfold byFat at h
    rcases List.mem_append.mp h with h | h
    · cases e : lk fo (l.getD i 0) with
      | none => rw [e] at h; cases h
      | some v =>
        rw [e] at h
        have h : w = put l i 1 v := by simpa using h
        refine .inl ⟨_, v, l.take i, l.drop (i + 1), e, cut1 hi, ?_⟩
        rw [h]; unfold put; rw [List.append_assoc]
    · obtain ⟨⟨c, v⟩, hp, rfl⟩ := List.mem_map.mp h
      obtain ⟨h1, h2⟩ := List.mem_filter.mp hp
      have h2 : (l.drop i).take v.length = v := of_decide_eq_true h2
      refine .inr ⟨c, v, l.take i, l.drop (i + v.length), h1, ?_, ?_⟩
      · have e1 : l.drop i = v ++ l.drop (i + v.length) := by
          conv => lhs; rw [← List.take_append_drop v.length (l.drop i), h2, List.drop_drop]
        rw [← e1, List.take_append_drop]
      · show put l i v.length [c] = _
        unfold put
        rw [List.append_assoc]; rfl
  · rintro (⟨c, v, a, b, e, rfl, rfl⟩ | ⟨c, v, a, b, hm, rfl, rfl⟩)
    · refine ⟨a.length, List.mem_range.mpr (by simp), ?_⟩
      unfold byFat
      have g : (a ++ c :: b).getD a.length 0 = c := by simp [List.getD_eq_getElem?_getD]
      rw [g, e]
      refine List.mem_append.mpr (.inl ?_)
      have := put_app a [c] b v
      simp only [List.length_cons, List.length_nil, List.cons_append, List.nil_append] at this
      rw [show (0 : Nat) + 1 = 1 from rfl] at this
      simp [this]
    · have hv := hw _ hm
      have hv : 1 ≤ v.length := hv
      refine ⟨a.length, List.mem_range.mpr (by rw [List.length_append, List.length_append]; omega), ?_⟩
      unfold byFat
      refine List.mem_append.mpr (.inr (List.mem_map.mpr ⟨(c, v), List.mem_filter.mpr ⟨hm, decide_eq_true ?_⟩, ?_⟩))
      · rw [List.drop_left]
        exact List.take_left
      · exact put_app a v b [c]
theorem mem_byM {ma : Ma} {l w : List Nat} : w ∈ byM ma l ↔ ∃ c d a b, two ma c d = true ∧ l = a ++ c :: d :: b ∧ w = a ++ d :: c :: b := by
  unfold byM
  rw [List.mem_flatMap]
  constructor
  · rintro ⟨i, hi, h⟩
    have hi := List.mem_range.mp hi
    unfold byMat at h
    by_cases t : two ma (l.getD i 0) (l.getD (i + 1) 0) = true
    · rw [if_pos t] at h
      have h : w = put l i 2 [l.getD (i + 1) 0, l.getD i 0] := by simpa using h
      refine ⟨_, _, l.take i, l.drop (i + 2), t, cut2 (by omega), ?_⟩
      rw [h]; unfold put; rw [List.append_assoc]; rfl
    · rw [if_neg t] at h; cases h
  · rintro ⟨c, d, a, b, t, rfl, rfl⟩
    refine ⟨a.length, List.mem_range.mpr (by simp), ?_⟩
    unfold byMat
    have g1 : (a ++ c :: d :: b).getD a.length 0 = c := by simp [List.getD_eq_getElem?_getD]
    have g2 : (a ++ c :: d :: b).getD (a.length + 1) 0 = d := by simp [List.getD_eq_getElem?_getD]
    rw [g1, g2, if_pos t]
    have := put_app a [c, d] b [d, c]
    simp only [List.length_cons, List.length_nil, List.cons_append, List.nil_append] at this
    rw [show (0 : Nat) + 1 + 1 = 2 from rfl] at this
    simp [this]
theorem mem_exs {fo : Fo} {ma : Ma} {l w : List Nat} (hw : ∀ p ∈ fo, 1 ≤ p.2.length) : w ∈ exs fo ma l ↔ Ex1 fo ma l w := by
  unfold exs
  rw [setT_mem, List.mem_append, mem_byF hw, mem_byM]
  constructor
  · rintro ((⟨c, v, a, b, e, rfl, rfl⟩ | ⟨c, v, a, b, hm, rfl, rfl⟩) | ⟨c, d, a, b, t, rfl, rfl⟩)
    · exact .fold a b e
    · exact .back a b hm
    · exact .swap a b t
  · rintro (⟨a, b, e⟩ | ⟨a, b, e⟩ | ⟨a, b, e⟩)
    · exact .inl (.inl ⟨_, _, a, b, e, rfl, rfl⟩)
    · exact .inl (.inr ⟨_, _, a, b, e, rfl, rfl⟩)
    · exact .inr ⟨_, _, a, b, e, rfl, rfl⟩
theorem two_symm {ma : Ma} {a b : Nat} (h : two ma a b = true) : two ma b a = true := by
  unfold two at h ⊢
  simp only [Bool.and_eq_true, Bool.not_eq_true', decide_eq_false_iff_not] at h ⊢
  exact ⟨h.2.1, h.1, fun e => h.2.2 e.symm⟩
section
variable {sg : Nat → Bool} {fo : Fo} {ma : Ma}
/-- each leads back -/
theorem ex1_symm (ok : okTab sg fo ma) {l w : List Nat} (h : Ex1 fo ma l w) : Ex1 fo ma w l := by
  cases h with
  | fold a b e => exact .back a b (lk_mem e)
  | back a b e => exact .fold a b (lk_self ok.fn e)
  | swap a b t => exact .swap a b (two_symm t)
theorem ex1_sign (ok : okTab sg fo ma) {l w : List Nat} (h : Ex1 fo ma l w) (hl : ∀ c ∈ l, sg c = true) : ∀ c ∈ w, sg c = true := by
  cases h with
  | fold a b e =>
    have fw := ok.fw _ (lk_mem e)
    intro c hc
    rcases List.mem_append.mp hc with hc | hc
    · exact hl c (List.mem_append_left _ hc)
    · rcases List.mem_append.mp hc with hc | hc
      · exact (fw.2.2 c hc).1
      · exact hl c (List.mem_append_right _ (List.mem_cons_of_mem _ hc))
  | back a b e =>
    intro c hc
    rcases List.mem_append.mp hc with hc | hc
    · exact hl c (List.mem_append_left _ hc)
    · rcases List.mem_cons.mp hc with rfl | hc
      · exact ok.fs _ e
      · exact hl c (List.mem_append_right _ (List.mem_append_right _ hc))
  | swap a b t =>
    intro c hc
    refine hl c ?_
    simp only [List.mem_append, List.mem_cons] at hc ⊢
    rcases hc with hc | hc | hc | hc
    · exact .inl hc
    · exact .inr (.inr (.inl hc))
    · exact .inr (.inl hc)
    · exact .inr (.inr (.inr hc))
theorem ex1_len (ok : okTab sg fo ma) {l w : List Nat} (h : Ex1 fo ma l w) : w.length ≤ l.length + 2 ∧ (1 ≤ l.length → 1 ≤ w.length) := by
  cases h with
  | fold a b e =>
    have fw := ok.fw _ (lk_mem e)
    have h1 := fw.1
    have h2 := fw.2.1
    simp only [List.length_append, List.length_cons] at h1 h2 ⊢
    omega
  | back a b e =>
    simp only [List.length_append, List.length_cons]
    omega
  | swap a b t =>
    simp only [List.length_append, List.length_cons]
    omega
theorem folded_app (fo : Fo) (a b : List Nat) : folded fo (a ++ b) = folded fo a ++ folded fo b := by
  unfold folded
  rw [List.map_append, List.flatten_append]
theorem folded_cons (fo : Fo) (c : Nat) (b : List Nat) : folded fo (c :: b) = foldS fo c ++ folded fo b := by
  unfold folded
  rw [List.map_cons, List.flatten_cons]
/-- the key stays -/
theorem ex1_key (ok : okTab sg fo ma) {l w : List Nat} (h : Ex1 fo ma l w) : key fo ma w = key fo ma l := by
  unfold key
  cases h with
  | @fold c v a b e =>
    have fw := ok.fw _ (lk_mem e)
    rw [folded_app, folded_app, folded_app, folded_cons, foldS_some e, folded_id fun d hd => (fw.2.2 d hd).2]
  | @back c v a b e =>
    have fw := ok.fw _ e
    rw [folded_app, folded_app, folded_app, folded_cons, foldS_some (lk_self ok.fn e), folded_id fun d hd => (fw.2.2 d hd).2]
  | @swap c d a b t =>
    unfold two at t
    simp only [Bool.and_eq_true, Bool.not_eq_true', decide_eq_false_iff_not] at t
    have nf : ∀ c, (lk ma c).isSome = true → foldS fo c = [c] := fun c hc => by
      obtain ⟨n, hn⟩ := Option.isSome_iff_exists.mp hc
      exact foldS_none (ok.ms _ (lk_mem hn)).2.2
    rw [folded_app, folded_app, folded_cons, folded_cons, folded_cons, folded_cons, nf c t.1, nf d t.2.1]
    exact (runs_swap t.1 t.2.1 t.2.2 (folded fo b) (folded fo a) []).symm
end
end Nm

set_option Elab.async false
set_option linter.all false
set_option maxRecDepth 100000
set_option maxHeartbeats 1000000
namespace Nm
open PySem PySem.Spec L2
def tv (w : List Nat) : V := .str (mkS w)
section
variable {K : PySem.W.Frag} {F H : Hp} {σ : L2.St} {ta tb te ti tj : TE} {d e : D} {r : List Sl} {DE : Ends} {tz : TS} {p : Addr} {l a b : List Nat} {i j : Nat}
/-! ### texts -/
theorem cut_take (l : List Nat) (i : Nat) : cutS ⟨l.toArray⟩ none (some (i : Int)) = ⟨(l.take i).toArray⟩ := by
  unfold cutS
  rw [HT.sIx_none, HT.sIx_nat, txt_len]
  show (⟨((l.drop 0).take (min i l.length - 0)).toArray⟩ : Str) = _
  rw [List.drop_zero, Nat.sub_zero, ← List.take_eq_take_min]
theorem cut_drop (l : List Nat) (i : Nat) : cutS ⟨l.toArray⟩ (some (i : Int)) none = ⟨(l.drop i).toArray⟩ := by
  unfold cutS
  rw [HT.sIx_none, HT.sIx_nat, txt_len]
  show (⟨((l.drop (min i l.length)).take (l.length - min i l.length)).toArray⟩ : Str) = _
  rw [List.take_of_length_le (by rw [List.length_drop]; exact Nat.le_refl _)]
  by_cases h : i ≤ l.length
  · rw [Nat.min_eq_left h]
  · rw [Nat.min_eq_right (by omega), List.drop_eq_nil_of_le (Nat.le_refl _), List.drop_eq_nil_of_le (by omega)]
theorem cut_sub (l : List Nat) (i j : Nat) : cutS ⟨l.toArray⟩ (some (i : Int)) (some (j : Int)) = ⟨((l.drop i).take (j - i)).toArray⟩ := by
  unfold cutS
  rw [HT.sIx_nat, HT.sIx_nat, txt_len]
  show (⟨((l.drop (min i l.length)).take (min j l.length - min i l.length)).toArray⟩ : Str) = _
  by_cases h : i ≤ l.length
  · rw [Nat.min_eq_left h]
    congr 2
    by_cases h2 : j ≤ l.length
    · rw [Nat.min_eq_left h2]
    · rw [Nat.min_eq_right (by omega), List.take_of_length_le (by rw [List.length_drop]; exact Nat.le_refl _), List.take_of_length_le (by rw [List.length_drop]; omega)]
  · rw [Nat.min_eq_right (show l.length ≤ i by omega), List.drop_eq_nil_of_le (Nat.le_refl _), List.drop_eq_nil_of_le (show l.length ≤ i by omega)]
    simp
theorem ev_takeT (h : EvD K te σ F (txt l)) (hi : EvD K ti σ F (.int (i : Nat))) (hz : l.length ≤ 16777216) : EvD K (L2.tSl (rSlAny K) te tNo (tSome ti)) σ F (txt (l.take i)) :=
  ev_is (ev_sl_str h eo_none (eo_some hi) (by rw [txt_len, sizeLine_eq]; exact hz)) (by rw [cut_take]; rfl)
theorem ev_dropT (h : EvD K te σ F (txt l)) (hi : EvD K ti σ F (.int (i : Nat))) (hz : l.length ≤ 16777216) : EvD K (L2.tSl (rSlAny K) te (tSome ti) tNo) σ F (txt (l.drop i)) :=
  ev_is (ev_sl_str h (eo_some hi) eo_none (by rw [txt_len, sizeLine_eq]; exact hz)) (by rw [cut_drop]; rfl)
theorem ev_subT (h : EvD K te σ F (txt l)) (hi : EvD K ti σ F (.int (i : Nat))) (hj : EvD K tj σ F (.int (j : Nat))) (hz : l.length ≤ 16777216) : EvD K (L2.tSl (rSlAny K) te (tSome ti) (tSome tj)) σ F (txt ((l.drop i).take (j - i))) :=
  ev_is (ev_sl_str h (eo_some hi) (eo_some hj) (by rw [txt_len, sizeLine_eq]; exact hz)) (by rw [cut_sub]; rfl)
theorem ev_catT (ha : EvD K ta σ F (txt a)) (hb : EvD K tb σ F (txt b)) (hz : a.length + b.length ≤ 16777216) : EvD K (tOp (rAddA K) ta tb) σ F (txt (a ++ b)) :=
  ev_is (ev_op ha hb (rv_add_str (by rw [txt_len, txt_len, sizeLine_eq]; exact hz))) (congrArg D.str (str_ext (by show (a.toArray ++ b.toArray).toList = _; simp)))
theorem ev_lenT (h : EvD K te σ F (txt l)) (hz : l.length ≤ 16777216) : EvD K (tCB (rLenA K) (tCons te tNil)) σ F (.int (l.length : Nat)) :=
  ev_is (ev_cb (ea_cons h ea_nil) (rc_len_str (by rw [txt_len, sizeLine_eq]; exact hz))) (by rw [txt_len])
theorem ev_addN (ha : EvD K ta σ F (.int (i : Nat))) (hb : EvD K tb σ F (.int (j : Nat))) : EvD K (tOp (rAddA K) ta tb) σ F (.int ((i + j : Nat) : Int)) :=
  ev_is (ev_op ha hb rv_add_int) (congrArg D.int (by omega))
theorem et_eqT (ha : EvD K ta σ F (txt a)) (hb : EvD K tb σ F (txt b)) : EvT K (tTest (tOp (rEqA K) ta tb)) σ F (decide (a = b)) :=
  et_is (et_test (ev_op ha hb rvA_eq_str)) dec_txt
theorem et_neT (ha : EvD K ta σ F (txt a)) (hb : EvD K tb σ F (txt b)) : EvT K (tTest (tOp (rNeA K) ta tb)) σ F (!decide (a = b)) :=
  et_is (et_test (ev_op ha hb rvA_ne_str)) (by rw [dec_txt])
theorem dec_nat {m n : Nat} : decide ((m : Int) = (n : Int)) = decide (m = n) := by
  by_cases h : m = n
  · subst h; simp
  · rw [decide_eq_false h, decide_eq_false (by omega)]
theorem et_eqN (ha : EvD K ta σ F (.int (i : Nat))) (hb : EvD K tb σ F (.int (j : Nat))) : EvT K (tTest (tOp (rEqA K) ta tb)) σ F (decide (i = j)) :=
  et_is (et_test (ev_op ha hb rvA_eq_int)) dec_nat
theorem et_neN (ha : EvD K ta σ F (.int (i : Nat))) (hb : EvD K tb σ F (.int (j : Nat))) : EvT K (tTest (tOp (rNeA K) ta tb)) σ F (!decide (i = j)) :=
  et_is (et_test (ev_op ha hb rvA_ne_int)) (by rw [dec_nat])
theorem et_inFo {fo : Fo} {c : Nat} (ha : EvD K ta σ F (txt [c])) (hb : EvD K tb σ F (foD fo)) : EvT K (tTest (tOp (rInA K) ta tb)) σ F (lk fo c).isSome :=
  et_is (et_test (ev_op ha hb (rv_in_dic (es := foE fo) (k := .inr ⟨#[c]⟩) rfl))) isSome_fo
theorem et_inMa {ma : Ma} {c : Nat} (ha : EvD K ta σ F (txt [c])) (hb : EvD K tb σ F (maD ma)) : EvT K (tTest (tOp (rInA K) ta tb)) σ F (lk ma c).isSome :=
  et_is (et_test (ev_op ha hb (rv_in_dic (es := maE ma) (k := .inr ⟨#[c]⟩) rfl))) isSome_ma
theorem ev_ixFo {fo : Fo} {c : Nat} {w : List Nat} (ha : EvD K ta σ F (foD fo)) (hb : EvD K tb σ F (txt [c])) (h : lk fo c = some w) : EvD K (tOp (rIxA K) ta tb) σ F (txt w) :=
  ev_op ha hb (rv_ix_dic (es := foE fo) (k := .inr ⟨#[c]⟩) rfl (by rw [valD_fo, h]; rfl))
theorem ev_ixMa {ma : Ma} {c n : Nat} (ha : EvD K ta σ F (maD ma)) (hb : EvD K tb σ F (txt [c])) (h : lk ma c = some n) : EvD K (tOp (rIxA K) ta tb) σ F (.int (n : Nat)) :=
  ev_op ha hb (rv_ix_dic (es := maE ma) (k := .inr ⟨#[c]⟩) rfl (by rw [valD_ma, h]; rfl))
/-! ### a list of texts of one's own -/
theorem s_appT {ws : List (List Nat)} {z : List Nat} (S : Same F H) (E : EnvD K F r σ) (hp : r[i]? = some (.v (.ref p))) (w : Own F H p (.lst (ws.map tv))) (h : EvD K te σ F (txt z)) (hz : ws.length < 100000)
    (k : ∀ F' H', Ext [p] F H F' H' → Own F' H' p (.lst ((ws ++ [z]).map tv)) → EnvD K F' r σ → DE.nx σ H') : tDrop (tBM K "list" rAppend (tVar i) (tCons te tNil)) DE σ H :=
  s_app S E hp w h (by rw [List.length_map]; exact hz) fun v F' H' x o dv => by
    cases dv
    refine k F' _ (x.tr (o.set x.s)) ⟨o.f, ?_⟩ (E.up x.f)
    rw [upd_same, List.map_append]
    rfl
theorem q_appT {ws : List (List Nat)} {z : List Nat} (S : Same F H) (E : EnvD K F r σ) (hp : r[i]? = some (.v (.ref p))) (w : Own F H p (.lst (ws.map tv))) (h : EvD K te σ F (txt z)) (hz : ws.length < 100000)
    (k : ∀ F' H', Ext [p] F H F' H' → Own F' H' p (.lst ((ws ++ [z]).map tv)) → EnvD K F' r σ → tz DE σ H') : tSeq (tDrop (tBM K "list" rAppend (tVar i) (tCons te tNil))) tz DE σ H := s_appT (DE := { DE with nx := tz DE }) S E hp w h hz k
theorem DenL.txts (ws : List (List Nat)) : DenL K F (ws.map tv) (ws.map txt) := by
  induction ws with
  | nil => exact .nil
  | cons w ws ih => exact .cons (.str _) ih
theorem denL_txts {xs : List V} {ws : List (List Nat)} (h : DenL K F xs (ws.map txt)) : xs = ws.map tv := by
  induction ws generalizing xs with
  | nil => cases h; rfl
  | cons w ws ih =>
    cases h with
    | cons a t =>
      cases a
      rw [ih t]
      rfl
/-- x = [] -/
theorem q_new {tz : TS} (S : Same F H) (E : EnvD K F r σ) (k : ∀ p H' σ', H p = none → Ext [] F H F H' → Own F H' p (.lst (([] : List (List Nat)).map tv)) → EnvD K F (r.set j (.v (.ref p))) σ' → tz DE σ' H') : tSeq (tAsg (tLst tNil) (gName j)) tz DE σ H :=
  ⟨sz0, fun p hp => k p _ _ hp (Ext.newM S hp) ⟨S.free hp, upd_same⟩ (EnvD.set (s := .v (.ref p)) j E rfl)⟩
/-- what a list of texts of one's own is worth, where a new list of texts is made of it -/
theorem el_lendT {ws vs : List (List Nat)} (S : Same F H) (E : EnvD K F r σ) (hi : r[i]? = some (.v (.ref p))) (w : Own F H p (.lst (ws.map tv))) (h : ∀ F', Same F F' → EnvD K F' (r.set i (.d (.lst (ws.map txt)))) σ → EvL K te σ F' (vs.map txt))
    {Q : VK} (k : ∀ p' F' H', H p' = none → Ext [] F H F' H' → Own F' H' p (.lst (ws.map tv)) → Own F' H' p' (.lst (vs.map tv)) → Q (.ref p') H') : te σ H Q := by
  have g : Same F (upd F p (.lst (ws.map tv))) := same_new w.f
  refine h _ g ((E.up g).seeV hi (.lst upd_same (DenL.txts ws))) H (lend w S) Q fun p' ys F1 H1 hp x o l => ?_
  obtain ⟨h1, h2⟩ := Ext.thaw w S x
  refine k p' _ _ hp h1 h2 ⟨?_, ?_⟩
  · unfold del
    split
    · rfl
    · exact o.f
  · rw [← denL_txts l]; exact o.h
theorem q_asgLend {ws vs : List (List Nat)} (S : Same F H) (E : EnvD K F r σ) (hi : r[i]? = some (.v (.ref p))) (w : Own F H p (.lst (ws.map tv))) (h : ∀ F', Same F F' → EnvD K F' (r.set i (.d (.lst (ws.map txt)))) σ → EvL K te σ F' (vs.map txt))
    (k : ∀ p' F' H' σ', H p' = none → Ext [] F H F' H' → Own F' H' p' (.lst (vs.map tv)) → EnvD K F' (r.set j (.v (.ref p'))) σ' → DE.nx σ' H') : tAsg te (gName j) DE σ H :=
  el_lendT S E hi w h fun p' F' H' hp x _ o => k p' F' H' _ hp x o (EnvD.set (s := .v (.ref p')) j (E.up x.f) rfl)
/-- a + b, lists, the sum one's own -/
theorem el_cat {xs ys : List D} (ha : EvD K ta σ F (.lst xs)) (hb : EvD K tb σ F (.lst ys)) (hz : xs.length + ys.length ≤ sizeLine) : EvL K (tOp (rAddA K) ta tb) σ F (xs ++ ys) := fun H s Q q =>
  ha H s _ fun x F1 H1 x1 d1 => (hb.up x1.f) H1 x1.s _ fun y F2 H2 x2 d2 => by
    cases d1 with
    | lst h1 l1 =>
      cases d2 with
      | lst h2 l2 =>
        refine .inr (.inr (.inl ⟨_, _, _, _, rfl, rfl, x2.s _ _ (x2.f _ _ h1), x2.s _ _ h2, by rw [l1.length, l2.length]; exact hz, fun p hp => ?_⟩))
        exact q p _ F2 _ ((x1.tr x2).back hp) ((x1.tr x2).tr (Ext.newM x2.s hp)) ⟨x2.s.free hp, upd_same⟩ ((l1.up x2.f).append l2)
/-! ### a for whose lists may be others in each turn -/
theorem s_forW {tb : TS} (M : List Addr) (Pv : Nat → Hp → Hp → List Sl → Prop) {items : List D} {wi : TI} {g : TG} (u : D → List Sl → List Sl) (S : Same F H) (E : EnvD K F r σ) (hi : EvI K wi σ F items) (hg : ∀ d, d ∈ items → TgD K g d (u d))
    (h0 : ∀ F' H', Ext [] F H F' H' → Pv 0 F' H' r)
    (hs : ∀ i d F2 H2 r' σ' (N : L2.St → Hp → Prop), items[i]? = some d → Ext M F H F2 H2 → (∃ F1 H1, Pv i F1 H1 r' ∧ Ext [] F1 H1 F2 H2) → EnvD K F2 (u d r') σ' →
      (∀ F3 H3 r3 σ3, Same F2 F3 → Ext M F H F3 H3 → EnvD K F3 r3 σ3 → Pv (i + 1) F3 H3 r3 → N σ3 H3) → tb { DE with nx := N, ct := N, bk := DE.nx } σ' H2)
    (hd : ∀ F' H' r' σ', Ext M F H F' H' → EnvD K F' r' σ' → Pv items.length F' H' r' → DE.nx σ' H') : tFor wi g tb DE σ H :=
  hi H S _ fun J F1 H1 x1 W1 => by
    obtain ⟨G, Y, w, hg', hy⟩ := W1
    refine ⟨fun i m σ3 H3 => m = items.length - i ∧ i ≤ items.length ∧ ∃ F3 r3, Ext M F H F3 H3 ∧ Same F1 F3 ∧ EnvD K F3 r3 σ3 ∧ Pv i F3 H3 r3, ⟨items.length, by simp, Nat.zero_le _, F1, r, x1.wide (by simp), Same.refl _, E.up x1.f, h0 F1 H1 x1⟩, ?_⟩
    rintro i m σ3 H3 ⟨rfl, hle, F3, r3, x, e, E3, pv⟩
    have hG := hg' H3 (e.trans x.s)
    by_cases hlt : i < items.length
    · refine .inr ⟨w.goes i H3 hlt hG, fun σ' H' => ∃ F4 r4, Ext M F H F4 H' ∧ Same F1 F4 ∧ EnvD K F4 r4 σ' ∧ Pv (i + 1) F4 H' r4, fun σ' H' q => ⟨items.length - (i + 1), by omega, rfl, hlt, q⟩, fun v H4 y => ?_⟩
      obtain ⟨d, F2, h1, h2, h3⟩ := hy i H3 v H4 hlt (e.trans x.s) (w.yields i H3 v H4 hlt hG y)
      have x2 := Ext.uni e x.s h2
      have h3' : Den K (uni F3 F2) v d := h3.up (uni_r (x.s.trans h2.same) h2.s)
      refine hg d (List.mem_of_getElem? h1) _ H4 r3 σ3 v _ x2.s (E3.up x2.f) h3' fun σ' E' => ?_
      exact hs i d _ H4 r3 _ _ h1 (x.tl x2) ⟨F3, H3, pv, x2⟩ E' fun F5 H5 r5 σ5 s5 x5 E5 p5 => ⟨F5, r5, x5, (e.trans x2.f).trans s5, E5, p5⟩
    · have ei : i = items.length := by omega
      subst ei
      exact .inl ⟨w.stops H3 hG, hd F3 H3 r3 σ3 x E3 pv⟩
theorem q_forW {tb : TS} (M : List Addr) (Pv : Nat → Hp → Hp → List Sl → Prop) {items : List D} {wi : TI} {g : TG} (u : D → List Sl → List Sl) (S : Same F H) (E : EnvD K F r σ) (hi : EvI K wi σ F items) (hg : ∀ d, d ∈ items → TgD K g d (u d))
    (h0 : ∀ F' H', Ext [] F H F' H' → Pv 0 F' H' r)
    (hs : ∀ i d F2 H2 r' σ' (N : L2.St → Hp → Prop), items[i]? = some d → Ext M F H F2 H2 → (∃ F1 H1, Pv i F1 H1 r' ∧ Ext [] F1 H1 F2 H2) → EnvD K F2 (u d r') σ' →
      (∀ F3 H3 r3 σ3, Same F2 F3 → Ext M F H F3 H3 → EnvD K F3 r3 σ3 → Pv (i + 1) F3 H3 r3 → N σ3 H3) → tb { DE with nx := N, ct := N, bk := tz DE } σ' H2)
    (hd : ∀ F' H' r' σ', Ext M F H F' H' → EnvD K F' r' σ' → Pv items.length F' H' r' → tz DE σ' H') : tSeq (tFor wi g tb) tz DE σ H := s_forW (DE := { DE with nx := tz DE }) M Pv u S E hi hg h0 hs hd
end
section
variable {K : PySem.W.Frag} {vs : List V} {H F : Hp} {Q : VK} {E : XK} {R : List D → D → Prop}
theorem spR4 (h : spR K 4 R vs H Q E) : ∃ F v w u t x y z q d, vs = [v, w, u, t] ∧ Same F H ∧ Den K F v x ∧ Den K F w y ∧ Den K F u z ∧ Den K F t q ∧ R [x, y, z, q] d ∧ ∀ v F' H', Ext [] F H F' H' → Den K F' v d → Q v H' := by
  obtain ⟨F, ds, d, S, l, hf, hn, k⟩ := h
  match ds, l, hn with
  | [x, y, z, q], .cons hv (.cons hw (.cons hu (.cons ht .nil))), _ => exact ⟨F, _, _, _, _, x, y, z, q, d, rfl, S, hv, hw, hu, ht, hf, k⟩
theorem spFL1 {n : Nat} {R : List D → List D → Prop} (h : spFL K n R vs H Q E) : ∃ F ds es, Same F H ∧ DenL K F vs ds ∧ R ds es ∧ ∀ p xs F' H', H p = none → Ext [] F H F' H' → Own F' H' p (.lst xs) → DenL K F' xs es → Q (.ref p) H' := by
  obtain ⟨F, ds, es, S, l, hf, hn, k⟩ := h
  exact ⟨F, ds, es, S, l, hf, k⟩
end
end Nm

set_option Elab.async false
set_option linter.all false
set_option maxRecDepth 100000
set_option maxHeartbeats 1000000
/-! The law's own exchanges, in plain words; a join behind an if. -/
namespace Nm
open PySem PySem.Spec L2
def piece (l : List Nat) (i m : Nat) : List Nat := (l.drop i).take m
def clsOf (ma : Ma) (c : Nat) : Nat := (lk ma c).getD 0
def bothOf (ma : Ma) (w : List Nat) : List Nat := (w.filter fun c => (lk ma c).isSome).map (clsOf ma)
def lex1 (fo : Fo) (l : List Nat) (i m : Nat) : List (List Nat) := if m = 1 then (match lk fo (l.getD i 0) with | some w => [put l i m w] | none => []) else []
def sgnOf (fo : Fo) (w : List Nat) : List Nat := (fo.filter fun p => decide (p.2 = w)).map (·.1)
def lex2 (fo : Fo) (l : List Nat) (i m : Nat) : List (List Nat) := if (piece l i m).length = m then (sgnOf fo (piece l i m)).map fun c => put l i m [c] else []
def cond3 (ma : Ma) (l : List Nat) (i m : Nat) : Bool := decide (m = 2) && (decide ((bothOf ma (piece l i m)).length = 2) && !decide ((bothOf ma (piece l i m)).getD 0 0 = (bothOf ma (piece l i m)).getD 1 0))
def lex3 (ma : Ma) (l : List Nat) (i m : Nat) : List (List Nat) := if cond3 ma l i m then [put l i m (piece l i m).reverse] else []
def lexAt (fo : Fo) (ma : Ma) (l : List Nat) (i m : Nat) : List (List Nat) := lex1 fo l i m ++ (lex2 fo l i m ++ lex3 ma l i m)
def lexI (fo : Fo) (ma : Ma) (l : List Nat) (i : Nat) : List (List Nat) := [1, 2, 3].flatMap (lexAt fo ma l i)
def lex (fo : Fo) (ma : Ma) (l : List Nat) : List (List Nat) := (List.range l.length).flatMap (lexI fo ma l)
theorem lexAt_len (fo : Fo) (ma : Ma) (l : List Nat) (i m : Nat) : (lexAt fo ma l i m).length ≤ fo.length + 2 := by
  have h1 : (lex1 fo l i m).length ≤ 1 := by
    unfold lex1
    split
    · split <;> simp
    · simp
  have h2 : (lex2 fo l i m).length ≤ fo.length := by
    unfold lex2 sgnOf
    split
    · rw [List.length_map, List.length_map]; exact filt_len _ _
    · exact Nat.zero_le _
  have h3 : (lex3 ma l i m).length ≤ 1 := by unfold lex3; split <;> simp
  unfold lexAt
  rw [List.length_append, List.length_append]
  omega
theorem lexI_len (fo : Fo) (ma : Ma) (l : List Nat) (i : Nat) : (lexI fo ma l i).length ≤ 3 * (fo.length + 2) := flatMap_len (lexAt fo ma l i) (fo.length + 2) [1, 2, 3] fun m _ => lexAt_len fo ma l i m
theorem piece1 {l : List Nat} {i : Nat} (h : i < l.length) : piece l i 1 = [l.getD i 0] := by
  unfold piece
  rw [List.drop_eq_getElem_cons h, List.getD_eq_getElem?_getD, List.getElem?_eq_getElem h]
  rfl
theorem piece2 {l : List Nat} {i : Nat} (h : i + 1 < l.length) : piece l i 2 = [l.getD i 0, l.getD (i + 1) 0] := by
  unfold piece
  rw [List.drop_eq_getElem_cons (by omega), List.drop_eq_getElem_cons h, List.getD_eq_getElem?_getD, List.getD_eq_getElem?_getD, List.getElem?_eq_getElem (show i < l.length by omega), List.getElem?_eq_getElem h]
  rfl
theorem piece_len (l : List Nat) (i m : Nat) : (piece l i m).length = min m (l.length - i) := by unfold piece; rw [List.length_take, List.length_drop]
theorem both2 {ma : Ma} {c d : Nat} (hc : (lk ma c).isSome = true) (hd : (lk ma d).isSome = true) : bothOf ma [c, d] = [clsOf ma c, clsOf ma d] := by
  unfold bothOf
  rw [List.filter_cons, if_pos hc, List.filter_cons, if_pos hd]
  rfl
theorem cls_eq {ma : Ma} {c d : Nat} (hc : (lk ma c).isSome = true) (hd : (lk ma d).isSome = true) : (clsOf ma c = clsOf ma d) ↔ lk ma c = lk ma d := by
  obtain ⟨n, hn⟩ := Option.isSome_iff_exists.mp hc
  obtain ⟨m, hm⟩ := Option.isSome_iff_exists.mp hd
  unfold clsOf
  rw [hn, hm]
  simp
theorem cond3_two {ma : Ma} {l : List Nat} {i m : Nat} (h : cond3 ma l i m = true) : m = 2 ∧ i + 1 < l.length ∧ two ma (l.getD i 0) (l.getD (i + 1) 0) = true := by
  unfold cond3 at h
  simp only [Bool.and_eq_true, decide_eq_true_eq, Bool.not_eq_true', decide_eq_false_iff_not] at h
  obtain ⟨rfl, h2, h3⟩ := h
  have hp : 2 ≤ (piece l i 2).length := by
    have : (bothOf ma (piece l i 2)).length ≤ (piece l i 2).length := by unfold bothOf; rw [List.length_map]; exact filt_len _ _
    omega
  have hi : i + 1 < l.length := by rw [piece_len] at hp; omega
  refine ⟨rfl, hi, ?_⟩
  rw [piece2 hi] at h2 h3
  generalize l.getD i 0 = c at *
  generalize l.getD (i + 1) 0 = d at *
  have hc : (lk ma c).isSome = true := by
    cases z : (lk ma c).isSome with
    | true => rfl
    | false =>
      unfold bothOf at h2
      rw [List.length_map, List.filter_cons, if_neg (by rw [z]; decide)] at h2
      have := filt_len (fun c => (lk ma c).isSome) [d]
      simp only [List.length_cons, List.length_nil] at this
      omega
  have hd : (lk ma d).isSome = true := by
    cases z : (lk ma d).isSome with
    | true => rfl
    | false =>
      unfold bothOf at h2
      rw [List.length_map, List.filter_cons, if_pos hc, List.filter_cons, if_neg (by rw [z]; decide)] at h2
      simp at h2
  rw [both2 hc hd] at h3
  unfold two
  rw [hc, hd]
  simp only [Bool.true_and, Bool.not_eq_true', decide_eq_false_iff_not]
  exact fun e => h3 ((cls_eq hc hd).mpr e)
theorem two_cond3 {ma : Ma} {l : List Nat} {i : Nat} (hi : i + 1 < l.length) (h : two ma (l.getD i 0) (l.getD (i + 1) 0) = true) : cond3 ma l i 2 = true := by
  unfold two at h
  simp only [Bool.and_eq_true, Bool.not_eq_true', decide_eq_false_iff_not] at h
  unfold cond3
  rw [piece2 hi, both2 h.1 h.2.1]
  simp only [List.length_cons, List.length_nil, Bool.and_eq_true, decide_eq_true_eq, Bool.not_eq_true', decide_eq_false_iff_not]
  exact ⟨trivial, trivial, fun e => h.2.2 ((cls_eq h.1 h.2.1).mp e)⟩
/-- the law's list has the same members -/
theorem lex_mem {fo : Fo} {ma : Ma} {l w : List Nat} (hw : ∀ p ∈ fo, 1 ≤ p.2.length ∧ p.2.length ≤ 3) : w ∈ lex fo ma l ↔ w ∈ byF fo l ++ byM ma l := by
  unfold lex
  rw [List.mem_flatMap, List.mem_append]
  unfold byF byM
  rw [List.mem_flatMap, List.mem_flatMap]
  constructor
  · rintro ⟨i, hi, h⟩
    have hil := List.mem_range.mp hi
    unfold lexI at h
    obtain ⟨m, hm, h⟩ := List.mem_flatMap.mp h
    unfold lexAt at h
    rcases List.mem_append.mp h with h | h
    · unfold lex1 at h
      by_cases e : m = 1
      · subst e
        rw [if_pos rfl] at h
        exact .inl ⟨i, hi, by unfold byFat; exact List.mem_append_left _ h⟩
      · rw [if_neg e] at h; cases h
    · rcases List.mem_append.mp h with h | h
      · unfold lex2 at h
        by_cases e : (piece l i m).length = m
        · rw [if_pos e] at h
          obtain ⟨c, hc, rfl⟩ := List.mem_map.mp h
          obtain ⟨p, hp, rfl⟩ := List.mem_map.mp hc
          obtain ⟨h1, h2⟩ := List.mem_filter.mp hp
          have h2 : p.2 = piece l i m := of_decide_eq_true h2
          have hl : p.2.length = m := by rw [h2]; exact e
          refine .inl ⟨i, hi, ?_⟩
          unfold byFat
          refine List.mem_append_right _ (List.mem_map.mpr ⟨p, List.mem_filter.mpr ⟨h1, decide_eq_true ?_⟩, by rw [hl]⟩)
          rw [hl]; exact h2.symm
        · rw [if_neg e] at h; cases h
      · unfold lex3 at h
        by_cases e : cond3 ma l i m = true
        · rw [if_pos e] at h
          obtain ⟨rfl, hi2, ht⟩ := cond3_two e
          refine .inr ⟨i, List.mem_range.mpr (by omega), ?_⟩
          unfold byMat
          rw [if_pos ht]
          rw [piece2 hi2] at h
          exact h
        · rw [if_neg e] at h; cases h
  · rintro (⟨i, hi, h⟩ | ⟨i, hi, h⟩)
    · have hil := List.mem_range.mp hi
      unfold byFat at h
      rcases List.mem_append.mp h with h | h
      · refine ⟨i, hi, List.mem_flatMap.mpr ⟨1, by simp, ?_⟩⟩
        unfold lexAt lex1
        rw [if_pos rfl]
        exact List.mem_append_left _ h
      · obtain ⟨p, hp, rfl⟩ := List.mem_map.mp h
        obtain ⟨h1, h2⟩ := List.mem_filter.mp hp
        have h2 : (l.drop i).take p.2.length = p.2 := of_decide_eq_true h2
        have hl := hw p h1
        refine ⟨i, hi, List.mem_flatMap.mpr ⟨p.2.length, ?_, ?_⟩⟩
        · have : p.2.length = 1 ∨ p.2.length = 2 ∨ p.2.length = 3 := by omega
          simpa using this
        · unfold lexAt
          refine List.mem_append_right _ (List.mem_append_left _ ?_)
          unfold lex2
          have e : piece l i p.2.length = p.2 := h2
          rw [e, if_pos rfl]
          exact List.mem_map.mpr ⟨p.1, List.mem_map.mpr ⟨p, List.mem_filter.mpr ⟨h1, decide_eq_true rfl⟩, rfl⟩, rfl⟩
    · have hil := List.mem_range.mp hi
      unfold byMat at h
      by_cases t : two ma (l.getD i 0) (l.getD (i + 1) 0) = true
      · rw [if_pos t] at h
        refine ⟨i, List.mem_range.mpr (by omega), List.mem_flatMap.mpr ⟨2, by simp, ?_⟩⟩
        unfold lexAt
        refine List.mem_append_right _ (List.mem_append_right _ ?_)
        unfold lex3
        rw [if_pos (two_cond3 (by omega) t), piece2 (by omega)]
        exact h
      · rw [if_neg t] at h; cases h
theorem lex_exs {fo : Fo} {ma : Ma} {l : List Nat} (hw : ∀ p ∈ fo, 1 ≤ p.2.length ∧ p.2.length ≤ 3) : setT (lex fo ma l) = exs fo ma l := setT_congr fun w => lex_mem hw
section
variable {K : PySem.W.Frag} {F H : Hp} {σ : L2.St} {te : TE} {r : List Sl} {DE : Ends} {tz : TS}
/-- an if, its two ways joined -/
theorem q_ifJ {tt : TT} {tu tw : TS} {b : Bool} (J : L2.St → Hp → Hp → Prop) (S : Same F H) (h : EvT K tt σ F b) (h1 : b = true → ∀ F' H' (N : L2.St → Hp → Prop), Ext [] F H F' H' → (∀ σ3 F3 H3, J σ3 F3 H3 → N σ3 H3) → tu { DE with nx := N } σ H')
    (h2 : b = false → ∀ F' H' (N : L2.St → Hp → Prop), Ext [] F H F' H' → (∀ σ3 F3 H3, J σ3 F3 H3 → N σ3 H3) → tw { DE with nx := N } σ H') (k : ∀ σ3 F3 H3, J σ3 F3 H3 → tz DE σ3 H3) : tSeq (tIfS tt tu tw) tz DE σ H :=
  h H S _ fun F' H' x => by
    cases b with
    | true => exact h1 rfl F' H' (tz DE) x k
    | false => exact h2 rfl F' H' (tz DE) x k
end
end Nm

set_option Elab.async false
set_option linter.all false
set_option maxRecDepth 100000
set_option maxHeartbeats 1000000
namespace Nm
open PySem PySem.Spec L2
theorem setT_eq {ws ys : List (List Nat)} (h1 : (ys.map mkS).Pairwise leS) (h2 : ys.Nodup) (h3 : ∀ w ∈ ys, w ∈ ws) (h4 : ∀ w ∈ ws, w ∈ ys) : setT ws = ys := by
  have nd : (ys.map mkS).Nodup := List.pairwise_map.mpr (h2.imp fun h e => h (mkS_inj e))
  have e : setS (ws.map mkS) = ys.map mkS := by
    refine sort_unique (nodup_perm (setS_nodup _) nd fun z => ?_) (sortS_pair _) h1
    rw [setS_mem, List.mem_map, List.mem_map]
    exact ⟨fun ⟨w, hw, e⟩ => ⟨w, h4 w hw, e⟩, fun ⟨w, hw, e⟩ => ⟨w, h3 w hw, e⟩⟩
  unfold setT
  rw [e, List.map_map]
  exact List.map_id'' (fun w => by simp [mkS]) _
theorem txts_ok : ∀ {ws : List (List Nat)}, (∀ w ∈ ws, ∀ c ∈ w, c < 1114112) → txtDL (ws.map txt) = true ∧ dpL (ws.map txt) = 0
  | [], _ => by simp only [List.map_nil, txtDL, dpL]; exact ⟨trivial, trivial⟩
  | w :: ws, h => by
    obtain ⟨h1, h2⟩ := txts_ok (ws := ws) fun v hv => h v (List.mem_cons_of_mem _ hv)
    have e : txtD (txt w) = true := by
      unfold txt
      simp only [txtD]
      exact strOk_of (h w List.mem_cons_self)
    have e2 : dp (txt w) = 0 := by unfold txt; simp only [dp]
    rw [List.map_cons, txtDL_cons, dpL_cons, h1, h2, e, e2]
    exact ⟨rfl, rfl⟩
theorem txts_lst {ws : List (List Nat)} (h : ∀ w ∈ ws, ∀ c ∈ w, c < 1114112) : txtD (.lst (ws.map txt)) = true ∧ dp (.lst (ws.map txt)) = 1 := by
  obtain ⟨h1, h2⟩ := txts_ok h
  simp only [txtD, dp, h1, h2]
  exact ⟨trivial, trivial⟩
theorem cutD_mem {ds : List D} {lo hi : Option Int} {d : D} (h : d ∈ cutD ds lo hi) : d ∈ ds := List.mem_of_mem_drop (List.mem_of_mem_take h)
section
variable {K : PySem.W.Frag} {F H : Hp} {σ : L2.St} {ta tb te ti : TE} {d e : D} {r : List Sl} {b : Addr} {n c i j : Nat} {R : D → Prop} {DE : Ends} {tz : TS}
theorem rv_mul_txt {w : List Nat} {n : Nat} (h1 : n ≤ 1000000) (h2 : w.length * n ≤ 16777216) : RvD K (rMulA K) (txt w) (.int (n : Nat)) (txt (List.replicate n w).flatten) := fun F H x y s hx hy Q q => by
  cases hx; cases hy
  refine .inr (.inl ⟨_, _, rfl, rfl, by omega, by omega, by rw [txt_len, Int.toNat_natCast, sizeLine_eq]; exact h2, ?_⟩)
  rw [Int.toNat_natCast]
  exact q _ F H (Ext.refl s) (.str _)
theorem mem_any {w : List Nat} : ∀ ws : List (List Nat), inV (tv w) (ws.map tv) = decide (w ∈ ws)
  | [] => rfl
  | v :: ws => by
    have ih := mem_any (w := w) ws
    unfold inV at ih ⊢
    rw [List.map_cons, List.any_cons, ih]
    have e : eqV (tv v) (tv w) = decide (w = v) := by
      show (mkS v == mkS w) = _
      by_cases h : w = v
      · subst h; simp
      · rw [decide_eq_false h]
        exact beq_eq_false_iff_ne.mpr fun e => h (mkS_inj e).symm
    rw [e]
    by_cases h : w = v
    · simp [h]
    · simp [h]
theorem flat_tv (ws : List (List Nat)) : (ws.map tv).all flatV = true := by
  rw [List.all_map]
  exact List.all_eq_true.mpr fun _ _ => rfl
theorem rv_notin_txts {w : List Nat} {ws : List (List Nat)} : RvD K (rNotInA K) (txt w) (.lst (ws.map txt)) (.bl (!decide (w ∈ ws))) := fun F H x y s hx hy Q q => by
  cases hx
  cases hy with
  | lst a l =>
    rw [denL_txts l] at a
    refine .inr (.inl ⟨_, _, rfl, .inl (SqL.of (s _ _ a)), rfl, flat_tv ws, ?_⟩)
    have := mem_any (w := w) ws
    show Q (.bl (!inV (tv w) (ws.map tv))) H
    rw [this]
    exact q _ F H (Ext.refl s) (.bl _)
theorem rv_in_txts {w : List Nat} {ws : List (List Nat)} : RvD K (rInA K) (txt w) (.lst (ws.map txt)) (.bl (decide (w ∈ ws))) := fun F H x y s hx hy Q q => by
  cases hx
  cases hy with
  | lst a l =>
    rw [denL_txts l] at a
    refine .inr (.inl ⟨_, _, rfl, .inl (SqL.of (s _ _ a)), rfl, flat_tv ws, ?_⟩)
    have := mem_any (w := w) ws
    show Q (.bl (inV (tv w) (ws.map tv))) H
    rw [this]
    exact q _ F H (Ext.refl s) (.bl _)
/-- a drawn text, cut -/
theorem eb_takeT {N : Nat} {P : List Nat → Prop} (h : EvB K b c te σ F (fun d => ∃ w, d = txt w ∧ P w ∧ w.length ≤ 16777216)) (hi : EvD K ti σ F (.int (N : Nat))) : EvB K b c (L2.tSl (rSlAny K) te tNo (tSome ti)) σ F (fun d => ∃ w, d = txt (w.take N) ∧ P w) := fun H n s w Q q =>
  h H n s w _ fun v d F1 H1 x1 w1 ⟨wd, e, hp, hz⟩ dv => by
    subst e
    have one : EvD K (fun _ H2 R => R v H2) σ F1 (txt wd) := fun H2 s2 R2 q2 => q2 v F1 H2 (Ext.refl s2) dv
    have := ev_takeT one (hi.up x1.f) hz H1 x1.s Q fun u F2 H2 x2 du => q u _ F2 H2 (x1.tl x2) (w1.ext0 x2) ⟨wd, rfl, hp⟩ du
    exact this
theorem ev_disp2 {x y : Str} {v u : V} (hd : ∀ F, Den K F v d) (he : ∀ F, Den K F u e) (hm : mergeK [] [((.inr x : Key), v), (.inr y, u)] = [(.inr x, v), (.inr y, u)]) : EvD K (tLk (tDisp [(tC (.str x), tC v), (tC (.str y), tC u)])) σ F (.dic [(.inr x, d), (.inr y, e)]) := fun H s Q q p hp => by
  refine ⟨upd_same, [(.inr x, v), (.inr y, u)], rfl, by simp, .inr ⟨p, _, rfl, upd_same, trivial, fun od => ?_⟩⟩
  rw [upd_upd, upd_upd, hm]
  exact q _ _ _ (Ext.new s hp) (.dic upd_same (.cons (hd _) (.cons (he _) .nil)))
end
end Nm

set_option Elab.async false
set_option linter.all false
set_option maxRecDepth 100000
set_option maxHeartbeats 1000000
/-! Ways made of single exchanges, in plain words. -/
namespace Nm
open PySem PySem.Spec L2
/-- each leads to the next -/
def isW (R : List Nat → List Nat → Prop) : List (List Nat) → Prop
  | [] => True
  | [_] => True
  | a :: b :: r => R a b ∧ isW R (b :: r)
theorem isW_cons {R : List Nat → List Nat → Prop} {a b : List Nat} {r : List (List Nat)} (h : R a b) (t : isW R (b :: r)) : isW R (a :: b :: r) := ⟨h, t⟩
theorem isW_app {R : List Nat → List Nat → Prop} {m : List Nat} {ys : List (List Nat)} : ∀ {xs : List (List Nat)}, isW R (xs ++ [m]) → isW R (m :: ys) → isW R (xs ++ m :: ys)
  | [], _, h => h
  | [a], h, t => ⟨h.1, t⟩
  | a :: b :: r, h, t => ⟨h.1, isW_app (xs := b :: r) h.2 t⟩
theorem isW_snoc {R : List Nat → List Nat → Prop} {a b : List Nat} {xs : List (List Nat)} (h : isW R (xs ++ [a])) (t : R a b) : isW R (xs ++ [a] ++ [b]) := by
  rw [List.append_assoc]
  exact isW_app h ⟨t, trivial⟩
theorem isW_rev {R : List Nat → List Nat → Prop} (sym : ∀ a b, R a b → R b a) : ∀ {ws : List (List Nat)}, isW R ws → isW R ws.reverse
  | [], _ => trivial
  | [a], _ => trivial
  | a :: b :: r, h => by
    have ih := isW_rev sym (ws := b :: r) h.2
    rw [List.reverse_cons] at ih ⊢
    rw [List.reverse_cons]
    exact isW_snoc ih (sym _ _ h.1)
theorem isW_get {R : List Nat → List Nat → Prop} : ∀ {ws : List (List Nat)} {i : Nat} {a b : List Nat}, isW R ws → ws[i]? = some a → ws[i + 1]? = some b → R a b
  | [], _, _, _, _, h, _ => by simp at h
  | [_], i, _, _, _, _, h => by cases i <;> simp at h
  | a :: b :: r, 0, x, y, h, h1, h2 => by
    simp at h1 h2
    rw [← h1, ← h2]; exact h.1
  | a :: b :: r, i + 1, x, y, h, h1, h2 => isW_get (i := i) h.2 (by simpa using h1) (by simpa using h2)
def lastL (d : List Nat) (ws : List (List Nat)) : List Nat := ws.getLastD d
/-! ### folding, from the left -/
def fw (fo : Fo) : List Nat → List Nat → List (List Nat)
  | _, [] => []
  | pre, c :: rest => match lk fo c with
    | some w => (pre ++ w ++ rest) :: fw fo (pre ++ w) rest
    | none => fw fo (pre ++ [c]) rest
theorem fw_len (fo : Fo) : ∀ (rest pre : List Nat), (fw fo pre rest).length ≤ rest.length
  | [], _ => Nat.le_refl _
  | c :: rest, pre => by
    unfold fw
    cases lk fo c with
    | none => have := fw_len fo rest (pre ++ [c]); simp only [List.length_cons]; omega
    | some w => have := fw_len fo rest (pre ++ w); simp only [List.length_cons]; omega
theorem fw_isW (fo : Fo) (ma : Ma) : ∀ (rest pre : List Nat), isW (Ex1 fo ma) ((pre ++ rest) :: fw fo pre rest)
  | [], _ => trivial
  | c :: rest, pre => by
    unfold fw
    cases h : lk fo c with
    | none =>
      have := fw_isW fo ma rest (pre ++ [c])
      rw [List.append_assoc] at this
      exact this
    | some w =>
      refine isW_cons ?_ (fw_isW fo ma rest (pre ++ w))
      rw [List.append_assoc]
      exact .fold pre rest h
theorem fw_last (fo : Fo) : ∀ (rest pre : List Nat), ((pre ++ rest) :: fw fo pre rest).getLast? = some (pre ++ folded fo rest)
  | [], pre => by simp [fw, folded]
  | c :: rest, pre => by
    unfold fw
    rw [folded_cons]
    cases h : lk fo c with
    | none =>
      have := fw_last fo rest (pre ++ [c])
      rw [foldS_none h]
      rw [List.append_assoc, List.append_assoc] at this
      exact this
    | some w =>
      have := fw_last fo rest (pre ++ w)
      rw [foldS_some h, List.getLast?_cons_cons]
      rw [← List.append_assoc]
      exact this
/-! ### ordering, the first two that are wrong -/
def fst1 (ma : Ma) : List Nat → Option (List Nat)
  | a :: b :: r => if wrong ma a b then some (b :: a :: r) else (fst1 ma (b :: r)).map (a :: ·)
  | _ => none
theorem fst1_none {ma : Ma} : ∀ {l : List Nat}, fst1 ma l = none → calmL ma l = true
  | [], _ => rfl
  | [_], _ => rfl
  | a :: b :: r, h => by
    unfold fst1 at h
    by_cases w : wrong ma a b = true
    · rw [if_pos w] at h; cases h
    · rw [if_neg w] at h
      have := fst1_none (l := b :: r) (Option.map_eq_none_iff.mp h)
      simp only [calmL, Bool.and_eq_true]
      exact ⟨by simpa using w, this⟩
theorem fst1_some {ma : Ma} : ∀ {l l' : List Nat}, fst1 ma l = some l' → ∃ x a b y, l = x ++ a :: b :: y ∧ l' = x ++ b :: a :: y ∧ wrong ma a b = true
  | [], _, h => by cases h
  | [_], _, h => by cases h
  | a :: b :: r, l', h => by
    unfold fst1 at h
    by_cases w : wrong ma a b = true
    · rw [if_pos w] at h
      cases h
      exact ⟨[], a, b, r, rfl, rfl, w⟩
    · rw [if_neg w] at h
      obtain ⟨l1, h1, rfl⟩ := Option.map_eq_some_iff.mp h
      obtain ⟨x, c, d, y, e1, e2, e3⟩ := fst1_some h1
      exact ⟨a :: x, c, d, y, by rw [e1]; rfl, by rw [e2]; rfl, e3⟩
theorem fst1_calm {ma : Ma} : ∀ {l : List Nat}, calmL ma l = true → fst1 ma l = none
  | [], _ => rfl
  | [_], _ => rfl
  | a :: b :: r, h => by
    simp only [calmL, Bool.and_eq_true] at h
    unfold fst1
    rw [if_neg (by simpa using h.1), fst1_calm (l := b :: r) h.2]
    rfl
theorem fst1_at {ma : Ma} : ∀ {i : Nat} {l : List Nat}, i + 1 < l.length → (∀ j, j < i → wrong ma (l.getD j 0) (l.getD (j + 1) 0) = false) → wrong ma (l.getD i 0) (l.getD (i + 1) 0) = true → fst1 ma l = some (put l i 2 [l.getD (i + 1) 0, l.getD i 0])
  | 0, a :: b :: r, _, _, h => by
    have h : wrong ma a b = true := h
    unfold fst1
    rw [if_pos h]
    rfl
  | i + 1, a :: b :: r, hl, hb, h => by
    have h0 : wrong ma a b = false := hb 0 (by omega)
    have ih := fst1_at (ma := ma) (i := i) (l := b :: r) (by simpa using hl) (fun j hj => by simpa using hb (j + 1) (by omega)) (by simpa using h)
    unfold fst1
    rw [if_neg (by rw [h0]; decide), ih]
    rfl
  | 0, [], h, _, _ => by simp at h
  | 0, [_], h, _, _ => by simp at h
  | i + 1, [], h, _, _ => by simp at h
  | i + 1, [_], h, _, _ => by simp at h
theorem wrong_two {ma : Ma} {a b : Nat} (h : wrong ma a b = true) : two ma a b = true := by
  obtain ⟨h1, h2, h3⟩ := wrong_ne h
  unfold two
  rw [h1, h2]
  simpa using h3
def ow (ma : Ma) : Nat → List Nat → List (List Nat)
  | 0, _ => []
  | n + 1, l => match fst1 ma l with
    | some l' => l' :: ow ma n l'
    | none => []
theorem ow_len (ma : Ma) : ∀ (n : Nat) (l : List Nat), (ow ma n l).length ≤ n
  | 0, _ => Nat.le_refl _
  | n + 1, l => by
    unfold ow
    cases fst1 ma l with
    | none => exact Nat.zero_le _
    | some l' => have := ow_len ma n l'; simp only [List.length_cons]; omega
theorem inv_fst {ma : Ma} {l l' : List Nat} (h : fst1 ma l = some l') : inv ma l' + 1 = inv ma l := by
  obtain ⟨x, a, b, y, rfl, rfl, w⟩ := fst1_some h
  exact inv_swap w (wrong_anti w) y x
theorem runs_fst {ma : Ma} {l l' : List Nat} (h : fst1 ma l = some l') : runs ma [] l' = runs ma [] l := by
  obtain ⟨x, a, b, y, rfl, rfl, w⟩ := fst1_some h
  obtain ⟨h1, h2, h3⟩ := wrong_ne w
  exact (runs_swap h1 h2 h3 y x []).symm
theorem ex1_fst {fo : Fo} {ma : Ma} {l l' : List Nat} (h : fst1 ma l = some l') : Ex1 fo ma l l' := by
  obtain ⟨x, a, b, y, rfl, rfl, w⟩ := fst1_some h
  exact .swap x y (wrong_two w)
theorem ow_isW (fo : Fo) (ma : Ma) : ∀ (n : Nat) (l : List Nat), isW (Ex1 fo ma) (l :: ow ma n l)
  | 0, _ => trivial
  | n + 1, l => by
    unfold ow
    cases h : fst1 ma l with
    | none => trivial
    | some l' => exact isW_cons (ex1_fst h) (ow_isW fo ma n l')
theorem ow_last {ma : Ma} (ok : okMa ma) : ∀ (n : Nat) (l : List Nat), inv ma l ≤ n → (l :: ow ma n l).getLast? = some (runs ma [] l)
  | 0, l, h => by
    cases e : fst1 ma l with
    | none =>
      have := runs_calm ok l [] (by simp) (fst1_none e)
      rw [this]; simp [ow]
    | some l' => have := inv_fst e; omega
  | n + 1, l, h => by
    unfold ow
    cases e : fst1 ma l with
    | none =>
      have := runs_calm ok l [] (by simp) (fst1_none e)
      rw [this]; simp
    | some l' =>
      have h1 := inv_fst e
      have := ow_last ok n l' (by omega)
      show (l :: l' :: ow ma n l').getLast? = _
      rw [List.getLast?_cons_cons, this, runs_fst e]
theorem inv_le (ma : Ma) : ∀ l : List Nat, inv ma l ≤ l.length * l.length
  | [] => Nat.le_refl _
  | a :: l => by
    have h := inv_le ma l
    have h2 := List.length_filter_le (wrong ma a) l
    simp only [inv, List.length_cons]
    have : (l.length + 1) * (l.length + 1) = l.length * l.length + 2 * l.length + 1 := by rw [Nat.add_mul, Nat.mul_add]; omega
    omega
/-! ### the way to the key, the way from name to name -/
def wayK (fo : Fo) (ma : Ma) (l : List Nat) : List (List Nat) := (l :: fw fo [] l) ++ ow ma (inv ma (folded fo l)) (folded fo l)
theorem app_last {a : List Nat} {xs ys : List (List Nat)} (h : xs.getLast? = some a) : ∃ zs, xs = zs ++ [a] := by
  obtain ⟨zs, rfl⟩ := List.getLast?_eq_some_iff.mp h
  exact ⟨zs, rfl⟩
section
variable {sg : Nat → Bool} {fo : Fo} {ma : Ma}
theorem wayK_split (fo : Fo) (ma : Ma) (l : List Nat) : ∃ zs, l :: fw fo [] l = zs ++ [folded fo l] ∧ wayK fo ma l = zs ++ (folded fo l :: ow ma (inv ma (folded fo l)) (folded fo l)) := by
  have h := fw_last fo l []
  simp only [List.nil_append] at h
  obtain ⟨zs, e⟩ := app_last (ys := []) h
  refine ⟨zs, e, ?_⟩
  unfold wayK
  rw [e, List.append_assoc]
  rfl
theorem wayK_isW (fo : Fo) (ma : Ma) (l : List Nat) : isW (Ex1 fo ma) (wayK fo ma l) := by
  obtain ⟨zs, e1, e2⟩ := wayK_split fo ma l
  rw [e2]
  refine isW_app ?_ (ow_isW fo ma _ _)
  rw [← e1]
  have := fw_isW fo ma l []
  simpa using this
theorem wayK_last (ok : okTab sg fo ma) (l : List Nat) : (wayK fo ma l).getLast? = some (key fo ma l) := by
  obtain ⟨zs, e1, e2⟩ := wayK_split fo ma l
  rw [e2, List.getLast?_append, ow_last ok.okMa _ _ (Nat.le_refl _)]
  rfl
theorem wayK_head (fo : Fo) (ma : Ma) (l : List Nat) : ∃ r, wayK fo ma l = l :: r := ⟨_, rfl⟩
theorem wayK_len (ok : okTab sg fo ma) {l : List Nat} (hl : ∀ c ∈ l, sg c = true) : (wayK fo ma l).length ≤ 1 + l.length + 9 * (l.length * l.length) := by
  unfold wayK
  rw [List.length_append, List.length_cons]
  have h1 := fw_len fo l []
  have h2 := ow_len ma (inv ma (folded fo l)) (folded fo l)
  have h3 := inv_le ma (folded fo l)
  have h4 := (folded_len ok hl).2
  have h5 : (folded fo l).length * (folded fo l).length ≤ (3 * l.length) * (3 * l.length) := Nat.mul_le_mul h4 h4
  have h6 : (3 * l.length) * (3 * l.length) = 9 * (l.length * l.length) := by
    rw [Nat.mul_assoc, Nat.mul_left_comm l.length, ← Nat.mul_assoc, ← Nat.mul_assoc]
  omega
theorem isW_all (ok : okTab sg fo ma) : ∀ {ws : List (List Nat)} {a : List Nat}, isW (Ex1 fo ma) (a :: ws) → (∀ c ∈ a, sg c = true) → 1 ≤ a.length → ∀ w ∈ a :: ws, (∀ c ∈ w, sg c = true) ∧ 1 ≤ w.length ∧ key fo ma w = key fo ma a
  | [], a, _, h1, h2, w, hw => by
    have : w = a := by simpa using hw
    subst this
    exact ⟨h1, h2, rfl⟩
  | b :: ws, a, h, h1, h2, w, hw => by
    rcases List.mem_cons.mp hw with rfl | hw
    · exact ⟨h1, h2, rfl⟩
    · have hb := ex1_sign ok h.1 h1
      have hbl := (ex1_len ok h.1).2 h2
      obtain ⟨g1, g2, g3⟩ := isW_all ok (ws := ws) (a := b) h.2 hb hbl w hw
      exact ⟨g1, g2, g3.trans (ex1_key ok h.1)⟩
/-- each string of a way is at most as long as its key -/
theorem len_key (ok : okTab sg fo ma) {w : List Nat} (h : ∀ c ∈ w, sg c = true) : w.length ≤ (key fo ma w).length := (key_len ok h).1
def findW (fo : Fo) (ma : Ma) (a b : List Nat) : List (List Nat) := wayK fo ma a ++ (wayK fo ma b).reverse.drop 1
theorem findW_ok (ok : okTab sg fo ma) {a b : List Nat} (e : key fo ma a = key fo ma b) : isW (Ex1 fo ma) (findW fo ma a b) ∧ (∃ r, findW fo ma a b = a :: r) ∧ (findW fo ma a b).getLast? = some b := by
  have ha := wayK_last ok a
  have hb := wayK_last ok b
  obtain ⟨za, ea⟩ := app_last (ys := []) ha
  obtain ⟨zb, eb⟩ := app_last (ys := []) hb
  have rb : (wayK fo ma b).reverse = key fo ma b :: zb.reverse := by rw [eb, List.reverse_append]; rfl
  have wb : isW (Ex1 fo ma) (key fo ma b :: zb.reverse) := by
    rw [← rb]
    exact isW_rev (fun x y h => ex1_symm ok h) (wayK_isW fo ma b)
  refine ⟨?_, ⟨_, rfl⟩, ?_⟩
  · unfold findW
    rw [rb, ea, List.append_assoc]
    show isW _ (za ++ (key fo ma a :: zb.reverse))
    refine isW_app ?_ (by rw [e]; exact wb)
    rw [← ea]
    exact wayK_isW fo ma a
  · unfold findW
    rw [rb]
    show (wayK fo ma a ++ zb.reverse).getLast? = some b
    rw [List.getLast?_append]
    obtain ⟨r, er⟩ := wayK_head fo ma b
    cases zb with
    | nil =>
      rw [er] at eb
      have e1 : b = key fo ma b := by
        have := congrArg List.head? eb
        simpa using this
      rw [ha, e, ← e1]
      rfl
    | cons z zs =>
      rw [er] at eb
      have e1 : b = z := by
        have := congrArg List.head? eb
        simpa using this
      rw [List.getLast?_reverse, ← e1]
      rfl
theorem findW_len (ok : okTab sg fo ma) {a b : List Nat} (ha : ∀ c ∈ a, sg c = true) (hb : ∀ c ∈ b, sg c = true) : (findW fo ma a b).length ≤ 2 + a.length + b.length + 9 * (a.length * a.length) + 9 * (b.length * b.length) := by
  unfold findW
  rw [List.length_append, List.length_drop, List.length_reverse]
  have h1 := wayK_len ok ha
  have h2 := wayK_len ok hb
  omega
end
/-! ### the first index at which two differ -/
def fdiff : List Nat → List Nat → Nat
  | a :: as, b :: bs => if a = b then fdiff as bs + 1 else 0
  | _, _ => 0
theorem fdiff_le : ∀ (a b : List Nat), fdiff a b ≤ a.length
  | [], _ => Nat.le_refl _
  | _ :: _, [] => Nat.zero_le _
  | a :: as, b :: bs => by
    unfold fdiff
    split
    · have := fdiff_le as bs; simp only [List.length_cons]; omega
    · exact Nat.zero_le _
theorem fdiff_lt : ∀ (a b : List Nat) (i : Nat), i < fdiff a b → (a.drop i).take 1 = (b.drop i).take 1 ∧ ∃ c, (a.drop i).take 1 = [c]
  | [], _, i, h => by simp [fdiff] at h
  | _ :: _, [], i, h => by simp [fdiff] at h
  | a :: as, b :: bs, i, h => by
    unfold fdiff at h
    by_cases e : a = b
    · rw [if_pos e] at h
      cases i with
      | zero => subst e; exact ⟨rfl, a, rfl⟩
      | succ i => exact fdiff_lt as bs i (by omega)
    · rw [if_neg e] at h; omega
theorem fdiff_at : ∀ (a b : List Nat), a ≠ b → (a.drop (fdiff a b)).take 1 ≠ (b.drop (fdiff a b)).take 1
  | [], [], h => absurd rfl h
  | [], b :: bs, _ => by simp [fdiff]
  | a :: as, [], _ => by simp [fdiff]
  | a :: as, b :: bs, h => by
    unfold fdiff
    by_cases e : a = b
    · rw [if_pos e]
      subst e
      have := fdiff_at as bs fun z => h (by rw [z])
      simpa using this
    · rw [if_neg e]
      simpa using e
end Nm

set_option Elab.async false
set_option linter.all false
set_option maxRecDepth 100000
set_option maxHeartbeats 1000000
namespace Nm
open PySem PySem.Spec L2
section
variable {K : PySem.W.Frag} {F H : Hp} {σ : L2.St} {ta tb te ti : TE} {d e : D} {r : List Sl} {DE : Ends} {tz : TS} {p : Addr} {i j : Nat}
/-- behind a turn of a while -/
def WN (K : PySem.W.Frag) (M : List Addr) (F H : Hp) (Pv : Nat → Hp → Hp → List Sl → Prop) (n : Nat) : L2.St → Hp → Prop := fun σ3 H3 => ∃ n' F3 r3, n' < n ∧ Ext M F H F3 H3 ∧ EnvD K F3 r3 σ3 ∧ Pv n' F3 H3 r3
theorem s_while {c : TT} {tb : TS} (M : List Addr) (Pv : Nat → Hp → Hp → List Sl → Prop) (S : Same F H) (E : EnvD K F r σ) (n0 : Nat) (h0 : Pv n0 F H r)
    (hs : ∀ n F1 H1 r1 σ1 (Qw : Bool → Hp → Prop), Ext M F H F1 H1 → EnvD K F1 r1 σ1 → Pv n F1 H1 r1 → (∀ H2, tb { DE with nx := WN K M F H Pv n, ct := WN K M F H Pv n, bk := DE.nx } σ1 H2 → Qw true H2) → (∀ H2, DE.nx σ1 H2 → Qw false H2) → c σ1 H1 Qw) : tWhile c tb DE σ H := by
  refine ⟨fun m σ' H' => ∃ F' r', Ext M F H F' H' ∧ EnvD K F' r' σ' ∧ Pv m F' H' r', ⟨n0, F, r, Ext.refl S, E, h0⟩, ?_⟩
  rintro m σ' H' ⟨F', r', x, E', pv⟩
  refine hs m F' H' r' σ' _ x E' pv (fun H2 h => ?_) (fun H2 h => ?_)
  · rw [if_pos rfl]
    exact ⟨WN K M F H Pv m, fun σ3 H3 ⟨n', F3, r3, lt, x3, E3, p3⟩ => ⟨n', lt, F3, r3, x3, E3, p3⟩, h⟩
  · rw [if_neg (by decide)]
    exact h
theorem q_while {c : TT} {tb : TS} (M : List Addr) (Pv : Nat → Hp → Hp → List Sl → Prop) (S : Same F H) (E : EnvD K F r σ) (n0 : Nat) (h0 : Pv n0 F H r)
    (hs : ∀ n F1 H1 r1 σ1 (Qw : Bool → Hp → Prop), Ext M F H F1 H1 → EnvD K F1 r1 σ1 → Pv n F1 H1 r1 → (∀ H2, tb { DE with nx := WN K M F H Pv n, ct := WN K M F H Pv n, bk := tz DE } σ1 H2 → Qw true H2) → (∀ H2, tz DE σ1 H2 → Qw false H2) → c σ1 H1 Qw) : tSeq (tWhile c tb) tz DE σ H := s_while (DE := { DE with nx := tz DE }) M Pv S E n0 h0 hs
/-- a text made of what stands in a list of one's own -/
theorem ed_lendT {ws : List (List Nat)} {z : List Nat} (S : Same F H) (E : EnvD K F r σ) (hi : r[i]? = some (.v (.ref p))) (w : Own F H p (.lst (ws.map tv))) (h : ∀ F', Same F F' → EnvD K F' (r.set i (.d (.lst (ws.map txt)))) σ → EvD K te σ F' (txt z))
    {Q : VK} (k : ∀ F' H', Ext [] F H F' H' → Own F' H' p (.lst (ws.map tv)) → Q (tv z) H') : te σ H Q := by
  have g : Same F (upd F p (.lst (ws.map tv))) := same_new w.f
  refine h _ g ((E.up g).seeV hi (.lst upd_same (DenL.txts ws))) H (lend w S) Q fun v F1 H1 x dv => ?_
  obtain ⟨h1, h2⟩ := Ext.thaw w S x
  cases dv
  exact k _ _ h1 h2
theorem q_asgLT {ws : List (List Nat)} {z : List Nat} (S : Same F H) (E : EnvD K F r σ) (hi : r[i]? = some (.v (.ref p))) (w : Own F H p (.lst (ws.map tv))) (h : ∀ F', Same F F' → EnvD K F' (r.set i (.d (.lst (ws.map txt)))) σ → EvD K te σ F' (txt z))
    (k : ∀ F' H' σ', Ext [] F H F' H' → Own F' H' p (.lst (ws.map tv)) → EnvD K F' (r.set j (.d (txt z))) σ' → tz DE σ' H') : tSeq (tAsg te (gName j)) tz DE σ H :=
  ed_lendT S E hi w h fun F' H' x o => k F' H' _ x o (EnvD.set j (E.up x.f) ⟨tv z, rfl, .str _⟩)
theorem s_appLT {ws : List (List Nat)} {z : List Nat} (S : Same F H) (E : EnvD K F r σ) (hp : r[i]? = some (.v (.ref p))) (w : Own F H p (.lst (ws.map tv))) (h : ∀ F', Same F F' → EnvD K F' (r.set i (.d (.lst (ws.map txt)))) σ → EvD K te σ F' (txt z)) (hz : ws.length < 100000)
    (k : ∀ F' H', Ext [p] F H F' H' → Own F' H' p (.lst ((ws ++ [z]).map tv)) → EnvD K F' r σ → DE.nx σ H') : tDrop (tBM K "list" rAppend (tVar i) (tCons te tNil)) DE σ H := by
  obtain ⟨o, h1, h2⟩ := E.get hp
  have h2 : o = some (.ref p) := h2
  subst h2
  refine ⟨_, h1, .inl ⟨rfl, _, SqL.of w.h⟩, ed_lendT S E hp w h fun F' H' x o => ⟨p, _, _, rfl, rfl, o.h, ?_, ?_⟩⟩
  · rw [List.length_map, sizeLine_eq]; omega
  · refine k F' _ (x.tr (o.set x.s)) ⟨o.f, ?_⟩ (E.up x.f)
    rw [upd_same, List.map_append]
    rfl
theorem q_appLT {ws : List (List Nat)} {z : List Nat} (S : Same F H) (E : EnvD K F r σ) (hp : r[i]? = some (.v (.ref p))) (w : Own F H p (.lst (ws.map tv))) (h : ∀ F', Same F F' → EnvD K F' (r.set i (.d (.lst (ws.map txt)))) σ → EvD K te σ F' (txt z)) (hz : ws.length < 100000)
    (k : ∀ F' H', Ext [p] F H F' H' → Own F' H' p (.lst ((ws ++ [z]).map tv)) → EnvD K F' r σ → tz DE σ H') : tSeq (tDrop (tBM K "list" rAppend (tVar i) (tCons te tNil))) tz DE σ H := s_appLT (DE := { DE with nx := tz DE }) S E hp w h hz k
/-- xs[-1] -/
theorem ev_neg1 : EvD K (tUn (rU fun i => V.int (-i)) (tC (.int 1))) σ F (.int (-1)) := ev_un (ev_c (.int 1)) ru_neg
theorem atI_neg1 {α : Type} {l : List α} {a : α} (h : l.getLast? = some a) : atI l (-1) = some a := by
  obtain ⟨zs, rfl⟩ := List.getLast?_eq_some_iff.mp h
  exact atI_last zs a
theorem ev_last {ws : List (List Nat)} {w : List Nat} (h : EvD K te σ F (.lst (ws.map txt))) (e : ws.getLast? = some w) : EvD K (tOp (rIxA K) te (tUn (rU fun i => V.int (-i)) (tC (.int 1)))) σ F (txt w) :=
  ev_op h ev_neg1 (rv_ix_lst (atI_neg1 (by rw [List.getLast?_map, e]; rfl)))
theorem ev_ixT {l : List Nat} {c : Nat} (h : EvD K te σ F (txt l)) (hi : EvD K ti σ F (.int (i : Nat))) (e : l[i]? = some c) (hz : l.length ≤ 16777216) : EvD K (tOp (rIxA K) te ti) σ F (txt [c]) :=
  ev_op h hi (rv_ix_str (by rw [txt_len, sizeLine_eq]; exact hz) (atI_nat e))
/-- x += e, whole numbers -/
theorem s_augN {m n : Nat} (S : Same F H) (E : EnvD K F r σ) (hi : r[i]? = some (.d (.int (m : Nat)))) (h : EvD K te σ F (.int (n : Nat))) (k : ∀ F' H' σ', Ext [] F H F' H' → EnvD K F' (r.set i (.d (.int ((m + n : Nat) : Int)))) σ' → DE.nx σ' H') : tAug i te (ipI fun i j => i + j) DE σ H := by
  obtain ⟨o, h1, v, h2, h3⟩ := E.get hi
  subst h2
  cases h3
  refine ⟨_, h1, h H S _ fun y F' H' x dy => ?_⟩
  cases dy
  refine ⟨_, _, rfl, rfl, k F' H' _ x ?_⟩
  show EnvD K F' _ (σ.set i (some (.int ((m : Int) + (n : Int)))))
  have e : ((m : Int) + (n : Int)) = ((m + n : Nat) : Int) := by omega
  rw [e]
  exact EnvD.set i (E.up x.f) ⟨_, rfl, .int _⟩
/-- xs[1:] of a list -/
theorem ev_tail {ds : List D} (h : EvD K te σ F (.lst ds)) : EvD K (L2.tSl (rSlAny K) te (tSome (tC (.int 1))) tNo) σ F (.lst (ds.drop 1)) := by
  refine ev_is (ev_sl_lst h (eo_some (ev_c (.int 1))) eo_none) ?_
  unfold cutD
  have e1 : HT.sIx ds.length 0 (some (1 : Int)) = min 1 ds.length := HT.sIx_nat _ _ 1
  rw [e1, HT.sIx_none]
  congr 1
  cases ds with
  | nil => rfl
  | cons d ds =>
    simp only [List.length_cons]
    rw [show min 1 (ds.length + 1) = 1 by omega]
    exact List.take_of_length_le (by simp)
/-- is None -/
theorem rv_isN {b : Bool} (hb : (match d with | .non => true | _ => false) = b) : RvD K rIsNone d .non (.bl b) := fun F H x y s hx hy Q q => by
  cases hy
  refine ⟨rfl, ?_⟩
  have : decide (x = V.non) = b := by
    subst hb
    cases hx <;> simp
  rw [this]
  exact q _ F H (Ext.refl s) (.bl _)
end
/-! zip of two lists, by data -/
section
variable {K : PySem.W.Frag} {F H : Hp} {σ : L2.St} {ta : TA}
theorem ei_zip {xs ys : List D} (h : EvA K ta σ F [.lst xs, .lst ys]) : EvI K (iZip K ta) σ F ((List.zip xs ys).map fun p => .tup [p.1, p.2]) := fun H s R q => h H s _ fun vs F1 H1 x1 dl => by
  cases dl with
  | cons a t =>
    cases t with
    | cons b t =>
      cases t
      cases a with
      | lst ra la =>
        cases b with
        | lst rb lb =>
          rename_i pa va pb vb
          refine ⟨_, _, _, _, rfl, SqL.of (x1.s _ _ ra), SqL.of (x1.s _ _ rb), q _ F1 H1 x1 ⟨fun H => SqL K H pa va ∧ SqL K H pb vb, YPair (fun i => va[i]?) (fun i => vb[i]?), ?_, fun H s => ⟨SqL.of (s _ _ ra), SqL.of (s _ _ rb)⟩, fun i H v H' hi s y => ?_⟩⟩
          · refine walk_zip ?_
            rw [List.length_map, List.length_zip, la.length, lb.length]
          · obtain ⟨T, x, y, rfl, h2, rfl, h3, h4⟩ := y
            obtain ⟨dx, e1, g1⟩ := la.getV h3
            obtain ⟨dy, e2, g2⟩ := lb.getV h4
            have y1 := Ext.new (o := .tup [x, y]) s h2
            refine ⟨.tup [dx, dy], _, ?_, y1, .tup (SqT.of upd_same) (.cons (g1.up y1.f) (.cons (g2.up y1.f) .nil))⟩
            rw [List.getElem?_map, List.getElem?_zip_eq_some (z := (dx, dy)) |>.mpr ⟨e1, e2⟩]
            rfl
end
end Nm

set_option Elab.async false
set_option linter.all false
set_option maxRecDepth 100000
set_option maxHeartbeats 1000000
namespace Nm
open PySem PySem.Spec L2
section
variable {K : PySem.W.Frag} {F H : Hp} {σ : L2.St} {ta tb te ti : TE} {d e : D} {r : List Sl} {DE : Ends} {tz : TS} {p q : Addr} {i j k : Nat}
theorem txts_of {F : Hp} : ∀ {ws : List (List Nat)} {xs : List V}, DenL K F xs (ws.map txt) → xs = ws.map tv
  | [], _, h => by cases h; rfl
  | w :: ws, _, h => by
    cases h with
    | cons a t =>
      have := txts_of t
      subst this
      cases a
      rfl
/-- a, b, c = own list, datum, datum -/
theorem q_own3 {ws : List (List Nat)} (S : Same F H) (E : EnvD K F r σ) (h1 : EvL K ta σ F (ws.map txt)) (h2 : EvD K tb σ F d) (h3 : EvD K te σ F e)
    (kk : ∀ p F' H' σ', H p = none → Ext [] F H F' H' → Own F' H' p (.lst (ws.map tv)) → EnvD K F' (((r.set i (.v (.ref p))).set j (.d d)).set k (.d e)) σ' → tz DE σ' H') :
    tSeq (tPar3 i j k (tCons ta (tCons tb (tCons te tNil)))) tz DE σ H :=
  h1 H S _ fun p xs F1 H1 hp x1 o1 l1 => (h2.up x1.f) H1 x1.s _ fun v2 F2 H2 x2 d2 => ((h3.up x1.f).up x2.f) H2 x2.s _ fun v3 F3 H3 x3 d3 => by
    have := txts_of l1
    subst this
    exact ⟨_, _, _, rfl, kk p F3 _ _ hp ((x1.tr x2).tr x3) ((o1.ext0 x2).ext0 x3) (EnvD.set k (EnvD.set j (EnvD.set (s := .v (.ref p)) i (((E.up x1.f).up x2.f).up x3.f) rfl) ⟨_, rfl, d2.up x3.f⟩) ⟨_, rfl, d3⟩)⟩
/-- a, b = own list, datum -/
theorem q_own2 {ws : List (List Nat)} (S : Same F H) (E : EnvD K F r σ) (h1 : EvL K ta σ F (ws.map txt)) (h2 : EvD K tb σ F d)
    (kk : ∀ p F' H' σ', H p = none → Ext [] F H F' H' → Own F' H' p (.lst (ws.map tv)) → EnvD K F' ((r.set i (.v (.ref p))).set j (.d d)) σ' → tz DE σ' H') :
    tSeq (tPar i j (tCons ta (tCons tb tNil))) tz DE σ H :=
  h1 H S _ fun p xs F1 H1 hp x1 o1 l1 => (h2.up x1.f) H1 x1.s _ fun v2 F2 H2 x2 d2 => by
    have := txts_of l1
    subst this
    exact ⟨_, _, rfl, kk p F2 H2 _ hp (x1.tr x2) (o1.ext0 x2) (EnvD.set j (EnvD.set (s := .v (.ref p)) i ((E.up x1.f).up x2.f) rfl) ⟨_, rfl, d2⟩)⟩
/-- a test that looks into a list of texts of one's own, within a while -/
theorem et_lendT {ws : List (List Nat)} {tt : TT} {b : Bool} (S : Same F H) (E : EnvD K F r σ) (hi : r[i]? = some (.v (.ref p))) (w : Own F H p (.lst (ws.map tv))) (h : ∀ F', Same F F' → EnvD K F' (r.set i (.d (.lst (ws.map txt)))) σ → EvT K tt σ F' b)
    {Q : Bool → Hp → Prop} (k : ∀ F' H', Ext [] F H F' H' → Own F' H' p (.lst (ws.map tv)) → EnvD K F' r σ → Q b H') : tt σ H Q :=
  et_lend S E hi w (DenL.txts ws) h fun F' H' x o => k F' H' x o (E.up x.f)
/-- two lists of one's own are lent at once -/
theorem lend2 {o u : HO} (S : Same F H) (w1 : Own F H p o) (w2 : Own F H q u) (ne : p ≠ q) : Same F (upd (upd F p o) q u) ∧ Same (upd (upd F p o) q u) H ∧ ∀ F1 H1, Ext [] (upd (upd F p o) q u) H F1 H1 → ∃ F', Ext [] F H F' H1 ∧ Own F' H1 p o ∧ Own F' H1 q u := by
  have w2' : Own (upd F p o) H q u := ⟨by rw [upd_ne ne.symm]; exact w2.f, w2.h⟩
  have s1 := lend w1 S
  refine ⟨(same_new w1.f).trans (same_new w2'.f), lend w2' s1, fun F1 H1 x => ?_⟩
  obtain ⟨y1, o2⟩ := Ext.thaw w2' s1 x
  obtain ⟨y2, o1⟩ := Ext.thaw w1 S y1
  refine ⟨_, y2, o1, ⟨?_, o2.h⟩⟩
  rw [del_ne ne.symm]
  exact o2.f
theorem q_skip2 {o u : HO} {tt : TT} {tq : TS} (S : Same F H) (E : EnvD K F r σ) (w1 : Own F H p o) (w2 : Own F H q u) (ne : p ≠ q)
    (h : ∀ F', Same F F' → F' p = some o → F' q = some u → EvT K tt σ F' false)
    (k : ∀ F' H', Ext [] F H F' H' → Own F' H' p o → Own F' H' q u → EnvD K F' r σ → tz DE σ H') : tSeq (tIfS tt tq tNext) tz DE σ H := by
  obtain ⟨g1, g2, g3⟩ := lend2 S w1 w2 ne
  refine h _ g1 (by rw [upd_ne ne]; exact upd_same) upd_same H g2 _ fun F1 H1 x => ?_
  obtain ⟨F', x1, o1, o2⟩ := g3 F1 H1 x
  rw [if_neg (by decide)]
  exact k F' H1 x1 o1 o2 (E.up x1.f)
theorem q_asgT2 {o u : HO} {z : Str} (S : Same F H) (E : EnvD K F r σ) (w1 : Own F H p o) (w2 : Own F H q u) (ne : p ≠ q)
    (h : ∀ F', Same F F' → F' p = some o → F' q = some u → EvD K te σ F' (.str z))
    (k : ∀ F' H' σ', Ext [] F H F' H' → Own F' H' p o → Own F' H' q u → EnvD K F' (r.set i (.d (.str z))) σ' → tz DE σ' H') : tSeq (tAsg te (gName i)) tz DE σ H := by
  obtain ⟨g1, g2, g3⟩ := lend2 S w1 w2 ne
  refine h _ g1 (by rw [upd_ne ne]; exact upd_same) upd_same H g2 _ fun v F1 H1 x dv => ?_
  obtain ⟨F', x1, o1, o2⟩ := g3 F1 H1 x
  cases dv
  exact k F' H1 _ x1 o1 o2 (EnvD.set i (E.up x1.f) ⟨_, rfl, .str _⟩)
end
theorem fst1_len {ma : Ma} {l l' : List Nat} (h : fst1 ma l = some l') : l'.length = l.length := by
  obtain ⟨x, a, b, y, rfl, rfl, w⟩ := fst1_some h
  simp
theorem fst1_no {ma : Ma} : ∀ {l : List Nat}, (∀ j, j < l.length - 1 → wrong ma (l.getD j 0) (l.getD (j + 1) 0) = false) → fst1 ma l = none
  | [], _ => rfl
  | [_], _ => rfl
  | a :: b :: r, h => by
    have h0 : wrong ma a b = false := h 0 (by simp)
    have ih := fst1_no (ma := ma) (l := b :: r) fun j hj => by
      have := h (j + 1) (by simp only [List.length_cons] at hj ⊢; omega)
      simpa using this
    unfold fst1
    rw [if_neg (by rw [h0]; decide), ih]
    rfl
theorem fst1_runs {ma : Ma} (ok : okMa ma) : ∀ (n : Nat) (l : List Nat), inv ma l ≤ n → fst1 ma (runs ma [] l) = none := by
  intro n
  induction n with
  | zero =>
    intro l h
    cases e : fst1 ma l with
    | none =>
      have := runs_calm ok l [] (by simp) (fst1_none e)
      rw [this]; exact e
    | some l' => have := inv_fst e; omega
  | succ n ih =>
    intro l h
    cases e : fst1 ma l with
    | none =>
      have := runs_calm ok l [] (by simp) (fst1_none e)
      rw [this]; exact e
    | some l' =>
      have := inv_fst e
      rw [← runs_fst e]
      exact ih l' (by omega)
section
variable {K : PySem.W.Frag}
theorem eqv_nil (ds : List D) : PyData.eqv (toPy (.lst ds)) (toPy (.lst [])) = ds.isEmpty := by
  cases ds <;> simp [toPy, toPyL, PyData.eqv, PyData.eqvAll]
theorem rv_eq_nil {ds : List D} (h : txtD (.lst ds) = true) (h1 : dp (.lst ds) ≤ 64) : RvD K (rEqA K) (.lst ds) (.lst []) (.bl ds.isEmpty) := fun F H x y s hx hy Q q => by
  refine .inr ⟨_, _, den_dp s _ hx (plain_of _ h), den_dp s _ hy (plain_of (.lst []) rfl), shaped_of h h1, shaped_of (d := .lst []) rfl (by decide), ?_⟩
  rw [eqv_nil]
  exact q _ F H (Ext.refl s) (.bl _)
theorem rv_ne_nil {ds : List D} (h : txtD (.lst ds) = true) (h1 : dp (.lst ds) ≤ 64) : RvD K (rNeA K) (.lst ds) (.lst []) (.bl (!ds.isEmpty)) := fun F H x y s hx hy Q q => by
  refine .inr ⟨_, _, den_dp s _ hx (plain_of _ h), den_dp s _ hy (plain_of (.lst []) rfl), shaped_of h h1, shaped_of (d := .lst []) rfl (by decide), ?_⟩
  rw [eqv_nil]
  exact q _ F H (Ext.refl s) (.bl _)
theorem rv_eq_two {z : Str} {n : Int} (h : txtD (.str z) = true) : RvD K (rEqA K) (.tup [.str z, .int n]) (.tup [.str z, .int n]) (.bl true) := fun F H x y s hx hy Q q => by
  have c : (toPy (.tup [.str z, .int n])).canLay0 = true := by
    have := (show_of _ h).2.1
    simp [toPy, toPyL, PyData.canLay0, PyData.canLayAll0] at this ⊢
    exact this
  have sh : SeqAt.shaped (toPy (.tup [.str z, .int n])) = true := by
    unfold SeqAt.shaped
    rw [c]
    simp [toPy, toPyL, PyData.depth, PyData.depthAll]
  refine .inr ⟨_, _, den_dp s _ hx rfl, den_dp s _ hy rfl, sh, sh, ?_⟩
  rw [SeqAt.eqv_refl _ c]
  exact q _ F H (Ext.refl s) (.bl _)
end
end Nm

set_option Elab.async false
set_option linter.all false
set_option maxRecDepth 100000
set_option maxHeartbeats 1000000
namespace Nm
open PySem PySem.Spec L2
/-! ### text.count(sign) -/
def rCountT : V → List V → Hp → VK → Prop := fun x xs H Q => ∃ a b, x = .str a ∧ xs = [.str b] ∧ Q (.int (Txt.count a b)) H
theorem cnt_is (c : Nat) : ∀ l : List Nat, PyProof.Rows.cnt c l = (l.count c : Nat)
  | [] => rfl
  | n :: r => by
    rw [PyProof.Rows.cnt_cons, cnt_is c r, List.count_cons]
    by_cases h : n = c
    · subst h; simp; omega
    · simp [h]
theorem count_txt (l : List Nat) (c : Nat) : Txt.count ⟨l.toArray⟩ ⟨#[c]⟩ = (l.count c : Nat) := by
  rw [PyProof.Rows.count_cnt, ← cnt_is]
/-! ### dict(pairs) -/
def rDictP (K : PySem.W.Frag) : List V → Hp → VK → Prop := fun xs H Q => ∃ (a : Addr) (ps : List Addr) (kvs : List (Key × V)), xs = [.ref a] ∧ SqL K H a (ps.map V.ref) ∧ Paired (fun p kv => SqT K H p [kV kv.1, kv.2]) ps kvs ∧
    ∀ p, H p = none → Q (.ref p) (upd H p (.dK (mergeK [] kvs)))
theorem c_dictP {X : Cx} (hc : X.calm = true) : CallR X (.type "dict") (rDictP X.K) := call_dictP hc
theorem mergeK_new : ∀ {more kvs : List (Key × V)}, ((kvs ++ more).map (·.1)).Nodup → mergeK kvs more = kvs ++ more
  | [], kvs, _ => by simp [mergeK]
  | (k, v) :: more, kvs, h => by
    have hk : k ∉ kvs.map (·.1) := by
      rw [List.map_append, List.map_cons, List.nodup_append] at h
      intro hm
      exact h.2.2 k hm k (List.mem_cons_self ..) rfl
    show mergeK (putK kvs k v) more = _
    rw [putK_new (fun p hp z => hk (List.mem_map.mpr ⟨p, hp, z⟩)), mergeK_new (by rw [List.append_assoc]; exact h), List.append_assoc]
    rfl
section
variable {K : PySem.W.Frag} {F H : Hp} {σ : L2.St} {ta tb te ti : TE} {d e : D} {r : List Sl} {DE : Ends} {tz : TS} {p q : Addr} {i j k : Nat}
theorem ev_count {l : List Nat} {c : Nat} (h1 : EvD K ta σ F (txt l)) (h2 : EvD K tb σ F (txt [c])) : EvD K (tM1 rCountT ta tb) σ F (.int (l.count c : Nat)) := fun H s Q q =>
  h1 H s _ fun x F1 H1 x1 d1 => by
    cases d1
    refine ⟨⟨_, rfl⟩, (h2.up x1.f) H1 x1.s _ fun y F2 H2 x2 d2 => ?_⟩
    cases d2
    refine ⟨_, _, rfl, rfl, ?_⟩
    rw [count_txt]
    exact q _ F2 H2 (x1.tr x2) (.int _)
theorem kD_kV {k : Key} {v : V} {F : Hp} (h : Den K F v (kD k)) : v = kV k := by
  cases k <;> (cases h; rfl)
theorem prs_of {F : Hp} : ∀ {es : List (Key × D)} {xs : List V}, DenL K F xs (es.map fun e => .tup [kD e.1, e.2]) → ∃ ps kvs, xs = ps.map V.ref ∧ Paired (fun p kv => SqT K F p [kV kv.1, kv.2]) ps kvs ∧ DenK K F kvs es
  | [], _, h => by cases h; exact ⟨[], [], rfl, .nil, .nil⟩
  | e :: es, _, h => by
    cases h with
    | cons a t =>
      obtain ⟨ps, kvs, rfl, h2, h3⟩ := prs_of t
      cases a with
      | tup q l =>
        rename_i a xs
        cases l with
        | cons b c =>
          cases c with
          | cons b2 c =>
            cases c
            rename_i v1 v2
            obtain rfl := kD_kV b
            exact ⟨a :: ps, (e.1, v2) :: kvs, rfl, .cons q h2, .cons b2 h3⟩
theorem ev_dictP {tr : TA} {es : List (Key × D)} (h : EvA K tr σ F [.lst (es.map fun e => .tup [kD e.1, e.2])]) (hn : (es.map (·.1)).Nodup) : EvD K (tLk (tCB (rDictP K) tr)) σ F (.dic es) := fun H s Q q => h H s _ fun vs F1 H1 x1 l => by
  cases l with
  | cons a t =>
    cases t
    cases a with
    | lst r l =>
      obtain ⟨ps, kvs, rfl, h2, h3⟩ := prs_of l
      have em : mergeK [] kvs = kvs := by
        have := mergeK_new (kvs := []) (more := kvs) (by rw [List.nil_append, DenK.keys h3]; exact hn)
        simpa using this
      refine ⟨_, ps, kvs, rfl, SqL.of (x1.s _ _ r), ?_, fun p hp => ?_⟩
      · exact h2.mono fun p kv hh => same_t x1.s hh
      · rw [em]
        exact .inr ⟨p, _, rfl, upd_same, trivial, fun od => by rw [upd_upd]; exact q _ _ _ (x1.tr (Ext.new x1.s hp)) (.dic upd_same (DenK.mono (Ext.new x1.s hp).f es h3))⟩
/-! ### a dict of folds of one's own -/
theorem foV_of {F : Hp} : ∀ {fo : Fo} {kvs : List (Key × V)}, DenK K F kvs (foE fo) → kvs = foV fo
  | [], _, h => by cases h; rfl
  | p :: fo, _, h => by
    have h : DenK K F _ ((.inr ⟨#[p.1]⟩, txt p.2) :: foE fo) := h
    cases h with
    | cons a t =>
      have := foV_of t
      subst this
      cases a
      rfl
theorem dict_call {fo : Fo} (S : Same F H) (h : EvD K te σ F (foD fo)) {Q : VK} (kk : ∀ p F' H', H p = none → Ext [] F H F' H' → Own F' H' p (.dK (foV fo)) → Q (.ref p) H') : tCB rDictA (tCons te tNil) σ H Q :=
  h H S _ fun v F1 H1 x1 d1 => by
    cases d1 with
    | dic r l =>
      obtain rfl := foV_of l
      exact ⟨_, _, rfl, .inr ⟨_, x1.s _ _ r⟩, fun p hp => kk p F1 _ (x1.back hp) (x1.tr (Ext.newM x1.s hp)) ⟨x1.s.free hp, upd_same⟩⟩
theorem q_asgFo {fo : Fo} (S : Same F H) (E : EnvD K F r σ) (h : EvD K te σ F (foD fo)) (kk : ∀ p F' H' σ', H p = none → Ext [] F H F' H' → Own F' H' p (.dK (foV fo)) → EnvD K F' (r.set i (.v (.ref p))) σ' → tz DE σ' H') : tSeq (tAsg (tCB rDictA (tCons te tNil)) (gName i)) tz DE σ H :=
  dict_call S h fun p F' H' hp x o => kk p F' H' _ hp x o (EnvD.set (s := .v (.ref p)) i (E.up x.f) rfl)
theorem q_parFo {fo : Fo} (S : Same F H) (E : EnvD K F r σ) (h : EvD K te σ F (foD fo)) (h2 : EvD K tb σ F d) (kk : ∀ p F' H' σ', H p = none → Ext [] F H F' H' → Own F' H' p (.dK (foV fo)) → EnvD K F' ((r.set i (.v (.ref p))).set j (.d d)) σ' → tz DE σ' H') : tSeq (tPar i j (tCons (tCB rDictA (tCons te tNil)) (tCons tb tNil))) tz DE σ H :=
  dict_call S h fun p F1 H1 hp x1 o1 => (h2.up x1.f) H1 x1.s _ fun v2 F2 H2 x2 d2 => ⟨_, _, rfl, kk p F2 H2 _ hp (x1.tr x2) (o1.ext0 x2) (EnvD.set j (EnvD.set (s := .v (.ref p)) i ((E.up x1.f).up x2.f) rfl) ⟨_, rfl, d2⟩)⟩
theorem valV_foV (KDum : PySem.W.Frag) {c : Nat} : ∀ {fo : Fo} {w : List Nat}, lk fo c = some w → valV (foV fo) (.inr ⟨#[c]⟩ : Key) = some (tv w) := by
  intro fo w h
  rcases DenK.val (K := KDum) (F := fun _ => none) (.inr ⟨#[c]⟩ : Key) (den_foV fo) with ⟨v, d, h1, h2, h3⟩ | ⟨h1, h2⟩
  · rw [valD_fo, h] at h2
    cases h2
    cases h3
    exact h1
  · rw [valD_fo, h] at h2
    cases h2
/-- d.pop(k) -/
theorem s_pop {fo : Fo} {c : Nat} {w : List Nat} (S : Same F H) (E : EnvD K F r σ) (hi : r[i]? = some (.v (.ref p))) (hj : r[j]? = some (.d (txt [c]))) (o : Own F H p (.dK (foV fo))) (hl : lk fo c = some w)
    (kk : ∀ H', Ext [p] F H F H' → Own F H' p (.dK (foV (fo.filter fun q => decide (q.1 ≠ c)))) → DE.nx σ H') : tDrop (tDPop1 (tVar i) (tVar j)) DE σ H := by
  obtain ⟨o1, g1, g2⟩ := E.get hi
  have g2 : o1 = some (.ref p) := g2
  subst g2
  obtain ⟨o2, g3, v, g4, g5⟩ := E.get hj
  subst g4
  cases g5
  refine ⟨_, g1, p, rfl, .inl ⟨_, .inl o.h⟩, _, g3, foV fo, .inr ⟨#[c]⟩, tv w, o.h, rfl, valV_foV K hl, ?_⟩
  have e : dropK (foV fo) (.inr ⟨#[c]⟩ : Key) = foV (fo.filter fun q => decide (q.1 ≠ c)) := by
    unfold dropK foV
    rw [List.filter_map]
    congr 1
    refine List.filter_congr fun q _ => ?_
    simp
  rw [e]
  exact kk _ (o.set S) ⟨o.f, upd_same⟩
end
end Nm

set_option Elab.async false
set_option linter.all false
set_option maxRecDepth 100000
set_option maxHeartbeats 1000000
/-! Errors with a field of their own: isinstance of a caught one. -/
namespace Nm
open PySem PySem.Spec L2 PyProof.Rows
/-- isinstance(e, c) and isinstance(e, (c, ..)), e the error that the suite holds at a, its class cls, its dict d -/
def rIsX (K : PySem.W.Frag) (a : Addr) (cls : Value) (d : Option Addr) : List V → Hp → VK → Prop := fun xs H Q => ∃ (D dd : Addr) (fs : List (Str × V)) (c : V) (b : Bool), xs = [.ref a, c] ∧ cls = .ref D ∧ ExcC K D ∧ d = some dd ∧ H dd = some (.xd fs) ∧
  ((∃ cv, (∀ u, RelV c u → u = cv) ∧ PySem.W.kitOne K (.ref D) cv = some b) ∨ ∃ (t : Addr) (cs : List V) (cvs : List Value), c = .ref t ∧ SqT K H t cs ∧ (∀ us, Vals cs us → us = cvs) ∧ PySem.W.kitAny K (.ref D) cvs = some b) ∧ Q (.bl b) H
theorem call_isX {X : Cx} {a : Addr} {oe : Obj} {cls : Value} {d : Option Addr} {pn : List (Addr × Obj)} (hz : Zc cls d oe) (hf : ∃ vs, oe.data = .fields vs) : CallR (X.suite a ((a, oe) :: pn)) (.builtin "isinstance") (rIsX X.K a cls d) := by
  intro pins s σ H xs us Q I r h
  obtain ⟨D, dd, fs, c, b, rfl, ec, C, ed, ea, hc, q⟩ := h
  subst ec
  subst ed
  obtain ⟨hget, _⟩ := I.pin (a, oe) (List.mem_append.mpr (.inl List.mem_cons_self))
  obtain ⟨vs, hv⟩ := hf
  have hx : ObjOk X.prog X.w H s.heap dd (.xd fs) := I.hok dd _ ea
  obtain ⟨mA, hns, hr⟩ := hx
  obtain ⟨od, ho, hl⟩ := lookIn_ns hns
  have J : PySem.W.InstAt s.heap a oe D (some od) := ⟨hget, hz.1, by unfold PySem.W.notCls; rw [hv] <;> rfl, by rw [hz.2]; exact ho⟩
  have hcl : (PySem.W.clsIn X.K D).isSome = true := by
    obtain ⟨cd, h1, _⟩ := PySem.W.any_some C.hd
    rw [h1]; rfl
  have Z : PySem.W.KitX X.K (.ref a) (.ref D) (fun h => PySem.W.InstAt h a oe D (some od)) := PySem.W.kitx_exc hcl C.hg C.hk C.hs C.ha C.hn C.ht C.hm
  cases r with
  | cons rx rr =>
    cases rr with
    | cons rt rr =>
      cases rr
      cases rx
      rcases hc with ⟨cv, hcv, e⟩ | ⟨t, cs, cvs, rfl, hs, hvs, e⟩
      · have ec := hcv _ rt
        subst ec
        exact PySem.W.kia_one Z I.kIn J e (fun z => nomatch z) fun tk => ⟨.bl b, H, I.kept (t' := tk) fun _ _ z => z, rfl, q⟩
      · cases rt
        obtain ⟨its, rv, ⟨o, h1, h2, n, h3⟩, _⟩ := I.tuple hs
        have e2 := hvs _ rv
        subst e2
        obtain ⟨oc, od2, oda, osl⟩ := o
        dsimp only at h2 h3
        subst h2 h3
        exact PySem.W.kia_tup Z I.kIn J h1 e (fun z => nomatch z) fun tk => ⟨.bl b, H, I.kept (t' := tk) fun _ _ z => z, rfl, q⟩
/-! ### a call of an object whose error is caught -/
section
variable {X : Cx} {CX : CXT} {k : Nat} {C g : Addr} {sp : Sp} {E : L2.St → XK}
theorem run_fnRS {f : Addr} {pins : List (Addr × Obj)} {σ : L2.St} {H : Hp} {s : Shared} {Q : VK} {us : List Value} {vs : List V} (F : FnR X.prog X.w X.K X.mg X.base CX k f sp) (hr : Room k X.A) (hx : PassesAt CX X σ (E σ)) (I : Inv X pins σ H s) (r : Vals vs us) (h : sp vs H Q (E σ)) :
    codeAny (model X.prog X.w) X.A (.call (.ref f) ⟨us, []⟩) (fun r s' => match r with | .ok (.ret v) => EP X pins σ Q v s' | .ok _ => False | .error e => X.xe e s') s := by
  refine codeAny_mono (F X.A X.stack s H us vs Q (E σ) hr I.env0 r h) fun r s' hq => ?_
  cases r with
  | error e => exact hx pins H s e s' I hq
  | ok fl =>
    cases fl with
    | ret u => exact I.after hq
    | next => exact False.elim hq
    | brk => exact False.elim hq
    | cont => exact False.elim hq
def tCallQS (C : Addr) (sp : Sp) (E : L2.St → XK) (tf : TE) (t : TA) : TE := fun σ H Q => tCallQ C sp (E σ) tf t σ H Q
theorem pe_callQS {fd : FuncData} {ps : List Str} {fe e : Expr} {es : List Expr} {pos : Pos} {tf : TE} {tr : TA} (hf : PE X fe tf) (c : StX.CallO X.K C g) (G : FnOk X.prog X.w X.K X.mg X.base CX k g fd ps sp) (hb : Binds X.K fd ps []) (hr : Room k X.A) (hx : ∀ σ, PassesAt CX X σ (E σ)) (ha : PA X (e :: es) tr)
    (ht : eval (.Call fe (e :: es) [] pos) X.env = (do callWith pos (← eval fe X.env) [] (backTo pos (starEach (e :: es) X.env)) (backToKw pos (keywordEach [] X.env))) := by rfl)
    (he : starEach (e :: es) X.env = (false, eval e X.env) :: starEach es X.env := by rfl) (hpl : (backTo pos (starEach es X.env)).any (·.1) = false := by rfl) : PE X (.Call fe (e :: es) [] pos) (tCallQS C sp E tf tr) := by
  have R : FnR X.prog X.w X.K X.mg X.base CX k g sp := (G.raw hb .nil).imp fun vs H Q E h => by rw [List.append_nil]; exact h
  refine ⟨fun pins s σ H Q I h => ?_⟩
  refine PyProof.Rows.Call_ (thn (hf.run pins s σ H _ I h) fun u s1 hh => ?_) ht
  obtain ⟨y, H1, I1, ry, a, ey, q⟩ := hh
  subst ey
  cases (show u = Value.ref a from ry)
  refine StX.callO_with (thn (ha.run pos pins s1 σ H1 _ I1 q) fun us s2 hh => ?_) he hpl
  obtain ⟨vs, H2, I2, r, hi, q2⟩ := hh
  have hi' : StX.InsC X H2 a C := .inr hi
  obtain ⟨ox, od, J, hd⟩ := StX.insC_at I2 hi'
  exact ⟨⟨C, ox, od, J, hd⟩, wpAny_call (PySem.W.kco_code I2.kIn J hd c.at_ c.fn c.fi (run_fnRS (us := .ref a :: us) (vs := .ref a :: vs) R hr (hx σ) I2 (.cons rfl r) q2))⟩
/-- nothing is let out where nothing is promised -/
theorem passF {X : Cx} {P : Program} {w : World} : Passes (L2.CX P w) X (fun _ _ _ => False) := fun pins σ H s e s' I h => by
  obtain ⟨_, _, _, _, _, _, h⟩ := h
  exact absurd h (by intro z; simp_all)
end
theorem takesN {X : Cx} : Takes X (fun _ _ _ _ => False) := fun _ _ x => by
  obtain ⟨_, _, _, _, _, _, _, _, _, _, _, _, _, _, _, _, h⟩ := x
  exact h.elim
/-! ### readings of raise and try -/
def tRaiseO (C : Addr) (sp : Sp) (E : XK) (ta : TA) : TS := fun _ σ H => tMkO C sp [] ta σ H fun cls d H' => E cls d H'
def tTry (K : PySem.W.Frag) (c : Value) (i : Nat) (tb : WX → TS) (ts : Addr → Value → Option Addr → TS) : TS := fun D σ H => tb (wAs K c i ts (fun _ _ _ _ => False) D) D σ H
/-- the __init__ of an error: it stores its field -/
def spErr (C : Addr) (f : Str) : Sp := fun vs H Q _ => ∃ a v, vs = [.ref a, v] ∧ H a = some (exo a C none) ∧ ∀ dx, H dx = none → dx ≠ a → Q .non (upd (upd H dx (exd dx [(f, v)])) a (exo a C (some dx)))
theorem spErr_len {C : Addr} {f : Str} {vs : List V} {H : Hp} {Q : VK} {E : XK} (h : spErr C f vs H Q E) : vs.length = 2 := by
  obtain ⟨a, v, rfl, _⟩ := h
  rfl
/-- what raise C(x) comes to: a new dict that holds the field -/
theorem raise_at {K : PySem.W.Frag} {F H : Hp} {σ : L2.St} {C : Addr} {f : Str} {E : XK} {DE : Ends} {te : TE} {d : D} (S : Same F H) (h : EvD K te σ F d) (k : ∀ v F' H' dx, Ext [] F H F' H' → Den K F' v d → H' dx = some (.xd [(f, v)]) → H dx = none → E (.ref C) (some dx) H') : tRaiseO C (spErr C f) E (tCons te tNil) DE σ H :=
  h H S _ fun v F1 H1 x1 d1 => by
    refine ⟨by simp, fun a ha => ⟨a, v, rfl, upd_same, fun dx hd ne => ⟨rfl, dx, [(f, v)], upd_same, ?_, ?_, ?_⟩⟩⟩
    · rw [upd_ne ne]; exact upd_same
    · rw [upd_ne ne] at hd; exact hd
    · have hd1 : H1 dx = none := by rw [upd_ne ne] at hd; exact hd
      have e : upd (L2.del (upd (upd (upd H1 a (exo a C none)) dx (exd dx [(f, v)])) a (exo a C (some dx))) a) dx (.xd [(f, v)]) = upd H1 dx (.xd [(f, v)]) := by
        funext b
        by_cases hb : b = dx
        · subst hb; rw [upd_same, upd_same]
        · rw [upd_ne hb, upd_ne hb]
          by_cases hb2 : b = a
          · subst hb2; rw [L2.del_same, ha]
          · rw [L2.del_ne hb2, upd_ne hb2, upd_ne hb, upd_ne hb2]
      rw [e]
      exact k v F1 _ dx (x1.tr (Ext.newM x1.s hd1)) d1 upd_same (x1.back hd1)
end Nm

set_option Elab.async false
set_option linter.all false
set_option maxRecDepth 100000
set_option maxHeartbeats 1000000
namespace Nm
open PySem PySem.Spec L2
section
variable {K : PySem.W.Frag} {D C : Addr} {T : String} {b : Bool}
theorem kit_ty (hm : PySem.W.kitMeta T = true) (h : PySem.W.subIn K (.ref D) (.type T) = some b) : PySem.W.kitOne K (.ref D) (.type T) = some b := by
  unfold PySem.W.kitOne
  rw [if_neg (by intro z; have := beq_iff_eq.mp z; cases this)]
  unfold PySem.W.kitCls
  dsimp only
  rw [if_pos hm]
  exact h
theorem kit_ref (hc : PySem.W.isClsIn K C = true) (ht : PySem.W.typeIn K (.ref C) = some (.type "type")) (h : PySem.W.subIn K (.ref D) (.ref C) = some false) (self : PySem.W.subIn K (.ref D) (.ref D) = some true) : PySem.W.kitOne K (.ref D) (.ref C) = some false := by
  have ne : D ≠ C := fun z => by
    subst z
    rw [self] at h
    cases h
  have hc' : (PySem.W.clsIn K C).isSome = true := hc
  unfold PySem.W.kitOne
  rw [if_neg (by intro z; have := beq_iff_eq.mp z; exact ne (Value.ref.inj this))]
  unfold PySem.W.kitCls
  dsimp only
  rw [if_pos (by rw [hc', ht] <;> rfl)]
  exact h
theorem kit_nil {t : Value} : PySem.W.kitAny K t [] = some false := rfl
theorem kit_cons {t c : Value} {r : List Value} (h : PySem.W.kitOne K t c = some false) (hr : PySem.W.kitAny K t r = some false) : PySem.W.kitAny K t (c :: r) = some false := by
  unfold PySem.W.kitAny
  rw [h]
  exact hr
end
end Nm

set_option Elab.async false
set_option linter.all false
set_option maxRecDepth 100000
set_option maxHeartbeats 3200000
/-! list(d.values()), set(text), len(set). -/
namespace Nm
open PySem PySem.Spec L2 PyProof.Rows
/-! ### list(d.values()) -/
def tListVals (td : TE) : TE := fun σ H Q => td σ H fun x H1 => ∃ d kvs, x = .ref d ∧ Rd H1 d (.dK kvs) ∧ ∀ p, H1 p = none → Q (.ref p) (upd H1 p (.lst (kvs.map (·.2))))
theorem vals_snd : ∀ {kvs : List (Key × V)} {vs : List (Key × Value)}, KV kvs vs → Vals (kvs.map (·.2)) (vs.map (·.2))
  | _, _, .nil => .nil
  | _, _, .cons a t => .cons a.2 (vals_snd t)
theorem pe_listVals {X : Cx} {e : Expr} {td : TE} {p apos cpos pos : Pos} (hc : X.calm = true) (hg : Gl X "list") (hm : X.mg "list" = none) (he : PE X e td)
    (hbase : attributeBase e "values" X.env (eval e X.env) = eval e X.env := by rfl) (hline : (apos.endLine == cpos.line) = true := by rfl)
    (na : starEach [Expr.Call (.Attribute e "values" apos) [] [] cpos] X.env = (false, eval (Expr.Call (.Attribute e "values" apos) [] [] cpos) X.env) :: starEach [] X.env := by rfl) :
    PE X (.Call (.Name "list" p) [.Call (.Attribute e "values" apos) [] [] cpos] [] pos) (tListVals td) := by
  refine ⟨fun pins s σ H Q I h => ?_⟩
  refine Call_ (ld_blt I hg hm boot_list (callWith_type1 (args_cons ?_ na) na rfl))
  refine wpAny_Call_method (T := "dict") (id := "dict.values") hbase rfl hline F.plainAttrs_dict F.slot_dict_values F.type_dict_values (thn (he.run pins s σ H _ I h) fun u s1 ⟨x, H1, I1, rx, d, kvs, ex, hd, q⟩ => ?_)
  subst ex
  obtain rfl : u = Value.ref d := rx
  obtain ⟨z, lo, vs, rel, dd⟩ := dk_rd I1.hok hd
  obtain ⟨ep, hm⟩ := dd.dictAt
  refine ⟨hm.dictOf.typeIs, hm.dictOf.mapOf.noDict, ?_⟩
  show wpAny _ _ (callWith cpos (.builtin "dict.values") [.ref d] [] []) _ X.xe s1
  refine method_meetsIn F.slot_dict_values F.entry_dict_values rfl (PySem.evalArgs_none ⟨rfl, hm.dictOf.typeIs, F.args_dict_values_1 _, _, meets_dict_values (mixKind X.prog X.w) d lo, ⟨vs, hm.dictOf⟩, ?_⟩)
  refine args_nil ?_
  refine PySem.W.kdl_call (PySem.W.kdl_values (knd := mixKind X.prog X.w) (d := d) (kvs := vs) (ep := ep)) (I1.ok.hd hc) ⟨⟨_, Heap.get?_push_size _ rfl, rfl, rfl⟩, hm.push _⟩ (by rw [← rel.length]; exact z) fun h' tk acc c hk hD hacc => ?_
  have ev : acc.toList = vs.map (·.2) := PySem.W.kdl_vals_eq _ (by rw [Array.length_toList]; exact hacc.1) fun j v e => hacc.2 j v (by rw [← Array.getElem?_toList]; exact e)
  have hk' : ∀ b o, s1.heap.get? b = some o → h'.get? b = some o := fun b o e => hk b o (Heap.get?_push_of_some _ e)
  have sz : (s1.heap.push { cls := .type "dict_values", data := .fields #[.ref d] }).objs.size = s1.heap.objs.size + 1 := Heap.size_push ..
  have hn : H1 (s1.heap.push { cls := .type "dict_values", data := .fields #[.ref d] }).objs.size = none := by rw [sz]; exact I1.hok.fresh (Nat.le_succ _)
  refine ⟨.ref _, upd H1 _ (.lst (kvs.map (·.2))), I1.laid (t' := tk) hk' (by rw [sz]; exact Nat.le_succ _)
    (show ObjOk X.prog X.w _ _ _ (.lst (kvs.map (·.2))) from ⟨by rw [List.length_map]; exact z, acc.toList, c, by rw [ev]; exact vals_snd rel, by rw [Array.toArray_toList]; exact hD⟩), rfl, q _ hn⟩
end Nm

set_option Elab.async false
set_option linter.all false
set_option maxRecDepth 100000
set_option maxHeartbeats 2000000
/-! cls(*parts); enumerate(list); text.split(sep); int(text); (int, text) <= (int, text); a class method. -/
namespace Nm
open PySem PySem.Spec L2
def tMakeLS (K : PySem.W.Frag) (i : Nat) (C : Addr) (sp : Sp) (E : XK) (te : TE) : TE := fun σ H Q => σ[i]? = some (some (.ref C)) ∧ te σ H fun y H1 => ∃ a xs, y = V.ref a ∧ (SqT K H1 a xs ∨ SqL K H1 a xs) ∧
  ∀ x dx, H1 x = none → H1 dx = none → dx ≠ x → sp (V.ref x :: xs) (upd (upd H1 dx (.own x)) x (.ins C dx [])) (fun v H2 => v = .non ∧ Q (.ref x) H2) E
theorem pe_makeLS {X : Cx} {CX : CXT} {k i : Nat} {f C : Addr} {fd : FuncData} {ps : List Str} {sp : Sp} {E : XK} {x : Str} {e : Expr} {te : TE} {p sp_ pos : Pos} (M : Mk X.K C f) (G : FnOk X.prog X.w X.K X.mg X.base CX k f fd ps sp) (hr : Room (k + 1) X.A) (hN : X.N[i]? = some x) (hv : Vis X.env.scope x) (hb : Binds X.K fd ps []) (hx : Passes CX X E) (he : PE X e te)
    (hdb : (x == ("__debug__" : Str)) = false := by decide) (hcd : (x == ("__classdict__" : Str)) = false := by decide) (hst : starEach [.Starred e sp_] X.env = [(true, eval e X.env)] := by rfl) :
    PE X (.Call (.Name x p) [.Starred e sp_] [] pos) (tMakeLS X.K i C sp E te) := by
  have R : FnR X.prog X.w X.K X.mg X.base CX k f sp := (G.raw hb .nil).imp fun vs H Q E h => by rw [List.append_nil]; exact h
  refine ⟨fun pins s σ H Q I h => ?_⟩
  obtain ⟨hs, ht⟩ := h
  refine wpAny_Call_Name_kw (thn ((pe_var (pos := p) hN hv hdb hcd).run pins s σ H (fun v H1 => v = .ref C ∧ H1 = H) I ⟨.ref C, hs, rfl, rfl⟩) fun u s1 ⟨v, H1, I1, r1, q1⟩ => ?_)
  obtain ⟨rfl, rfl⟩ := q1
  cases r1
  refine PySem.W.callWith_S (h₀ := X.base) I.ok.mod.kin M.kp (thn (he.run pins s1 σ _ _ I1 ht) fun v s2 ⟨y, H2, I2, ry, a, xs, ey, hxs, q⟩ => ?_) hst
  subst ey
  obtain rfl : v = Value.ref a := ry
  exact StX.star_any I2 hxs fun us s3 I3 rv => ⟨I3.kIn, StX.run_makeR M R hr hx I3 rv q⟩
/-! ### (int, text) <= (int, text) -/
def leIS (i : Int) (z : Str) (j : Int) (w : Str) : Bool := if i = j then (if z = w then true else !decide (w.cps.toList < z.cps.toList)) else decide (i ≤ j)
def rLeIS (K : PySem.W.Frag) : R2 := fun x y H Q => ∃ (a b : Addr) (i j : Int) (z w : Str), x = .ref a ∧ y = .ref b ∧ SqT K H a [.int i, .str z] ∧ SqT K H b [.int j, .str w] ∧ Q (.bl (leIS i z j w)) H
theorem op_leIS {X : Cx} (hu : X.A.units < cLine) : OpR X (compareOp .LtE) (rLeIS X.K) := by
  intro pins s σ H x y v u Q I rx ry h
  obtain ⟨a, b, i, j, z, w, rfl, rfl, ha, hb, q⟩ := h
  cases rx
  cases ry
  obtain ⟨its, r1, p1, _⟩ := I.tuple ha
  obtain ⟨its2, r2, p2, _⟩ := I.tuple hb
  obtain ⟨ti, tz, rfl⟩ : ∃ ti tz, its = [.int i ti, .str z tz] := by
    cases r1 with
    | cons a1 t1 => cases t1 with
      | cons a2 t2 =>
        cases t2
        obtain ⟨ti, rfl⟩ := a1
        obtain ⟨tz, rfl⟩ := a2
        exact ⟨_, _, rfl⟩
  obtain ⟨tj, tw, rfl⟩ : ∃ ti tz, its2 = [.int j ti, .str w tz] := by
    cases r2 with
    | cons a1 t1 => cases t1 with
      | cons a2 t2 =>
        cases t2
        obtain ⟨ti, rfl⟩ := a1
        obtain ⟨tz, rfl⟩ := a2
        exact ⟨_, _, rfl⟩
  have R := Ob.RcOp.tuples_le (A := X.A) (s := s) (e := fun k => match k with | 0 => decide (i = j) | _ => decide (z = w)) (r := fun k => match k with | 0 => decide (i ≤ j) | _ => !decide (w.cps.toList < z.cps.toList)) p1 p2 hu (fun k h1 h2 => by
      match k, h1, h2 with
      | 0, h1, h2 =>
        show SeqAt.EqAt _ _ (Value.int i ti) (Value.int j tj) (decide (i = j))
        have zz : (i == j) = decide (i = j) := rfl
        rw [← zz]
        exact SeqAt.EqAt.int_int _ _ _ _
      | 1, h1, h2 =>
        show SeqAt.EqAt _ _ (Value.str z tz) (Value.str w tw) (decide (z = w))
        have zz : (z == w) = decide (z = w) := by
          by_cases e : z = w
          · subst e; simp
          · rw [decide_eq_false e]; exact beq_eq_false_iff_ne.mpr e
        rw [← zz]
        exact SeqAt.EqAt.str_str _ _ _ _) (fun k h1 h2 _ => by
      match k, h1, h2 with
      | 0, h1, h2 => exact Ob.RcOp.le_int _ _ _ _
      | 1, h1, h2 =>
        show Ob.RcOp .LtE _ _ (Value.str z tz) (Value.str w tw) _
        intro prog w' E' Q' hq
        exact PySem.P.le_str hq)
  have zz : wpAny (model X.prog X.w) X.A (compareOp .LtE (.ref a) (.ref b)) (EP X pins σ Q) X.xe s := R X.prog X.w X.xe (EP X pins σ Q) ⟨.bl _, H, I, rfl, ?_⟩
  · exact zz
  · refine cast (congrArg (fun b => Q (.bl b) H) ?_) q
    unfold leIS
    show _ = (if (decide (i = j)) = true then (if (decide (z = w)) = true then decide (2 ≤ 2) else _) else decide (i ≤ j))
    by_cases e1 : i = j
    · by_cases e2 : z = w
      · simp [e1, e2]
      · simp [e1, e2]
    · simp [e1]
def rLeM (K : PySem.W.Frag) : R2 := fun x y H Q => rLeIS K x y H Q
section
variable {K : PySem.W.Frag} {F H : Hp} {σ : L2.St} {ta tb te : TE} {tr : TA}
theorem rv_leIS {i j : Int} {z w : Str} : RvD K (rLeIS K) (.tup [.int i, .str z]) (.tup [.int j, .str w]) (.bl (leIS i z j w)) := fun F H x y s hx hy Q q => by
  cases hx with
  | tup a l =>
    cases hy with
    | tup b m =>
      cases l with
      | cons l1 l2 => cases l2 with
        | cons l3 l4 =>
          cases l4
          cases l1
          cases l3
          cases m with
          | cons m1 m2 => cases m2 with
            | cons m3 m4 =>
              cases m4
              cases m1
              cases m3
              exact ⟨_, _, _, _, _, _, rfl, rfl, same_t s a, same_t s b, q _ F H (Ext.refl s) (.bl _)⟩
/-! ### enumerate(list) -/
theorem ei_enumL {ds : List D} (h : EvA K tr σ F [.lst ds]) : EvI K (iEnum K tr) σ F ((List.range ds.length).map fun i => .tup [.int (i : Nat), ds.getD i .non]) := fun H s R q => h H s _ fun vs F1 H1 x1 dl => by
  cases dl with
  | cons a t =>
    cases t
    cases a with
    | lst hh l =>
      rename_i a xs
      refine ⟨a, xs, rfl, SqL.of (x1.s _ _ hh), q _ F1 H1 x1 ⟨fun H => SqL K H a xs, YPair (fun i => some (.int (i : Nat))) (fun i => xs[i]?), ?_, fun H s => SqL.of (s _ _ hh), fun i H v H' hi s y => ?_⟩⟩
      · rw [List.length_map, List.length_range, ← l.length]; exact walk_enum
      · obtain ⟨T, a1, b1, rfl, h2, rfl, h4, h5⟩ := y
        cases h4
        obtain ⟨d, g1, g2⟩ := l.getV h5
        have lt := (List.getElem?_eq_some_iff.mp g1).1
        refine ⟨_, upd F1 T (.tup [.int (i : Nat), b1]), ?_, Ext.new s h2, .tup (SqT.of upd_same) (.cons (.int _) (.cons (g2.up (Ext.new (o := .tup [.int (i : Nat), b1]) s h2).f) .nil))⟩
        rw [List.getElem?_map, List.getElem?_range lt, Option.map_some, List.getD_eq_getElem?_getD, g1]
        rfl
/-! ### text.split(sep), int(text) -/
def rSplitT : V → List V → Hp → VK → Prop := fun x xs H Q => ∃ a b, x = .str a ∧ xs = [.str b] ∧ (b.length == 0) = false ∧ a.length + 2 ≤ sizeLine ∧ rNewStrs (Txt.split a b) H Q
theorem ev_split {z b : Str} (h1 : EvD K ta σ F (.str z)) (h2 : EvD K tb σ F (.str b)) (hb : (b.length == 0) = false) (hz : z.length ≤ 10000) : EvD K (tM1 rSplitT ta tb) σ F (.lst ((Txt.split z b).map D.str)) := fun H s Q q =>
  h1 H s _ fun x F1 H1 x1 d1 => by
    cases d1
    refine ⟨⟨_, rfl⟩, (h2.up x1.f) H1 x1.s _ fun y F2 H2 x2 d2 => ?_⟩
    cases d2
    refine ⟨_, _, rfl, rfl, hb, by rw [sizeLine_eq]; omega, fun p hp => ?_⟩
    exact q _ _ _ ((x1.tr x2).tr (Ext.new x2.s hp)) (.lst upd_same (DenL.strs _))
def rIntT : List V → Hp → VK → Prop := fun xs H Q => ∃ a n, xs = [.str a] ∧ PySem.intText? a = some n ∧ a.length ≤ 640 ∧ Q (.int n) H
theorem rc_int {a : Str} {n : Int} (h : PySem.intText? a = some n) (hz : a.length ≤ 640) : RcD K rIntT [.str a] (.int n) := fun F H xs s hx Q q => by
  cases hx with
  | cons h1 t =>
    cases t
    cases h1
    exact ⟨_, _, rfl, h, hz, q _ F H (Ext.refl s) (.int _)⟩
/-! ### a class method -/
theorem ev_cmeth {C : Addr} {n : Nat} {R : List D → D → Prop} {E : XK} {ds : List D} {d : D} (h1 : EvD K te σ F (.cls C)) (ha : EvA K tr σ F ds) (he : R (.cls C :: ds) d) (hn : (D.cls C :: ds).length = n) : EvD K (ClX.tCMeth C (spR K n R) E te tr) σ F d := fun H s Q q =>
  h1 H s _ fun v F1 H1 x1 d1 => by
    cases d1
    refine ⟨rfl, (ha.up x1.f) H1 x1.s _ fun vs F2 H2 x2 l2 => ?_⟩
    exact ⟨F2, _, d, x2.s, .cons (.cls C) l2, he, hn, fun w F3 H3 x3 d3 => q w F3 H3 ((x1.tr x2).tr x3) d3⟩
end
theorem c_int {X : Cx} : CallR X (.type "int") rIntT := call_int_str
theorem mt_splitT {X : Cx} : MtR X "str.split" rSplitT := mt_split
theorem pe_cmethG {X : Cx} {CX : CXT} {k : Nat} {C p g : Addr} {mc : Value} {fd : FuncData} {ps : List Str} {sp : Sp} {E : XK} {m : Str} {o e : Expr} {es : List Expr} {ta : TE} {t : TA} {apos pos : Pos} {pl : Sem Bool} (he : PE X o ta) (r : ClX.CRead X.K C mc) (c : ClX.CMet X.K C mc m p g) (G : FnOk X.prog X.w X.K X.mg X.base CX k g fd ps sp) (hb : Binds X.K fd ps []) (hr : Room k X.A) (hx : Passes CX X E) (ha : PA X (e :: es) t)
    (hst : starEach (e :: es) X.env = (false, eval e X.env) :: starEach es X.env := by rfl) (hpl : (backTo pos (starEach es X.env)).any (·.1) = false := by rfl)
    (ht : eval (.Call (.Attribute o m apos) (e :: es) [] pos) X.env = (do
      let ov ← eval o X.env
      standAt apos.atName
      let (f, first) ← holding [ov] (getMethod ov m pl)
      callWith pos f first (backTo pos (starEach (e :: es) X.env)) (backToKw pos (keywordEach [] X.env))) := by rfl) :
    PE X (.Call (.Attribute o m apos) (e :: es) [] pos) (ClX.tCMeth C sp E ta t) :=
  ClX.pe_cmeth he r c ((G.raw hb .nil).imp fun vs H Q E h => by rw [List.append_nil]; exact h) hr hx ha hst hpl ht
/-! ### two dicts of one's own are locked -/
def tLk2 (te : TE) : TE := fun σ H Q => te σ H fun v H1 => ∃ p q u w, p ≠ q ∧ H1 p = some u ∧ Mut (some u) ∧ H1 q = some w ∧ Mut (some w) ∧ ∀ od od', Q v (upd (upd H1 p (.frz od u)) q (.frz od' w))
theorem pe_lk2 {X : Cx} {e : Expr} {t : TE} (h : PE X e t) : PE X e (tLk2 t) := by
  refine ⟨fun pins s σ H Q I hw => ?_⟩
  refine thn (h.run pins s σ H _ I hw) fun u s1 ⟨x, H1, I1, r, p, q, uu, ww, pq, hp, mp, hq, mq, k⟩ => ?_
  obtain ⟨od, I2⟩ := I1.lock hp mp
  obtain ⟨od', I3⟩ := I2.lock (d := q) (by rw [upd_ne pq.symm]; exact hq) mq
  exact ⟨_, _, I3, r, k od od'⟩
end Nm

set_option Elab.async false
set_option linter.all false
set_option maxRecDepth 100000
set_option maxHeartbeats 2000000
/-! repr of data of any depth, dicts among them: only the dicts' places must not be the place of the modules. -/
namespace Nm
open PySem PySem.Spec L2
mutual
/-- what stands at a value -/
inductive Tells (h : Heap) : Value → PyData → Prop
  | nn : Tells h .none .none
  | bb (b) : Tells h (.bool b) (.bool b)
  | ii (i t) : Tells h (.int i t) (.int i)
  | ss (x t) : Tells h (.str x t) (.str x)
  | ll {p ob its n ds} : h.get? p = some ob → ob.cls = .type "list" → ob.data = .seq its n → TellsL h its.toList ds → Tells h (.ref p) (.list ds)
  | tt {p ob its n ds} : h.get? p = some ob → ob.cls = .type "tuple" → ob.data = .seq its n → TellsL h its.toList ds → Tells h (.ref p) (.tuple ds)
  | dd {p ob ents n prs} : (p == sysModules) = false → h.get? p = some ob → ob.cls = .type "dict" → ob.data = .dict ents n → TellsL h (ents.toList.map fun e => e.key) (prs.map fun q => q.1) → TellsL h (ents.toList.map fun e => e.val) (prs.map fun q => q.2) → Tells h (.ref p) (.dict prs)
inductive TellsL (h : Heap) : List Value → List PyData → Prop
  | e : TellsL h [] []
  | c {v vs d ds} : Tells h v d → TellsL h vs ds → TellsL h (v :: vs) (d :: ds)
end
mutual
theorem Tells.rd {h : Heap} : ∀ {v : Value} {d : PyData}, Tells h v d → ∃ l, Reads h v d l
  | _, _, .nn => ⟨_, Reads.none⟩
  | _, _, .bb x => ⟨_, Reads.bool x⟩
  | _, _, .ii x u => ⟨_, Reads.int x u⟩
  | _, _, .ss x u => ⟨_, Reads.str x u⟩
  | _, _, .ll a b c m => m.rd.elim fun _ z => ⟨_, Reads.list a b c z⟩
  | _, _, .tt a b c m => m.rd.elim fun _ z => ⟨_, Reads.tuple a b c z⟩
  | _, _, .dd _ a b c m m' => m.rd.elim fun _ z => m'.rd.elim fun _ z' => ⟨_, Reads.dict a b c z z'⟩
theorem TellsL.rd {h : Heap} : ∀ {vs : List Value} {ds : List PyData}, TellsL h vs ds → ∃ l, ReadsAll h vs ds l
  | _, _, .e => ⟨_, ReadsAll.nil⟩
  | _, _, .c a b => a.rd.elim fun _ z => b.rd.elim fun _ z' => ⟨_, ReadsAll.cons z z'⟩
end
section
variable {P : Program} {w : World} {g : Heap}
/-- it can be shown within what guards the places bs -/
def Sw (P : Program) (w : World) (g : Heap) (n : Nat) (v : Value) (t : Str) : Prop := ∃ bs, ReadAtMost g n bs ∧ ReprK P w bs g n v t
def SwL (P : Program) (w : World) (g : Heap) (n : Nat) (vs : List Value) (ts : List Str) : Prop := ∃ bs, ReadAtMost g n bs ∧ ReprAllK P w bs g n vs ts
theorem sw_flat {n : Nat} {v : Value} {t : Str} (h : ReprIs P w v t) : Sw P w g n v t := ⟨[], (fun _ z => nomatch z), ReprK.of_is h _ _ _⟩
/-- within, and by itself -/
def Both (P : Program) (w : World) (g : Heap) (p : Addr) (d : PyData) : Prop := Sw P w g d.depth (.ref p) d.shown ∧ ∃ T i, ShowsBy P w g p d T i
theorem both_list {p : Addr} {ob : Obj} {its : Array Value} {n : Nat} {ds : List PyData} (h1 : g.get? p = some ob) (h2 : ob.cls = .type "list") (h3 : ob.data = .seq its n) (m : TellsL g its.toList ds) (hm : SwL P w g (PyData.depthAll ds) its.toList (PyData.shownAll ds)) (hz : (PyData.list ds).shown.length ≤ sizeLine) : Both P w g p (.list ds) := by
  simp only [PyData.shown] at hz
  obtain ⟨bs, low, all⟩ := hm
  obtain ⟨_, rm⟩ := m.rd
  have me : Reads g (.ref p) (.list ds) _ := Reads.list h1 h2 h3 rm
  have far : p ∉ bs := not_mem_of_deeper me (by simp only [PyData.depth]; omega) low
  have len := all.length_eq
  rcases its with ⟨_ | ⟨y, ys⟩⟩
  · obtain rfl : ds = [] := by cases m; rfl
    refine ⟨⟨p :: bs, ReadAtMost.cons me (by simp only [PyData.depth]; omega) low, ?_⟩, "list", "list.__repr__", F.slot_list_repr.toG, F.slot_list_str, F.slot_list_format, fun s k => ⟨ob, k _ _ h1, h2⟩, fun A E s Q _ _ k q => ?_⟩
    · simp only [PyData.depth, PyData.shown, PyData.shownAll, listText_nil]
      exact ReprK.listEmpty h1 h2 h3
    · simp only [PyData.shown, PyData.shownAll, listText_nil] at q
      exact call_list_repr_empty ⟨ob, k _ _ h1, h2⟩ (k _ _ h1) h3 (q s.heap _ _ fun _ _ z => z)
  · have at_ : ∀ (i : Nat) (z : Value), (y :: ys).toArray[i]? = some z → _ := fun i z e => all.item i z (by simpa using e)
    refine ⟨⟨p :: bs, ReadAtMost.cons me (by simp only [PyData.depth]; omega) low, ?_⟩, "list", "list.__repr__", F.slot_list_repr.toG, F.slot_list_str, F.slot_list_format, fun s k => ⟨ob, k _ _ h1, h2⟩, fun A E s Q gd un k q => ?_⟩
    · simp only [PyData.depth, PyData.shown]
      exact ReprK.list h1 h2 h3 far (by simpa using len) at_
    · simp only [PyData.depth] at un
      simp only [PyData.shown] at q
      exact call_list_reprK h1 h2 h3 far (by simpa using len) at_ gd (fun b _ => Clear.nil b) un k q hz
theorem both_tuple {p : Addr} {ob : Obj} {its : Array Value} {n : Nat} {ds : List PyData} (h1 : g.get? p = some ob) (h2 : ob.cls = .type "tuple") (h3 : ob.data = .seq its n) (m : TellsL g its.toList ds) (hm : SwL P w g (PyData.depthAll ds) its.toList (PyData.shownAll ds)) (hz : (PyData.tuple ds).shown.length ≤ sizeLine) : Both P w g p (.tuple ds) := by
  simp only [PyData.shown] at hz
  obtain ⟨bs, low, all⟩ := hm
  obtain ⟨_, rm⟩ := m.rd
  have me : Reads g (.ref p) (.tuple ds) _ := Reads.tuple h1 h2 h3 rm
  have far : p ∉ bs := not_mem_of_deeper me (by simp only [PyData.depth]; omega) low
  refine ⟨⟨p :: bs, ReadAtMost.cons me (by simp only [PyData.depth]; omega) low, ?_⟩, "tuple", "tuple.__repr__", F.slot_tuple_repr, F.slot_tuple_str, F.slot_tuple_format, fun s k => ⟨ob, k _ _ h1, h2⟩, fun A E s Q gd un k q => ?_⟩
  · simp only [PyData.depth, PyData.shown]
    exact ReprK.tuple h1 h2 h3 far all
  · simp only [PyData.depth] at un
    simp only [PyData.shown] at q
    exact call_tuple_reprK h1 h2 h3 far all gd (fun b _ => Clear.nil b) un k q hz
theorem both_dict {p : Addr} {ob : Obj} {ents : Array DictEntry} {n : Nat} {prs : List (PyData × PyData)} (h0 : (p == sysModules) = false) (h1 : g.get? p = some ob) (h2 : ob.cls = .type "dict") (h3 : ob.data = .dict ents n) (m : TellsL g (ents.toList.map fun e => e.key) (prs.map fun q => q.1)) (m' : TellsL g (ents.toList.map fun e => e.val) (prs.map fun q => q.2))
    (hm : SwL P w g (PyData.depthAll (prs.map fun q => q.1)) (ents.toList.map fun e => e.key) (PyData.shownAll (prs.map fun q => q.1))) (hm' : SwL P w g (PyData.depthAll (prs.map fun q => q.2)) (ents.toList.map fun e => e.val) (PyData.shownAll (prs.map fun q => q.2))) (hz : (PyData.dict prs).shown.length ≤ sizeLine) : Both P w g p (.dict prs) := by
  simp only [PyData.shown] at hz
  obtain ⟨b1, low1, all1⟩ := hm
  obtain ⟨b2, low2, all2⟩ := hm'
  obtain ⟨_, r1⟩ := m.rd
  obtain ⟨_, r2⟩ := m'.rd
  have me : Reads g (.ref p) (.dict prs) _ := Reads.dict h1 h2 h3 r1 r2
  have low := (low1.mono (PyData.depthAll_keys_le prs)).append (low2.mono (PyData.depthAll_vals_le prs))
  have far : p ∉ b1 ++ b2 := not_mem_of_deeper me (by simp only [PyData.depth]; omega) low
  have both := ReprEntriesK.of_two ents.toList _ _ (all1.more_le (as' := b1 ++ b2) (fun b z => List.mem_append_left _ z) (PyData.depthAll_keys_le prs)) (all2.more_le (as' := b1 ++ b2) (fun b z => List.mem_append_right _ z) (PyData.depthAll_vals_le prs))
  refine ⟨⟨p :: (b1 ++ b2), ReadAtMost.cons me (by simp only [PyData.depth]; omega) low, ?_⟩, "dict", "dict.__repr__", F.slot_dict_repr, F.slot_dict_str, F.slot_dict_format, fun s k => ⟨ob, k _ _ h1, h2⟩, fun A E s Q gd un k q => ?_⟩
  · simp only [PyData.depth, PyData.shown, PyData.shownKv_eq]
    exact ReprK.dict h1 h2 h3 h0 far both
  · simp only [PyData.depth] at un
    simp only [PyData.shown, PyData.shownKv_eq] at q
    exact call_dict_reprK h1 h2 h3 h0 far both gd (fun b _ => Clear.nil b) un k q (by rw [← PyData.shownKv_eq]; exact hz)
theorem ReprAllK.up {bs bs' : List Addr} {n n' : Nat} {vs : List Value} {ts : List Str} (h : ReprAllK P w bs g n vs ts) (a : ∀ b ∈ bs, b ∈ bs') (l : n ≤ n') : ReprAllK P w bs' g n' vs ts := h.more_le a l
mutual
theorem tells_sw : ∀ {v : Value} {d : PyData}, Tells g v d → d.showable = true → d.shown.length ≤ sizeLine → Sw P w g d.depth v d.shown
  | _, _, .nn, _, _ => by rw [show PyData.none.shown = "None" from by simp only [PyData.shown]]; exact sw_flat ReprIs.none
  | _, _, .bb x, _, _ => by simp only [PyData.shown]; exact sw_flat (ReprIs.bool x)
  | _, _, .ii x u, hs, _ => by simp only [PyData.shown]; exact sw_flat (ReprIs.int u (by simpa [PyData.showable] using hs))
  | _, _, .ss x u, _, hz => by simp only [PyData.shown] at hz ⊢; exact sw_flat (ReprIs.str x u hz)
  | _, _, .ll (ds := ds) a b c m, hs, hz => (both_list a b c m (tells_swL m (by simpa [PyData.showable] using hs) fun t z => Nat.le_trans (listText_mem_le z) (by simpa only [PyData.shown] using hz)) hz).1
  | _, _, .tt (ds := ds) a b c m, hs, hz => (both_tuple a b c m (tells_swL m (by simpa [PyData.showable] using hs) fun t z => Nat.le_trans (tupleText_mem_le z) (by simpa only [PyData.shown] using hz)) hz).1
  | _, _, .dd (prs := prs) o a b c m m', hs, hz => by
    have sp := PyData.showableKv_split prs (by simpa [PyData.showable] using hs)
    have dz : ∀ q ∈ PyData.shownKv prs, _ := fun q z => Nat.le_trans (dictText_mem_le z) (show (dictText (PyData.shownKv prs)).length ≤ sizeLine by simpa only [PyData.shown] using hz)
    exact (both_dict o a b c m m' (tells_swL m sp.1 fun t z => (PyData.shownKv_key_le prs t z).elim fun q y => Nat.le_trans y.2 (dz q y.1)) (tells_swL m' sp.2 fun t z => (PyData.shownKv_val_le prs t z).elim fun q y => Nat.le_trans y.2 (dz q y.1)) hz).1
theorem tells_swL : ∀ {vs : List Value} {ds : List PyData}, TellsL g vs ds → PyData.showableAll ds = true → (∀ t ∈ PyData.shownAll ds, t.length ≤ sizeLine) → SwL P w g (PyData.depthAll ds) vs (PyData.shownAll ds)
  | _, _, .e, _, _ => ⟨[], (fun _ z => nomatch z), by simp only [PyData.shownAll]; exact ReprAllK.nil⟩
  | _, _, .c (d := d) (ds := ds) a b, hs, hz => by
    simp only [PyData.showableAll, Bool.and_eq_true] at hs
    simp only [PyData.shownAll] at hz
    obtain ⟨b1, low1, k1⟩ := tells_sw a hs.1 (hz _ (List.mem_cons_self ..))
    obtain ⟨b2, low2, k2⟩ := tells_swL b hs.2 fun t z => hz t (List.mem_cons_of_mem _ z)
    have e : PyData.depthAll (d :: ds) = max d.depth (PyData.depthAll ds) := by simp only [PyData.depthAll]
    have l1 : d.depth ≤ PyData.depthAll (d :: ds) := by rw [e]; exact Nat.le_max_left _ _
    have l2 : PyData.depthAll ds ≤ PyData.depthAll (d :: ds) := by rw [e]; exact Nat.le_max_right _ _
    refine ⟨b1 ++ b2, (low1.mono l1).append (low2.mono l2), ?_⟩
    have k3 : ReprK P w (b1 ++ b2) g (PyData.depthAll (d :: ds)) _ d.shown := (k1.more fun b z => List.mem_append_left _ z).level_le l1
    have k4 : ReprAllK P w (b1 ++ b2) g (PyData.depthAll (d :: ds)) _ (PyData.shownAll ds) := k2.more_le (fun b z => List.mem_append_right _ z) l2
    rw [show PyData.shownAll (d :: ds) = d.shown :: PyData.shownAll ds from by simp only [PyData.shownAll]]
    exact ReprAllK.cons k3 k4
end
theorem tells_by {p : Addr} {d : PyData} (r : Tells g (.ref p) d) (hs : d.showable = true) (hz : d.shown.length ≤ sizeLine) : ∃ T i, ShowsBy P w g p d T i := by
  cases r with
  | ll a b c m => exact (both_list a b c m (tells_swL m (by simpa [PyData.showable] using hs) fun t z => Nat.le_trans (listText_mem_le z) (by simpa only [PyData.shown] using hz)) hz).2
  | tt a b c m => exact (both_tuple a b c m (tells_swL m (by simpa [PyData.showable] using hs) fun t z => Nat.le_trans (tupleText_mem_le z) (by simpa only [PyData.shown] using hz)) hz).2
  | dd o a b c m m' =>
    rename_i ob ents n prs
    have sp := PyData.showableKv_split prs (by simpa [PyData.showable] using hs)
    have dz : ∀ q ∈ PyData.shownKv prs, _ := fun q z => Nat.le_trans (dictText_mem_le z) (show (dictText (PyData.shownKv prs)).length ≤ sizeLine by simpa only [PyData.shown] using hz)
    exact (both_dict o a b c m m' (tells_swL m sp.1 fun t z => (PyData.shownKv_key_le prs t z).elim fun q y => Nat.le_trans y.2 (dz q y.1)) (tells_swL m' sp.2 fun t z => (PyData.shownKv_val_le prs t z).elim fun q y => Nat.le_trans y.2 (dz q y.1)) hz).2
/-- repr -/
theorem run_tells {A : Around} {E : Value → Shared → Prop} {s : Shared} {Q : Value → Shared → Prop} {p : Addr} {d : PyData} (r : Tells s.heap (.ref p) d) (hs : d.showable = true) (hg : A.guards = some []) (hu : A.units + (d.depth + 1) < cLine) (hz : d.shown.length ≤ sizeLine)
    (k : ∀ h' u tk, (∀ b o, s.heap.get? b = some o → h'.get? b = some o) → Q (.str d.shown u) { s with heap := h', toks := tk }) : wpAny (model P w) A (call (.builtin "repr") [.ref p]) Q E s := by
  obtain ⟨T, i, S⟩ := tells_by (P := P) (w := w) r hs hz
  refine call_repr_slot (by omega) (S.typeIs s fun _ _ z => z) S.slotRepr (S.call A.in1 E s _ hg ?_ (fun _ _ z => z) fun h' u tk hk => ⟨_, _, rfl, k h' u tk hk⟩)
  show A.units + 1 + d.depth < cLine
  omega
end
/-! ### over the layer's heap -/
mutual
inductive DpN (K : PySem.W.Frag) (H : Hp) : V → PyData → Prop
  | non : DpN K H .non .none
  | bl (b : Bool) : DpN K H (.bl b) (.bool b)
  | int (i : Int) : DpN K H (.int i) (.int i)
  | str (x : Str) : DpN K H (.str x) (.str x)
  | lst {a : Addr} {xs : List V} {ds : List PyData} : SqL K H a xs → DpNL K H xs ds → DpN K H (.ref a) (.list ds)
  | tup {a : Addr} {xs : List V} {ds : List PyData} : SqT K H a xs → DpNL K H xs ds → DpN K H (.ref a) (.tuple ds)
  | dic {a : Addr} {kvs : List (Key × V)} {prs : List (PyData × PyData)} : Rd H a (.dK kvs) → prs.map (·.1) = kvs.map (fun p => kPy p.1) → DpNL K H (kvs.map (·.2)) (prs.map fun q => q.2) → DpN K H (.ref a) (.dict prs)
inductive DpNL (K : PySem.W.Frag) (H : Hp) : List V → List PyData → Prop
  | nil : DpNL K H [] []
  | cons {v : V} {vs : List V} {d : PyData} {ds : List PyData} : DpN K H v d → DpNL K H vs ds → DpNL K H (v :: vs) (d :: ds)
end
theorem tells_key {h : Heap} {k : Key} {u : Value} (r : keyIs k u = true) : Tells h u (kPy k) := by
  obtain ⟨_, q⟩ : ∃ l, Reads h u (kPy k) l := ⟨_, reads_key r⟩
  cases k with
  | inl i =>
    have q : Reads h u (.int i) _ := q
    cases q
    exact .ii _ _
  | inr x =>
    have q : Reads h u (.str x) _ := q
    cases q
    exact .ss _ _
theorem tells_keys {P : Program} {w : World} {h : Heap} : ∀ {es : List DictEntry} {vs : List (Key × Value)}, Pairs (mixKind P w) es vs → TellsL h (es.map fun e => e.key) (vs.map fun p => kPy p.1)
  | [], [], _ => .e
  | e :: es, v :: vs, p => by
    cases p with
    | cons a b t => exact .c (tells_key a) (tells_keys t)
theorem vals_ents {P : Program} {w : World} : ∀ {es : List DictEntry} {vs : List (Key × Value)} {kvs : List (Key × V)}, Pairs (mixKind P w) es vs → KV kvs vs → Vals (kvs.map (·.2)) (es.map fun e => e.val)
  | [], [], [], _, _ => .nil
  | e :: es, v :: vs, kv :: kvs, p, q => by
    cases p with
    | cons a b t =>
      cases q with
      | cons q1 q2 => exact .cons (by show RelV _ (DictEntry.val _); rw [b]; exact q1.2) (vals_ents t q2)
section
variable {X : Cx} {pins : List (Addr × Obj)} {σ : L2.St} {H : Hp} {s : Shared}
mutual
theorem DpN.tells (I : L2.Inv X pins σ H s) : ∀ {d : PyData} {v : V} {u : Value}, DpN X.K H v d → RelV v u → Tells s.heap u d
  | _, _, _, .non, r => by cases r; exact .nn
  | _, _, _, .bl b, r => by cases r; exact .bb b
  | _, _, _, .int i, r => by obtain ⟨t, rfl⟩ := r; exact .ii i t
  | _, _, _, .str x, r => by obtain ⟨t, rfl⟩ := r; exact .ss x t
  | _, _, _, .lst q l, r => by
    obtain ⟨its, rv, pl, _⟩ := I.list q
    obtain ⟨o, ho, hc, n, hd⟩ := pl.isList
    cases r
    exact .ll ho hc hd (by simpa using DpNL.tells I l rv)
  | _, _, _, .tup q l, r => by
    obtain ⟨its, rv, ⟨o, ho, hc, n, hd⟩, _⟩ := I.tuple q
    cases r
    exact .tt ho hc hd (by simpa using DpNL.tells I l rv)
  | _, _, _, .dic q e l, r => by
    obtain ⟨_, ns, vs, rv, o, es, ep, h1, h2, h3, _, h4, _⟩ := dk_rd I.hok q
    cases r
    refine .dd ns h1 h2.1 h3 ?_ ?_
    · rw [e]
      have ek : (_ : List PyData) = _ := congrArg (List.map kPy) rv.keys
      rw [List.map_map, List.map_map] at ek
      have tk := tells_keys (h := s.heap) h4
      rw [show (vs.map fun p => kPy p.1) = _ from ek.symm] at tk
      exact tk
    · exact DpNL.tells I l (vals_ents h4 rv)
theorem DpNL.tells (I : L2.Inv X pins σ H s) : ∀ {ds : List PyData} {vs : List V} {us : List Value}, DpNL X.K H vs ds → Vals vs us → TellsL s.heap us ds
  | _, _, _, .nil, r => by cases r; exact .e
  | _, _, _, .cons a b, r => by cases r with | cons r1 r2 => exact .c (DpN.tells I a r1) (DpNL.tells I b r2)
end
end
def rReprN (K : PySem.W.Frag) : List V → Hp → VK → Prop := fun xs H Q => ∃ v d, xs = [v] ∧ DpN K H v d ∧ d.showable = true ∧ d.depth ≤ 40 ∧ d.shown.length ≤ sizeLine ∧ Q (.str d.shown) H
theorem c_reprN {X : Cx} (hg : X.A.guards = some []) (hu : X.A.units + 64 < cLine) : CallR X (.builtin "repr") (rReprN X.K) := by
  intro pins s σ H xs us Q I r h
  obtain ⟨v, d, rfl, dp, hs, hd, hz, q⟩ := h
  have flat : ∀ {v : V} {d : PyData}, Dp X.K H v d → d.showable = true → d.depth ≤ 40 → d.shown.length ≤ sizeLine → Q (.str d.shown) H → Vals [v] us → wpAny (model X.prog X.w) X.A (call (.builtin "repr") us) (EP X pins σ Q) X.xe s :=
    fun {v} {d} a b c e f g => c_reprD hg hu pins s σ H [v] us Q I g ⟨v, d, rfl, a, b, c, e, f⟩
  have big : ∀ {p : Addr} {d : PyData}, DpN X.K H (.ref p) d → d.showable = true → d.depth ≤ 40 → d.shown.length ≤ sizeLine → Q (.str d.shown) H → Vals [.ref p] us → wpAny (model X.prog X.w) X.A (call (.builtin "repr") us) (EP X pins σ Q) X.xe s := fun {p} {d} a b c e f g => by
    obtain ⟨u, rfl, ru⟩ := vals1 g
    cases (show u = Value.ref p from ru)
    exact run_tells (DpN.tells I a rfl) b hg (by omega) e fun h' u tk hk => ⟨.str d.shown, H, I.kept (t' := tk) hk, ⟨_, rfl⟩, f⟩
  cases dp with
  | non => exact flat .non hs hd hz q r
  | bl b => exact flat (.bl b) hs hd hz q r
  | int i => exact flat (.int i) hs hd hz q r
  | str x => exact flat (.str x) hs hd hz q r
  | lst a l => exact big (.lst a l) hs hd hz q r
  | tup a l => exact big (.tup a l) hs hd hz q r
  | dic a e l => exact big (.dic a e l) hs hd hz q r
mutual
/-- no objects -/
def plainN : D → Bool
  | .non => true
  | .bl _ => true
  | .int _ => true
  | .str _ => true
  | .lst ds => plainNL ds
  | .tup ds => plainNL ds
  | .dic es => plainNK es
  | _ => false
def plainNL : List D → Bool
  | [] => true
  | d :: ds => plainN d && plainNL ds
def plainNK : List (Key × D) → Bool
  | [] => true
  | (_, d) :: ds => plainN d && plainNK ds
end
section
variable {K : PySem.W.Frag} {F H : Hp}
theorem toPyK_fst : ∀ es : List (Key × D), (toPyK es).map (·.1) = es.map fun e => kPy e.1
  | [] => by simp [toPyK]
  | (k, d) :: es => by simp [toPyK, toPyK_fst es]
mutual
theorem den_dpN (s : Same F H) : ∀ (d : D) {v : V}, Den K F v d → plainN d = true → DpN K H v (toPy d)
  | .non, _, h, _ => by cases h; unfold toPy; exact .non
  | .bl _, _, h, _ => by cases h; unfold toPy; exact .bl _
  | .int _, _, h, _ => by cases h; unfold toPy; exact .int _
  | .str _, _, h, _ => by cases h; unfold toPy; exact .str _
  | .lst ds, _, h, p => by
    cases h with
    | lst a l =>
      unfold plainN at p
      unfold toPy
      exact .lst (SqL.of (s _ _ a)) (den_dpNL s ds l p)
  | .tup ds, _, h, p => by
    cases h with
    | tup a l =>
      unfold plainN at p
      unfold toPy
      exact .tup (same_t s a) (den_dpNL s ds l p)
  | .dic es, _, h, p => by
    cases h with
    | dic a l =>
      unfold plainN at p
      unfold toPy
      refine .dic (.inr ⟨_, s _ _ a⟩) ?_ (den_dpNK s es l p)
      rw [toPyK_fst]
      have := congrArg (List.map kPy) l.keys
      rw [List.map_map, List.map_map] at this
      exact this.symm
  | .obj _ _, _, _, p => by unfold plainN at p; cases p
  | .ty _, _, _, p => by unfold plainN at p; cases p
  | .cls _, _, _, p => by unfold plainN at p; cases p
theorem den_dpNL (s : Same F H) : ∀ (ds : List D) {vs : List V}, DenL K F vs ds → plainNL ds = true → DpNL K H vs (toPyL ds)
  | [], _, h, _ => by cases h; unfold toPyL; exact .nil
  | d :: ds, _, h, p => by
    cases h with
    | cons a b =>
      unfold plainNL at p
      rw [Bool.and_eq_true] at p
      unfold toPyL
      exact .cons (den_dpN s d a p.1) (den_dpNL s ds b p.2)
theorem den_dpNK (s : Same F H) : ∀ (es : List (Key × D)) {kvs : List (Key × V)}, DenK K F kvs es → plainNK es = true → DpNL K H (kvs.map (·.2)) ((toPyK es).map fun q => q.2)
  | [], _, h, _ => by cases h; unfold toPyK; exact .nil
  | (k, d) :: es, _, h, p => by
    cases h with
    | cons a b =>
      unfold plainNK at p
      rw [Bool.and_eq_true] at p
      unfold toPyK
      exact .cons (den_dpN s d a p.1) (den_dpNK s es b p.2)
end
/-- data that repr is asked of, dicts among it -/
def okN (d : D) : Bool := plainN d && ((toPy d).showable && (decide ((toPy d).depth ≤ 40) && decide ((shownD d).length ≤ 16777216)))
theorem rc_reprN {d : D} (ok : okN d = true) : RcD K (rReprN K) [d] (.str (shownD d)) := fun F H xs s hx Q q => by
  unfold okN at ok
  simp only [Bool.and_eq_true, decide_eq_true_eq] at ok
  obtain ⟨h1, h2, h3, h4⟩ := ok
  cases hx with
  | cons h t =>
    cases t
    exact ⟨_, toPy d, rfl, den_dpN s d h h1, h2, h3, by rw [sizeLine_eq]; exact h4, q _ F H (Ext.refl s) (.str _)⟩
end
end Nm

set_option Elab.async false
set_option linter.all false
set_option maxRecDepth 100000
set_option maxHeartbeats 2000000
/-! len(x), repr(x), str(x), x == y by an own class's defs. -/
namespace Nm
open PySem PySem.Spec L2
/-- an object of the class at C whose def NAME is at g -/
structure OwnDef (K : PySem.W.Frag) (C : Addr) (m : Str) (g : Addr) : Prop where
  at_ : PySem.W.findIn K (.ref C) m = some (some (.ref g))
  fn : PySem.W.isFn K (.ref g) = true
def rOwn1 (C : Addr) (sp : Sp) (E : XK) (ok : V → Prop) : List V → Hp → VK → Prop := fun xs H Q => ∃ a dx fs, xs = [V.ref a] ∧ H a = some (.ins C dx fs) ∧ sp [.ref a] H (fun z H' => ok z ∧ Q z H') E
section
variable {X : Cx} {CX : CXT} {n : Nat} {C g : Addr} {fd : FuncData} {ps : List Str} {sp : Sp} {E : XK}
theorem raw0 (G : FnOk X.prog X.w X.K X.mg X.base CX n g fd ps sp) (hb : Binds X.K fd ps []) : FnR X.prog X.w X.K X.mg X.base CX n g sp := (G.raw hb .nil).imp fun vs H Q E h => by rw [List.append_nil]; exact h
theorem c_lenOwn (o : OwnDef X.K C "__len__" g) (G : FnOk X.prog X.w X.K X.mg X.base CX n g fd ps sp) (hb : Binds X.K fd ps []) (hr : Room (n + 1) X.A) (hx : Passes CX X E) : CallR X (.builtin "len") (rOwn1 C sp E fun z => ∃ i : Nat, z = .int (i : Nat) ∧ i < 1000000) := by
  intro pins s σ H xs us Q I r h
  obtain ⟨a, dx, fs, rfl, ha, q⟩ := h
  obtain ⟨u, rfl, ru⟩ := vals1 r
  cases (show u = Value.ref a from ru)
  obtain ⟨ox, od, J, _⟩ := StX.insC_at I (.inr ⟨dx, fs, ha⟩ : StX.InsC X H a C)
  obtain ⟨m, hF⟩ := I.fr
  refine PySem.W.len_K hF I.ok.mod.kin J o.at_ o.fn (wpAny_mono (wpAny_call (SlX.run_at (us := [.ref a]) (ws := [.ref a]) (raw0 G hb) (Room.in1 hr) I.env0.in1 hx I (.cons rfl .nil) q)) (fun w s' z => ?_) fun _ _ x => x)
  obtain ⟨z', H', I', rz, ⟨i, ei, hi⟩, qz⟩ := z
  subst ei
  obtain ⟨t, e⟩ := (show ∃ t, w = Value.int (i : Nat) t from rz)
  cases e
  exact ⟨⟨by omega, by omega⟩, .int (i : Nat), H', I'.kept (t' := s'.toks + 1) fun b o e => e, ⟨_, rfl⟩, qz⟩
theorem c_reprOwn (o : OwnDef X.K C "__repr__" g) (G : FnOk X.prog X.w X.K X.mg X.base CX n g fd ps sp) (hb : Binds X.K fd ps []) (hr : Room (n + 1) X.A) (hx : Passes CX X E) : CallR X (.builtin "repr") (rOwn1 C sp E fun z => ∃ y : Str, z = .str y) := by
  intro pins s σ H xs us Q I r h
  obtain ⟨a, dx, fs, rfl, ha, q⟩ := h
  obtain ⟨u, rfl, ru⟩ := vals1 r
  cases (show u = Value.ref a from ru)
  obtain ⟨ox, od, J, _⟩ := StX.insC_at I (.inr ⟨dx, fs, ha⟩ : StX.InsC X H a C)
  obtain ⟨m, hF⟩ := I.fr
  refine PySem.W.repr_K (Room.in1 hr).units0 hF I.ok.mod.kin J o.at_ o.fn (wpAny_mono (wpAny_call (SlX.run_at (us := [.ref a]) (ws := [.ref a]) (raw0 G hb) (Room.in1 hr) I.env0.in1 hx I (.cons rfl .nil) q)) (fun w s' z => ?_) fun _ _ x => x)
  obtain ⟨z', H', I', rz, ⟨y, ei⟩, qz⟩ := z
  subst ei
  obtain ⟨t, e⟩ := (show ∃ t, w = Value.str y t from rz)
  cases e
  exact ⟨.str y, H', I', ⟨_, rfl⟩, qz⟩
theorem c_strOwn (o : OwnDef X.K C "__str__" g) (G : FnOk X.prog X.w X.K X.mg X.base CX n g fd ps sp) (hb : Binds X.K fd ps []) (hr : Room (n + 2) X.A) (hx : Passes CX X E) : CallR X (.type "str") (rOwn1 C sp E fun z => ∃ y : Str, z = .str y) := by
  intro pins s σ H xs us Q I r h
  obtain ⟨a, dx, fs, rfl, ha, q⟩ := h
  obtain ⟨u, rfl, ru⟩ := vals1 r
  cases (show u = Value.ref a from ru)
  obtain ⟨ox, od, J, _⟩ := StX.insC_at I (.inr ⟨dx, fs, ha⟩ : StX.InsC X H a C)
  have hr2 : Room n X.A.in1.in1 := (show Room (n + 1) X.A.in1 from Room.in1 hr).in1
  refine PySem.W.kso_call hr2.units0 I.kIn J o.at_ o.fn (wpAny_mono (wpAny_call (SlX.run_at (us := [.ref a]) (ws := [.ref a]) (raw0 G hb) hr2 I.env0.in1.in1 hx I (.cons rfl .nil) q)) (fun w s' z => ?_) fun _ _ x => x)
  obtain ⟨z', H', I', rz, ⟨y, ei⟩, qz⟩ := z
  subst ei
  obtain ⟨t, e⟩ := (show ∃ t, w = Value.str y t from rz)
  cases e
  exact ⟨.str y, H', I', ⟨_, rfl⟩, qz⟩
end
/-! ### x == y, x != y -/
/-- the type of what stands to the right -/
inductive TyV (K : PySem.W.Frag) (H : Hp) : V → Value → Prop
  | non : TyV K H .non (.type "NoneType")
  | bl (b : Bool) : TyV K H (.bl b) (.type "bool")
  | int (i : Int) : TyV K H (.int i) (.type "int")
  | str (x : Str) : TyV K H (.str x) (.type "str")
  | tup {a : Addr} {xs : List V} : SqT K H a xs → TyV K H (.ref a) (.type "tuple")
  | ins {a C dx : Addr} {fs : List (Str × V)} : H a = some (.ins C dx fs) → TyV K H (.ref a) (.ref C)
def rEqOwn (K : PySem.W.Frag) (C : Addr) (sp : Sp) (E : XK) : R2 := fun x y H Q => ∃ a dx fs tb, x = .ref a ∧ H a = some (.ins C dx fs) ∧ TyV K H y tb ∧ PySem.W.notFirst K C tb = true ∧ sp [x, y] H (fun z H' => ∃ b, z = .bl b ∧ Q z H') E
def rNeOwn (C : Addr) (sp : Sp) (E : XK) : R2 := fun x y H Q => ∃ a dx fs b dy gs, x = .ref a ∧ y = .ref b ∧ H a = some (.ins C dx fs) ∧ H b = some (.ins C dy gs) ∧ sp [x, y] H (fun z H' => ∃ b, z = .bl b ∧ Q (.bl (!b)) H') E
/-- a class right under object whose own __eq__ is at g, and which has no __ne__ -/
structure OwnEq (K : PySem.W.Frag) (C g N : Addr) : Prop where
  eq : OwnDef K C "__eq__" g
  cl : ∃ nm q bs hdct sn sub ab col dd k0 k1 k2 k3 k5 newId, K.lookup C = some (excClassObj nm q C N bs [.type "object"] hdct sn sub ab col dd k0 k1 k2 k3 k5 newId)
  ns : PySem.W.nsOkIn K N = true
  e1 : PySem.W.nsIn K N "__eq__" = some (some (.ref g))
  e2 : PySem.W.nsIn K N "__ne__" = some none
theorem ns_at {K : PySem.W.Frag} {h : Heap} {N : Addr} {mg : Str → Option Value} {n : Str} {v : Value} (X : K.In h) (G : h.Ns N mg) (e : PySem.W.nsIn K N n = some (some v)) : mg n = some v := by
  obtain ⟨o, es, ep, ho, hd, _, hf⟩ := G
  unfold PySem.W.nsIn at e
  split at e
  · rename_i q
    have w := X _ _ q
    rw [ho] at w
    cases w
    cases hd
    split at e
    · rename_i he
      cases e
      rw [← hf]
      unfold nsFind findBy
      rw [← Array.find?_toList, he]
      rfl
    · split at e <;> cases e
  · cases e
section
variable {X : Cx} {CX : CXT} {n : Nat} {C g N : Addr} {fd : FuncData} {ps : List Str} {sp : Sp} {E : XK}
theorem TyV.looks {pins : List (Addr × Obj)} {σ : L2.St} {H : Hp} {s : Shared} {y : V} {tb v : Value} {M : Model} (I : L2.Inv X pins σ H s) (h : TyV X.K H y tb) (r : RelV y v) : PySem.W.Looks M s.heap (typeOf v) tb := by
  cases h with
  | non => cases r; exact PySem.W.Looks.of_pure rfl
  | bl b => cases r; exact PySem.W.Looks.of_pure rfl
  | int i => obtain ⟨t, rfl⟩ := r; exact PySem.W.Looks.of_pure rfl
  | str x => obtain ⟨t, rfl⟩ := r; exact PySem.W.Looks.of_pure rfl
  | tup q =>
    obtain ⟨its, _, ⟨o, ho, hc, _⟩, _⟩ := I.tuple q
    cases r
    intro A Q E' s' k q'
    exact wpAny_typeOf_ref (k _ _ ho) (by rw [hc]; exact q')
  | ins q =>
    obtain ⟨ox, od, J, _⟩ := StX.insC_at I (.inr ⟨_, _, q⟩ : StX.InsC X H _ _)
    cases r
    exact J.type
theorem op_eqOwn (o : OwnDef X.K C "__eq__" g) (G : FnOk X.prog X.w X.K X.mg X.base CX n g fd ps sp) (hb : Binds X.K fd ps []) (hr : Room n X.A) (hx : Passes CX X E) : OpR X (compareOp .Eq) (rEqOwn X.K C sp E) := by
  intro pins s σ H x y v u Q I rx ry h
  obtain ⟨a, dx, fs, tb, rfl, ha, ty, hn, q⟩ := h
  cases (show v = Value.ref a from rx)
  obtain ⟨ox, od, J, _⟩ := StX.insC_at I (.inr ⟨dx, fs, ha⟩ : StX.InsC X H a C)
  obtain ⟨m, hF⟩ := I.fr
  show wpAny _ _ (richCompare .Eq (.ref a) u) _ _ _
  refine PySem.W.cmp_K (op := .Eq) (tb := tb) hr.units0 hF I.ok.mod.kin J (ty.looks I ry) hn o.at_ o.fn ?_
  refine wpAny_mono (wpAny_call (run_fnR (us := [.ref a, u]) (vs := [.ref a, y]) (raw0 G hb) hr hx I (.cons rfl (.cons ry .nil)) q)) (fun w s' z => ?_) fun _ _ x => x
  obtain ⟨z', H', I', rz, b, eb, qz⟩ := z
  subst eb
  exact SlX.cmpback rz ⟨.bl b, H', I', rz, qz⟩
theorem op_neOwn (o : OwnEq X.K C g N) (G : FnOk X.prog X.w X.K X.mg X.base CX n g fd ps sp) (hb : Binds X.K fd ps []) (hr : Room (n + 1) X.A) (hx : Passes CX X E) (hu : X.A.units + 1 < cLine) : OpR X (compareOp .NotEq) (rNeOwn C sp E) := by
  intro pins s σ H x y v u Q I rx ry h
  obtain ⟨a, dx, fs, b, dy, gs, rfl, rfl, ha, hbb, q⟩ := h
  cases (show v = Value.ref a from rx)
  cases (show u = Value.ref b from ry)
  obtain ⟨ox, od, J, _⟩ := StX.insC_at I (.inr ⟨dx, fs, ha⟩ : StX.InsC X H a C)
  obtain ⟨oy, od', J', _⟩ := StX.insC_at I (.inr ⟨dy, gs, hbb⟩ : StX.InsC X H b C)
  obtain ⟨nm, qn, bs, hdct, sn, sub, ab, col, dd, k0, k1, k2, k3, k5, newId, hl⟩ := o.cl
  have G2 : s.heap.Ns N (s.heap.nsMap N) := .of_isNs (PySem.W.isNs_of_in I.kIn o.ns)
  have hfn : ((X.K.lookup g).map (fun x => x.cls) == some (Value.type "function")) = true := o.eq.fn
  obtain ⟨og, hog, hcg⟩ : ∃ og, X.K.lookup g = some og ∧ og.cls = .type "function" := by
    cases e : X.K.lookup g with
    | none => rw [e] at hfn; cases hfn
    | some og => rw [e] at hfn; exact ⟨og, rfl, by simpa using hfn⟩
  have OE : s.heap.OwnEqNoNe a C g "object" [.type "object"] :=
    ⟨ox, og, nm, qn, N, bs, hdct, sn, sub, ab, col, dd, k0, k1, k2, k3, k5, newId, _, _, J.at_, J.cls, I.kIn _ _ hl, G2, ns_at I.kIn G2 o.e1, I.kIn _ _ hog, hcg, F.cmp_object.mro, F.cmp_object.eq.lookup, PySem.W.ns_none_of I.kIn G2 o.e2⟩
  obtain ⟨hp, gg, dd', tk, os⟩ := s
  refine compareOp_ne_ownEq F.cmp_object OE J'.at_ J'.cls hu ?_
  refine wpAny_mono (wpAny_call (SlX.run_at (us := [.ref a, .ref b]) (ws := [.ref a, .ref b]) (raw0 G hb) (Room.in1 hr) I.env0.in1 hx I (.cons rfl (.cons rfl .nil)) q)) (fun w s' z => ?_) fun _ _ x => x
  obtain ⟨z', H', I', rz, b', eb, qz⟩ := z
  subst eb
  cases (show w = Value.bool b' from rz)
  exact ⟨b', rfl, .bl (!b'), H', I', rfl, qz⟩
end
end Nm

set_option Elab.async false
set_option linter.all false
set_option maxRecDepth 100000
set_option maxHeartbeats 2000000
/-! dicts compared, tuples of dicts compared, f-strings, stars of dicts. -/
namespace Nm
open PySem PySem.Spec L2
/-! ### dict == dict -/
def sV : V → V → Bool
  | .str x, .str y => x == y
  | .int i, .int j => i == j
  | _, _ => false
def SmK (x y : V) : Prop := (∃ a b, x = .str a ∧ y = .str b) ∨ ∃ i j, x = .int i ∧ y = .int j
def eqK (ks ls : List (Key × V)) : Bool := ks.all fun p => match valV ls p.1 with
  | none => false
  | some u => sV p.2 u
theorem smk_eq {A : Around} {s : Shared} {x y : V} {v u : Value} (h : SmK x y) (rx : RelV x v) (ry : RelV y u) : SeqAt.EqAt A s v u (sV x y) := by
  rcases h with ⟨a, b, rfl, rfl⟩ | ⟨a, b, rfl, rfl⟩
  · obtain ⟨t, rfl⟩ := rx
    obtain ⟨t', rfl⟩ := ry
    exact SeqAt.EqAt.str_str a t b t'
  · obtain ⟨t, rfl⟩ := rx
    obtain ⟨t', rfl⟩ := ry
    exact SeqAt.EqAt.int_int a t b t'
theorem hits_any {A : Around} {s : Shared} {ls : List (Key × V)} {vb : List (Key × Value)} (rb : KV ls vb) {ks : List (Key × V)} {va : List (Key × Value)} (ra : KV ks va) :
    (∀ p ∈ ks, ∀ u, valV ls p.1 = some u → SmK p.2 u) → PySem.W.KeqHits A s vb va (eqK ks ls) := by
  unfold KV at ra
  induction ra with
  | nil => intro _; exact .nil
  | @cons p q ps qs h t ih =>
    intro hp
    obtain ⟨h1, h2⟩ := h
    obtain ⟨key, v⟩ := q
    have h1' : p.1 = key := h1
    have rr := rb.val p.1
    have hrest := ih fun p' hm => hp p' (List.mem_cons_of_mem _ hm)
    show PySem.W.KeqHits A s vb ((key, v) :: qs) ((match valV ls p.1 with | none => false | some u => sV p.2 u) && eqK ps ls)
    cases e : valV ls p.1 with
    | none =>
      rw [e] at rr
      have hn : valueAt vb p.1 = none := by
        cases e2 : valueAt vb p.1 with
        | none => rfl
        | some z => rw [e2] at rr; cases rr
      rw [h1'] at hn
      exact .miss hn
    | some u =>
      rw [e] at rr
      obtain ⟨y, hy, ry⟩ := rr.some_of
      rw [h1'] at hy
      exact .hit hy (smk_eq (hp p List.mem_cons_self u e) h2 ry) hrest
theorem hits_in {P : Program} {w : World} {A : Around} {s : Shared} {vb : List (Key × Value)} : ∀ {va : List (Key × Value)} {b : Bool}, PySem.W.KeqHits A s vb va b → PySem.W.KeqHitsIn P w A s vb va b
  | _, _, .nil => .nil
  | _, _, .miss h => .miss h
  | _, _, .hit h e t => .hit h (SeqAt.EqAt.inModel e P w) (hits_in t)
structure DD (H : Hp) (a b : Addr) (ks ls : List (Key × V)) : Prop where
  l : Rd H a (.dK ks)
  r : Rd H b (.dK ls)
  s : ∀ p ∈ ks, ∀ u, valV ls p.1 = some u → SmK p.2 u
def rEqDic : R2 := fun x y H Q => ∃ a b ks ls, x = .ref a ∧ y = .ref b ∧ DD H a b ks ls ∧ Q (.bl (ks.length == ls.length && eqK ks ls)) H
def rNeDic : R2 := fun x y H Q => ∃ a b ks ls, x = .ref a ∧ y = .ref b ∧ DD H a b ks ls ∧ Q (.bl (!(ks.length == ls.length && eqK ks ls))) H
def rEqTwo (K : PySem.W.Frag) : R2 := fun x y H Q => ∃ t t' a a' b b' ka kb ka' kb', x = .ref t ∧ y = .ref t' ∧ SqT K H t [.ref a, .ref b] ∧ SqT K H t' [.ref a', .ref b'] ∧ DD H a a' ka ka' ∧ DD H b b' kb kb' ∧
  (a = a' → (ka.length == ka'.length && eqK ka ka') = true) ∧ (b = b' → (kb.length == kb'.length && eqK kb kb') = true) ∧ Q (.bl ((ka.length == ka'.length && eqK ka ka') && (kb.length == kb'.length && eqK kb kb'))) H
section
variable {X : Cx}
theorem op_eqDic (hu : X.A.units < cLine) : OpR X (compareOp .Eq) rEqDic := by
  intro pins s σ H x y v u Q I rx ry h
  obtain ⟨a, b, ks, ls, rfl, rfl, d, q⟩ := h
  obtain rfl : v = Value.ref a := rx
  obtain rfl : u = Value.ref b := ry
  obtain ⟨_, ya, va, ra, da⟩ := dk_rd I.hok d.l
  obtain ⟨_, yb, vb, rb, db⟩ := dk_rd I.hok d.r
  exact PySem.W.keq_eq (knd := mixKind X.prog X.w) (r := eqK ks ls) ya yb da db hu (fun _ => hits_any rb ra d.s) (fin_bl I q (by rw [ra.length, rb.length]))
theorem op_neDic (hu : X.A.units < cLine) : OpR X (compareOp .NotEq) rNeDic := by
  intro pins s σ H x y v u Q I rx ry h
  obtain ⟨a, b, ks, ls, rfl, rfl, d, q⟩ := h
  obtain rfl : v = Value.ref a := rx
  obtain rfl : u = Value.ref b := ry
  obtain ⟨_, ya, va, ra, da⟩ := dk_rd I.hok d.l
  obtain ⟨_, yb, vb, rb, db⟩ := dk_rd I.hok d.r
  exact PySem.W.keq_ne (knd := mixKind X.prog X.w) (r := eqK ks ls) ya yb da db hu (fun _ => hits_any rb ra d.s) (fin_bl I q (by rw [ra.length, rb.length]))
theorem dd_in {pins : List (Addr × Obj)} {σ : L2.St} {H : Hp} {s : Shared} {A : Around} {a b : Addr} {ks ls : List (Key × V)} (I : L2.Inv X pins σ H s) (d : DD H a b ks ls) (hs : a = b → (ks.length == ls.length && eqK ks ls) = true) (hu : A.units < cLine) :
    SeqAt.EqIn X.prog X.w A s (.ref a) (.ref b) (ks.length == ls.length && eqK ks ls) := by
  by_cases z : a = b
  · rw [hs z, z]
    exact (PySem.W.EqTree.same (n := 0)).at A (by simpa using hu)
  · refine SeqAt.EqIn.of_refs z fun E Q q => ?_
    obtain ⟨_, ya, va, ra, da⟩ := dk_rd I.hok d.l
    obtain ⟨_, yb, vb, rb, db⟩ := dk_rd I.hok d.r
    refine PySem.W.keq_eqIn (knd := mixKind X.prog X.w) (r := eqK ks ls) ya yb da db hu (fun _ => hits_in (hits_any rb ra d.s)) ?_
    rw [← ra.length, ← rb.length]
    exact q
theorem op_eqTwo (hu : X.A.units + 2 < cLine) : OpR X (compareOp .Eq) (rEqTwo X.K) := by
  intro pins s σ H x y v u Q I rx ry h
  obtain ⟨t, t', a, a', b, b', ka, kb, ka', kb', rfl, rfl, ht, ht', d1, d2, i1, i2, q⟩ := h
  obtain rfl : v = Value.ref t := rx
  obtain rfl : u = Value.ref t' := ry
  obtain ⟨its, r1, p1, _⟩ := I.tuple ht
  obtain ⟨its', r2, p2, _⟩ := I.tuple ht'
  obtain ⟨u1, u2, rfl, e1, e2⟩ := r1.two
  obtain ⟨w1, w2, rfl, f1, f2⟩ := r2.two
  cases (show u1 = Value.ref a from e1)
  cases (show u2 = Value.ref b from e2)
  cases (show w1 = Value.ref a' from f1)
  cases (show w2 = Value.ref b' from f2)
  show wpAny _ _ (richCompare .Eq _ _) _ _ _
  refine SeqAt.rcIn_tuples (e := fun j => if j = 0 then (ka.length == ka'.length && eqK ka ka') else (kb.length == kb'.length && eqK kb kb')) p1 p2 (by omega) (fun j h1 h2 => ?_) ?_
  · have hj : j = 0 ∨ j = 1 := by simp at h1; omega
    rcases hj with rfl | rfl
    · exact dd_in I d1 i1 (by show X.A.units + 1 < cLine; omega)
    · exact dd_in I d2 i2 (by show X.A.units + 1 < cLine; omega)
  · exact fin_bl I q (by simp [List.range, List.range.loop])
end
end Nm

set_option Elab.async false
set_option linter.all false
set_option maxRecDepth 100000
set_option maxHeartbeats 2000000
namespace Nm
open PySem PySem.Spec L2
def eqM {α : Type} [DecidableEq α] (m m' : List (Nat × α)) : Bool := m.length == m'.length && m.all fun p => decide (lk m' p.1 = some p.2)
def enM {α : Type} (g : α → D) (m : List (Nat × α)) : List (Key × D) := m.map fun p => ((.inr ⟨#[p.1]⟩ : Key), g p.2)
/-- a kind of values that are compared: texts or whole numbers -/
inductive Kd {α : Type} (g : α → D) : Prop
  | s (f : α → Str) (i : ∀ a b, f a = f b → a = b) (e : ∀ a, g a = .str (f a)) : Kd g
  | n (f : α → Int) (i : ∀ a b, f a = f b → a = b) (e : ∀ a, g a = .int (f a)) : Kd g
theorem kd_txt : Kd txt := .s (fun l => ⟨l.toArray⟩) (fun a b h => by have h := congrArg Str.cps h; have h : a.toArray = b.toArray := h; simpa using congrArg Array.toList h) fun _ => rfl
theorem kd_int : Kd (fun n : Nat => D.int (n : Nat)) := .n (fun n => (n : Nat)) (fun a b h => Int.ofNat.inj h) fun _ => rfl
section
variable {K : PySem.W.Frag} {F H : Hp} {α : Type} [DecidableEq α] {g : α → D} {m m' : List (Nat × α)}
theorem kd_sV (hg : Kd g) {a b : α} {v u : V} (hv : Den K F v (g a)) (hu : Den K F u (g b)) : SmK v u ∧ sV v u = decide (a = b) := by
  cases hg with
  | s f i e =>
    rw [e] at hv hu
    cases hv; cases hu
    refine ⟨.inl ⟨_, _, rfl, rfl⟩, ?_⟩
    by_cases z : a = b
    · subst z; simp [sV]
    · have : f a ≠ f b := fun h => z (i a b h)
      simp [sV, z, this]
  | n f i e =>
    rw [e] at hv hu
    cases hv; cases hu
    refine ⟨.inr ⟨_, _, rfl, rfl⟩, ?_⟩
    by_cases z : a = b
    · subst z; simp [sV]
    · have : f a ≠ f b := fun h => z (i a b h)
      simp [sV, z, this]
theorem eqK_map (hg : Kd g) {ls : List (Key × V)} (d2 : DenK K F ls (enM g m')) : ∀ {m : List (Nat × α)} {ks : List (Key × V)}, DenK K F ks (enM g m) → eqK ks ls = (m.all fun p => decide (lk m' p.1 = some p.2)) ∧ ∀ p ∈ ks, ∀ u, valV ls p.1 = some u → SmK p.2 u
  | [], _, h => by cases h; exact ⟨rfl, fun p hp => by cases hp⟩
  | (c, a) :: m, _, h => by
    cases h with
    | @cons k v vs d ds hv ht =>
      obtain ⟨e1, e2⟩ := eqK_map hg d2 ht
      have key := DenK.val (K := K) (F := F) (.inr ⟨#[c]⟩ : Key) d2
      rw [show valD (enM g m') (.inr ⟨#[c]⟩) = (lk m' c).map g from valD_map g c m'] at key
      have step : (∀ u, valV ls (.inr ⟨#[c]⟩) = some u → SmK v u) ∧ (match valV ls (.inr ⟨#[c]⟩) with | none => false | some u => sV v u) = decide (lk m' c = some a) := by
        rcases key with ⟨v', d', h1, h2, h3⟩ | ⟨h1, h2⟩
        · obtain ⟨b, hb, rfl⟩ := Option.map_eq_some_iff.mp h2
          obtain ⟨s1, s2⟩ := kd_sV hg hv h3
          rw [h1, hb]
          refine ⟨fun u e => (by cases e; exact s1), ?_⟩
          show sV v v' = _
          rw [s2]
          by_cases z : a = b
          · subst z; simp
          · have z' : ¬ b = a := fun e => z e.symm
            simp [z, z']
        · have hb : lk m' c = none := by simpa using h2
          rw [h1, hb]
          exact ⟨fun u e => (nomatch e), rfl⟩
      refine ⟨?_, fun p hp u e => ?_⟩
      · show ((match valV ls (.inr ⟨#[c]⟩) with | none => false | some u => sV v u) && eqK vs ls) = _
        rw [step.2, e1]
        rfl
      · rcases List.mem_cons.mp hp with rfl | hp
        · exact step.1 u e
        · exact e2 p hp u e
theorem denK_len : ∀ {ks : List (Key × V)} {es : List (Key × D)}, DenK K F ks es → ks.length = es.length
  | _, _, .nil => rfl
  | _, _, .cons _ t => congrArg (· + 1) (denK_len t)
theorem denK_fun (hg : Kd g) : ∀ {m m' : List (Nat × α)} {ks : List (Key × V)}, DenK K F ks (enM g m) → DenK K F ks (enM g m') → m = m'
  | [], [], _, _, _ => rfl
  | [], _ :: _, _, h, h' => by cases h; cases h'
  | _ :: _, [], _, h, h' => by cases h'; cases h
  | (c, a) :: m, (c', b) :: m', ks, h, h' => by
    unfold enM at h h'
    rw [List.map_cons] at h h'
    generalize ek : (Sum.inr ⟨#[c]⟩ : Key) = k1 at h
    generalize ek' : (Sum.inr ⟨#[c']⟩ : Key) = k2 at h'
    cases h with
    | cons hv ht =>
      cases h' with
      | cons hv' ht' =>
        have e := one_eq.mp (ek.trans ek'.symm)
        have ab : a = b := by
          cases hg with
          | s f i e => rw [e] at hv hv'; generalize hx : f a = x at hv; generalize hy : f b = y at hv'; cases hv; cases hv'; exact i _ _ (hx.trans hy.symm)
          | n f i e => rw [e] at hv hv'; generalize hx : f a = x at hv; generalize hy : f b = y at hv'; cases hv; cases hv'; exact i _ _ (hx.trans hy.symm)
        rw [e, ab, denK_fun hg ht ht']
theorem eqM_refl (hn : (m.map (·.1)).Nodup) : eqM m m = true := by
  unfold eqM
  simp only [beq_self_eq_true, Bool.true_and, List.all_eq_true, decide_eq_true_eq]
  exact fun p hp => lk_self hn hp
theorem Den.dicR {v : V} {es : List (Key × D)} (s : Same F H) (h : Den K F v (.dic es)) : ∃ a o kvs, v = .ref a ∧ F a = some (.frz o (.dK kvs)) ∧ Rd H a (.dK kvs) ∧ DenK K F kvs es := by
  cases h with
  | @dic a o kvs _ hh l => exact ⟨a, o, kvs, rfl, hh, .inr ⟨o, s _ _ hh⟩, l⟩
theorem dd_of (hg : Kd g) {a b : Addr} {ks ls : List (Key × V)} (r1 : Rd H a (.dK ks)) (r2 : Rd H b (.dK ls)) (d1 : DenK K F ks (enM g m)) (d2 : DenK K F ls (enM g m')) : DD H a b ks ls ∧ (ks.length == ls.length && eqK ks ls) = eqM m m' := by
  obtain ⟨e1, e2⟩ := eqK_map hg d2 d1
  refine ⟨⟨r1, r2, e2⟩, ?_⟩
  rw [e1, denK_len d1, denK_len d2]
  unfold eqM enM
  rw [List.length_map, List.length_map]
theorem rv_eqMap (hg : Kd g) : RvD K rEqDic (.dic (enM g m)) (.dic (enM g m')) (.bl (eqM m m')) := fun F H x y s hx hy Q q => by
  obtain ⟨a, o, ks, rfl, _, ra, da⟩ := Den.dicR s hx
  obtain ⟨b, o', ls, rfl, _, rb, db⟩ := Den.dicR s hy
  obtain ⟨dd, e⟩ := dd_of hg ra rb da db
  exact ⟨a, b, ks, ls, rfl, rfl, dd, by rw [e]; exact q _ F H (Ext.refl s) (.bl _)⟩
theorem rv_neMap (hg : Kd g) : RvD K rNeDic (.dic (enM g m)) (.dic (enM g m')) (.bl (!eqM m m')) := fun F H x y s hx hy Q q => by
  obtain ⟨a, o, ks, rfl, _, ra, da⟩ := Den.dicR s hx
  obtain ⟨b, o', ls, rfl, _, rb, db⟩ := Den.dicR s hy
  obtain ⟨dd, e⟩ := dd_of hg ra rb da db
  exact ⟨a, b, ks, ls, rfl, rfl, dd, by rw [e]; exact q _ F H (Ext.refl s) (.bl _)⟩
end
section
variable {K : PySem.W.Frag} {F H : Hp} {σ : L2.St}
theorem two_of {xs : List V} {d e : D} (h : DenL K F xs [d, e]) : ∃ v w, xs = [v, w] ∧ Den K F v d ∧ Den K F w e := by
  cases h with
  | cons a t => cases t with
    | cons b t => cases t; exact ⟨_, _, rfl, a, b⟩
theorem tup_of {v : V} {ds : List D} (h : Den K F v (.tup ds)) : ∃ t xs, v = .ref t ∧ SqT K F t xs ∧ DenL K F xs ds := by
  cases h with
  | tup st l => exact ⟨_, _, rfl, st, l⟩
theorem rv_eqRule {fo fo' : Fo} {ma ma' : Ma} (hf : (fo.map (·.1)).Nodup) (hm : (ma.map (·.1)).Nodup) : RvD K (rEqTwo K) (ruleD fo ma) (ruleD fo' ma') (.bl (eqM fo fo' && eqM ma ma')) := fun F H x y s hx hy Q q => by
  obtain ⟨t, xs, rfl, st, l⟩ := tup_of hx
  obtain ⟨t', ys, rfl, st', l'⟩ := tup_of hy
  obtain ⟨v1, v2, rfl, h1, h2⟩ := two_of l
  obtain ⟨w1, w2, rfl, g1, g2⟩ := two_of l'
  obtain ⟨a, oa, ka, rfl, fa, ra, da⟩ := Den.dicR s h1
  obtain ⟨b, ob, kb, rfl, fb, rb, db⟩ := Den.dicR s h2
  obtain ⟨a', oa', ka', rfl, fa', ra', da'⟩ := Den.dicR s g1
  obtain ⟨b', ob', kb', rfl, fb', rb', db'⟩ := Den.dicR s g2
  obtain ⟨d1, e1⟩ := dd_of (m := fo) (m' := fo') kd_txt ra ra' da da'
  obtain ⟨d2, e2⟩ := dd_of (m := ma) (m' := ma') kd_int rb rb' db db'
  have i1 : a = a' → eqM fo fo' = true := fun z => by
    rw [← z, fa] at fa'
    have ek : ka = ka' := by injection fa' with h; injection h with h1 h2; injection h2
    rw [← ek] at da'
    rw [← denK_fun (m := fo) (m' := fo') kd_txt da da']
    exact eqM_refl hf
  have i2 : b = b' → eqM ma ma' = true := fun z => by
    rw [← z, fb] at fb'
    have ek : kb = kb' := by injection fb' with h; injection h with h1 h2; injection h2
    rw [← ek] at db'
    rw [← denK_fun (m := ma) (m' := ma') kd_int db db']
    exact eqM_refl hm
  refine ⟨t, t', a, a', b, b', ka, kb, ka', kb', rfl, rfl, same_t s st, same_t s st', d1, d2, fun z => e1.trans (i1 z), fun z => e2.trans (i2 z), ?_⟩
  rw [e1, e2]
  exact q _ F H (Ext.refl s) (.bl _)
end
end Nm

set_option Elab.async false
set_option linter.all false
set_option maxRecDepth 100000
set_option maxHeartbeats 1000000
namespace Nm
open PySem PySem.Spec L2
/-! ### stars of dicts -/
def tStarD (te : TE) (t : TA) : TA := fun σ H Q => te σ H fun x H1 => ∃ p kvs, x = V.ref p ∧ Rd H1 p (.dK kvs) ∧ t σ H1 fun ys H2 => Q ((kvs.map fun kv => kV kv.1) ++ ys) H2
theorem code_collect {P : Program} {w : World} {A : Around} {s : Shared} {T : String} {r d : Addr} {n : Nat} {Pv : Nat → Value → Prop} {OK : Heap → Prop} (R : Result → Shared → Prop)
    (S : PySem.W.KdlSrc P w T r d n Pv OK) (hh : A.handled = none) (hok : OK s.heap) (hn : n ≤ sizeLine)
    (hR : ∀ h' tk acc' c', (∀ b o, s.heap.get? b = some o → h'.get? b = some o) → h'.get? s.heap.objs.size = some { cls := .type "list", dict := none, data := .seq acc' c', slots := #[] } → ItemsOf Pv acc' n → R (.ok (.ret (.ref s.heap.objs.size))) { s with heap := h', toks := tk }) :
    codeAny (model P w) A (.builtin "proto.collect" ⟨[.ref r], []⟩) R s := by
  refine codeAny_builtin PySem.F.entry_proto_collect ?_
  rw [Around.under_plainId PySem.F.plain_proto_collect _]
  show wpAny _ A.in1 (newList [] >>= fun l => again (.builtin "list.__iadd__" ⟨[l, .ref r], []⟩)) _ _ s
  refine wpAny_bind (wpAny_newObj_type ?_)
  refine wpAny_pure ⟨plainId_quiet PySem.F.plain_list_iadd _, codeAny_builtin PySem.F.entry_list_iadd ?_⟩
  rw [Around.under_plainId PySem.F.plain_list_iadd _]
  show wpAny _ A.in1 (Builtin.List.listExtendWith (.ref s.heap.objs.size) (.ref r) (.ref s.heap.objs.size)) _ _ _
  have hlt := S.there _ hok
  have ne : ∀ b o, s.heap.get? b = some o → b ≠ s.heap.objs.size := fun b o e => Nat.ne_of_lt (Heap.lt_size e)
  exact PySem.W.kdl_extend (R := R) (s := { s with heap := s.heap.push { cls := .type "list", data := .seq ([] : List Value).toArray } }) S hh (S.keep _ _ hok fun b _ o e => Heap.get?_push_of_some _ e) s.heap.objs.size (Nat.ne_of_gt hlt.1) (Nat.ne_of_gt hlt.2) _ 0 (Heap.get?_push_size _ rfl) (fun h' tk acc' c' hk hS' hacc => hR h' tk acc' c' (fun b o e => hk b o (ne b o e) (Heap.get?_push_of_some _ e)) hS' hacc) hn
theorem collect_dk {P : Program} {w : World} {A : Around} {s : Shared} {T : String} {r d : Addr} {n : Nat} {Pv : Nat → Value → Prop} {OK : Heap → Prop} {Q : List Value → Shared → Prop} {E : Value → Shared → Prop}
    (S : PySem.W.KdlSrc P w T r d n Pv OK) (hh : A.handled = none) (hok : OK s.heap) (hn : n ≤ sizeLine)
    (hQ : ∀ h' tk acc', (∀ b o, s.heap.get? b = some o → h'.get? b = some o) → ItemsOf Pv acc' n → Q acc'.toList { s with heap := h', toks := tk }) : wpAny (model P w) A (collect (.ref r)) Q E s := by
  unfold collect
  refine wpAny_bind (wpAny_runValue (code_collect _ S hh hok hn fun h' tk acc' c' hk hS' hacc => ?_))
  show wpAny _ A (load s.heap.objs.size >>= _) _ _ _
  exact wpAny_bind (wpAny_load hS' (wpAny_pure (hQ h' tk acc' hk hacc)))
section
variable {X : Cx}
theorem pa_starD {e : Expr} {es : List Expr} {te : TE} {t : TA} {p : Pos} (hcalm : X.calm = true) (he : PE X e te) (hr : PA X es t) (hs : starEach (.Starred e p :: es) X.env = (true, eval e X.env) :: starEach es X.env := by rfl) : PA X (.Starred e p :: es) (tStarD te t) := by
  refine ⟨fun pos pins s σ H Q I h => ?_⟩
  refine PySem.W.items_star (thn (he.run pins s σ H _ I h) fun v s1 hv => ?_) hs
  obtain ⟨y, H1, I1, ry, a, kvs, ey, hx, q⟩ := hv
  subst ey
  obtain rfl : v = Value.ref a := ry
  obtain ⟨z, lo, vs, rel, dd⟩ := dk_rd I1.hok hx
  obtain ⟨ep, hat⟩ := dd.dictAt
  have ek : (kvs.map fun kv => kV kv.1) = vs.map fun p => kV p.1 := by
    have e1 := congrArg (List.map kV) rel.keys
    rwa [List.map_map, List.map_map] at e1
  unfold PySem.W.StarOf notIterableAtAll
  refine wpAny_bind (wpAny_specialOf dd.typeIs PySem.F.slot_dict_iter.lookup (wpAny_pure ⟨rfl, ?_⟩))
  refine collect_dk (PySem.W.kdl_dict (knd := mixKind X.prog X.w) (kvs := vs) (ep := ep) lo) (I1.ok.hd hcalm) hat (by rw [← rel.length]; exact z) fun h' tk acc hk hacc => ?_
  have hv : Vals (vs.map fun p => kV p.1) acc.toList := keys_at (by rw [Array.length_toList]; exact hacc.1) fun j v e => hacc.2 j v (by rw [← Array.getElem?_toList]; exact e)
  refine thn (hr.run pos pins _ σ H1 _ (I1.kept (t' := tk) hk) q) fun ws s3 hw => ?_
  obtain ⟨vs', H3, I3, r3, q3⟩ := hw
  exact ⟨_, H3, I3, (by rw [ek]; exact hv.append r3), q3⟩
/-! ### f-strings -/
def dig2 (n : Nat) : Str := ⟨#[48, 48 + n]⟩
def tFmt02 (te : TE) : TE := fun σ H Q => te σ H fun x H1 => ∃ n : Nat, x = .int (n : Nat) ∧ n < 10 ∧ Q (.str (dig2 n)) H1
theorem gives02 : ∀ n : Nat, n < 10 → ∀ t u, Gives (Builtin.«int.__format__» ⟨[.int (n : Nat) t, .str "02d" u], []⟩) (.str (dig2 n))
  | 0, _, t, u => .of_eq rfl
  | 1, _, t, u => .of_eq rfl
  | 2, _, t, u => .of_eq rfl
  | 3, _, t, u => .of_eq rfl
  | 4, _, t, u => .of_eq rfl
  | 5, _, t, u => .of_eq rfl
  | 6, _, t, u => .of_eq rfl
  | 7, _, t, u => .of_eq rfl
  | 8, _, t, u => .of_eq rfl
  | 9, _, t, u => .of_eq rfl
  | n + 10, h, _, _ => by omega
theorem pe_fmt02 {e g : Expr} {te : TE} {pos : Pos} (he : PE X e te) (hg : PE X g (tC (.str "02d"))) : PE X (.FormattedValue e (-1) (some g) pos) (tFmt02 te) := by
  refine ⟨fun pins s σ H Q I h => ?_⟩
  refine wpAny_FormattedValue_spec (thn (he.run pins s σ H _ I h) fun v s1 hv => ?_)
  obtain ⟨x, H1, I1, r1, n, rfl, hn, q⟩ := hv
  obtain ⟨t, rfl⟩ := (show ∃ t, v = Value.int (n : Nat) t from r1)
  refine thn (hg.run pins s1 σ H1 (fun y H2 => y = .str "02d" ∧ H2 = H1) I1 ⟨rfl, rfl⟩) fun r s2 hr => ?_
  obtain ⟨y, H2, I2, r2, rfl, rfl⟩ := hr
  obtain ⟨t2, rfl⟩ := (show ∃ t, r = Value.str "02d" t from r2)
  refine ⟨_, t2, rfl, ?_⟩
  refine wpAny_formatField_spec (T := "int") (by decide) (fun s' => rfl) PySem.F.slot_int_format PySem.F.entry_int_format PySem.F.args_int_format_2 (fun u => gives02 n hn t u) ?_ (by rw [sizeLine_eq]; decide) (by rw [sizeLine_eq]; show (2 : Nat) ≤ _; decide)
  exact ⟨.str (dig2 n), H2, (I2.tok _).tok _, ⟨_, rfl⟩, q⟩
end
end Nm

set_option Elab.async false
set_option linter.all false
set_option maxRecDepth 100000
set_option maxHeartbeats 1000000
namespace Nm
open PySem PySem.Spec L2
section
variable {K : PySem.W.Frag} {F H : Hp} {σ : L2.St} {te : TE} {E : XK}
theorem denK_keys {g : Nat → D} : ∀ {kvs : List (Key × V)} {es : List (Key × D)} {ks : List Str}, DenK K F kvs es → es.map (·.1) = ks.map Sum.inr → DenL K F (kvs.map fun kv => kV kv.1) (ks.map D.str)
  | _, _, [], .nil, _ => .nil
  | _, _, _ :: _, .nil, e => by cases e
  | _, _, [], .cons _ _, e => by cases e
  | _, _, k :: ks, .cons (k := k') h t, e => by
    have e1 : k' = Sum.inr k := (List.cons.inj e).1
    subst e1
    exact .cons (.str k) (denK_keys (g := g) t (List.cons.inj e).2)
theorem ea_starD {tr : TA} {es : List (Key × D)} {ks : List Str} {ds : List D} (h : EvD K te σ F (.dic es)) (e : es.map (·.1) = ks.map Sum.inr) (hr : EvA K tr σ F ds) : EvA K (tStarD te tr) σ F (ks.map D.str ++ ds) := fun H s Q q =>
  h H s _ fun v F1 H1 x1 d1 => by
    obtain ⟨a, o, kvs, rfl, fa, ra, da⟩ := Den.dicR x1.s d1
    exact ⟨a, kvs, rfl, ra, (hr.up x1.f) H1 x1.s _ fun vs F2 H2 x2 l2 => q _ F2 H2 (x1.tr x2) (((denK_keys (g := fun _ => .non) da e).up x2.f).append l2)⟩
theorem ev_fmt02 {n : Nat} (h : EvD K te σ F (.int (n : Nat))) (hn : n < 10) : EvD K (tFmt02 te) σ F (.str (dig2 n)) := fun H s Q q =>
  h H s _ fun v F1 H1 x1 d1 => by cases d1; exact ⟨n, rfl, hn, q _ F1 H1 x1 (.str _)⟩
theorem ev_fmtS {y : Str} (h : EvD K te σ F (.str y)) (hn : y.length ≤ 16777216) : EvD K (tFmt te) σ F (.str y) := fun H s Q q =>
  h H s _ fun v F1 H1 x1 d1 => by cases d1; exact .inl ⟨y, rfl, by rw [sizeLine_eq]; exact hn, q _ F1 H1 x1 (.str _)⟩
theorem ev_fmtI {i : Int} (h : EvD K te σ F (.int i)) (hn : i.natAbs.log2 < 1920) : EvD K (tFmt te) σ F (.str (toString i)) := fun H s Q q =>
  h H s _ fun v F1 H1 x1 d1 => by cases d1; exact .inr ⟨i, rfl, hn, q _ F1 H1 x1 (.str _)⟩
def tJoined (ts : List TE) : TE := fun σ H Q => tJs ts Str.empty σ H fun out H1 => Q (.str out) H1
inductive EvJ (K : PySem.W.Frag) (σ : L2.St) (F : Hp) : List TE → Str → Str → Prop
  | nil {acc : Str} : EvJ K σ F [] acc acc
  | cons {t : TE} {ts : List TE} {acc y out : Str} : EvD K t σ F (.str y) → (acc ++ y).length ≤ 16777216 → EvJ K σ F ts (acc ++ y) out → EvJ K σ F (t :: ts) acc out
theorem EvJ.up {ts : List TE} {acc out : Str} {F' : Hp} (h : EvJ K σ F ts acc out) (e : Same F F') : EvJ K σ F' ts acc out := by
  induction h with
  | nil => exact .nil
  | cons a b c ih => exact .cons (a.up e) b ih
theorem EvJ.run {ts : List TE} {acc out : Str} (h : EvJ K σ F ts acc out) : ∀ {F0 H : Hp}, Same F F0 → Same F0 H → ∀ Q : Str → Hp → Prop, (∀ F' H', Ext [] F0 H F' H' → Q out H') → tJs ts acc σ H Q := by
  induction h with
  | nil => exact fun e s Q q => q _ _ (Ext.refl s)
  | cons a b c ih =>
    intro F0 H e s Q q
    refine (a.up e) H s _ fun v F1 H1 x1 d1 => ?_
    cases d1
    exact ⟨_, rfl, by rw [sizeLine_eq]; exact b, ih (e.trans x1.f) x1.s Q fun F' H' x => q F' H' (x1.tr x)⟩
theorem ev_joined {ts : List TE} {out : Str} (h : EvJ K σ F ts Str.empty out) : EvD K (tJoined ts) σ F (.str out) := fun H s Q q => h.run (Same.refl _) s _ fun F' H' x => q _ F' H' x (.str _)
/-! ### a fresh dict -/
def spFD (K : PySem.W.Frag) (n : Nat) (R : List D → List (Key × D) → Prop) : Sp := fun vs H Q _ => ∃ F ds es, Same F H ∧ DenL K F vs ds ∧ ds.length = n ∧ R ds es ∧ ∀ p kvs F' H', H p = none → Ext [] F H F' H' → Own F' H' p (.dK kvs) → DenK K F' kvs es → Q (.ref p) H'
theorem spFD_len {n : Nat} {R : List D → List (Key × D) → Prop} {vs : List V} {Q : VK} (h : spFD K n R vs H Q E) : vs.length = n := by
  obtain ⟨F, ds, es, _, l, e, _⟩ := h
  rw [l.length, e]
/-- x.f, as it comes -/
theorem pr_new {C : Addr} {gs : List (Str × D)} {R : List D → List (Key × D) → Prop} {es : List (Key × D)} (h : EvD K te σ F (.obj C gs)) (hR : R [.obj C gs] es) : ∀ H, Same F H → ∀ Q : VK, (∀ p kvs F' H', H p = none → Ext [] F H F' H' → Own F' H' p (.dK kvs) → DenK K F' kvs es → Q (.ref p) H') → tProp C (spFD K 1 R) [] E te σ H Q := fun H s Q q =>
  h H s _ fun v F1 H1 x1 d1 => by
    have d1' := d1
    cases d1 with
    | @obj a _ dx fs _ hh l =>
      refine ⟨a, dx, fs, rfl, x1.s _ _ hh, F1, [_], es, x1.s, .cons d1' .nil, rfl, hR, fun p kvs F2 H2 hp x2 w dk => q p kvs F2 H2 ?_ (x1.tr x2) w dk⟩
      cases e : H p with
      | none => rfl
      | some o => rw [x1.same _ _ e] at hp; cases hp
theorem freeze_own {p : Addr} {kvs : List (Key × V)} {F0 H0 F' H' : Hp} (od : Obj) (hp : H0 p = none) (x : Ext [] F0 H0 F' H') (w : Own F' H' p (.dK kvs)) : Ext [] F0 H0 (upd F' p (.frz od (.dK kvs))) (upd H' p (.frz od (.dK kvs))) ∧ Same F' (upd F' p (.frz od (.dK kvs))) := by
  have e : Same F' (upd F' p (.frz od (.dK kvs))) := fun a u h => by rw [upd_ne (ne_of_none h w.f)]; exact h
  refine ⟨Ext.of (x.f.trans e) (fun a u h => ?_) (fun a u h => ?_) (fun a h k => ?_), e⟩
  · rw [upd_ne (ne_of_none h hp)]; exact x.same a u h
  · by_cases z : a = p
    · subst z; rw [upd_same] at h ⊢; exact h
    · rw [upd_ne z] at h ⊢; exact x.s a u h
  · rw [upd_ne (fun z => k (by rw [z]; exact hp))]; exact x.n a h k
/-- x.f, locked at once -/
theorem ev_propD {C : Addr} {gs : List (Str × D)} {R : List D → List (Key × D) → Prop} {es : List (Key × D)} (h : EvD K te σ F (.obj C gs)) (hR : R [.obj C gs] es) : EvD K (tLk (tProp C (spFD K 1 R) [] E te)) σ F (.dic es) := fun H s Q q =>
  pr_new h hR H s _ fun p kvs F' H' hp x w dk => .inr ⟨p, _, rfl, w.h, trivial, fun od => by
    obtain ⟨x2, e⟩ := freeze_own od hp x w
    exact q _ _ _ x2 (.dic upd_same (DenK.mono e _ dk))⟩
/-! ### own defs -/
theorem ev_own1 {C : Addr} {gs : List (Str × D)} {R : List D → D → Prop} {ok : V → Prop} {d : D} (h : EvD K te σ F (.obj C gs)) (hR : R [.obj C gs] d) (hk : ∀ F v, Den K F v d → ok v) : EvD K (tCB (rOwn1 C (spR K 1 R) E ok) (tCons te tNil)) σ F d := fun H s Q q =>
  (ea_cons h ea_nil) H s _ fun vs F1 H1 x1 l => by
    cases l with
    | cons d1 t =>
      cases t
      have d1' := d1
      cases d1 with
      | @obj a _ dx fs _ hh l => exact ⟨a, dx, fs, rfl, x1.s _ _ hh, F1, [_], d, x1.s, .cons d1' .nil, hR, rfl, fun v F2 H2 x2 d2 => ⟨hk _ _ d2, q _ _ _ (x1.tr x2) d2⟩⟩
/-- what may stand to the right of == -/
def rtD (C : Addr) : D → Bool
  | .non | .bl _ | .int _ | .str _ | .tup _ => true
  | .obj C' _ => decide (C' = C)
  | _ => false
structure NotF (K : PySem.W.Frag) (C : Addr) : Prop where
  non : PySem.W.notFirst K C (.type "NoneType") = true
  bl : PySem.W.notFirst K C (.type "bool") = true
  int : PySem.W.notFirst K C (.type "int") = true
  str : PySem.W.notFirst K C (.type "str") = true
  tup : PySem.W.notFirst K C (.type "tuple") = true
theorem rt_of {C : Addr} {y : D} {v : V} (nf : NotF K C) (s : Same F H) (h : Den K F v y) (t : rtD C y = true) : ∃ tb, TyV K H v tb ∧ PySem.W.notFirst K C tb = true := by
  cases h with
  | non => exact ⟨_, .non, nf.non⟩
  | bl b => exact ⟨_, .bl b, nf.bl⟩
  | int b => exact ⟨_, .int b, nf.int⟩
  | str b => exact ⟨_, .str b, nf.str⟩
  | tup st l => exact ⟨_, .tup (same_t s st), nf.tup⟩
  | obj hh l =>
    have e := of_decide_eq_true t
    subst e
    exact ⟨_, .ins (s _ _ hh), by unfold PySem.W.notFirst; simp⟩
  | lst _ _ => cases t
  | ty _ => cases t
  | cls _ => cases t
  | dic _ _ => cases t
theorem rv_eqOwn {C : Addr} {gs : List (Str × D)} {R : List D → D → Prop} {y : D} {b : Bool} (nf : NotF K C) (t : rtD C y = true) (hR : R [.obj C gs, y] (.bl b)) : RvD K (rEqOwn K C (spR K 2 R) E) (.obj C gs) y (.bl b) := fun F H v u s hv hu Q q => by
  obtain ⟨tb, ty, nt⟩ := rt_of nf s hu t
  have hv' := hv
  cases hv with
  | @obj a _ dx fs _ hh l => exact ⟨a, dx, fs, tb, rfl, s _ _ hh, ty, nt, F, [_, _], .bl b, s, .cons hv' (.cons hu .nil), hR, rfl, fun v F2 H2 x2 d2 => ⟨b, by cases d2; rfl, by cases d2; exact q _ _ _ x2 (.bl b)⟩⟩
theorem rv_neOwn {C : Addr} {gs gs' : List (Str × D)} {R : List D → D → Prop} {b : Bool} (hR : R [.obj C gs, .obj C gs'] (.bl b)) : RvD K (rNeOwn C (spR K 2 R) E) (.obj C gs) (.obj C gs') (.bl (!b)) := fun F H v u s hv hu Q q => by
  have hv' := hv
  have hu' := hu
  cases hv with
  | @obj a _ dx fs _ hh l =>
    cases hu with
    | @obj a2 _ dx2 fs2 _ hh2 l2 => exact ⟨a, dx, fs, a2, dx2, fs2, rfl, rfl, s _ _ hh, s _ _ hh2, F, [_, _], .bl b, s, .cons hv' (.cons hu' .nil), hR, rfl, fun v F2 H2 x2 d2 => ⟨b, by cases d2; rfl, by cases d2; exact q _ _ _ x2 (.bl _)⟩⟩
end
end Nm

set_option Elab.async false
set_option linter.all false
set_option maxRecDepth 100000
set_option maxHeartbeats 1000000
namespace Nm
open PySem PySem.Spec L2
/-- __init__ whose fields hold only what is new -/
def spIN (K : PySem.W.Frag) (C : Addr) (n : Nat) (R : List D → List (Str × D) → Prop) : Sp := fun vs H Q _ => ∃ F x dx ws ds gs, vs = .ref x :: ws ∧ Same F H ∧ H x = some (.ins C dx []) ∧ F x = none ∧ DenL K F ws ds ∧ ds.length = n ∧ R ds gs ∧
  ∀ fs G F' H', Ext [x] F H F' H' → F' x = none → H' x = some (.ins C dx fs) → Same G F' → (∀ a, H a ≠ none → G a = none) → DenF K G fs gs → Q .non H'
section
variable {K : PySem.W.Frag} {F H : Hp} {σ : L2.St} {E : XK} {n : Nat} {C : Addr} {R : List D → List (Str × D) → Prop} {gs : List (Str × D)}
theorem spIN_len {vs : List V} {Q : VK} (h : spIN K C n R vs H Q E) : vs.length = n + 1 := by
  obtain ⟨F, x, dx, ws, ds, gs, rfl, _, _, _, l, e, _⟩ := h
  rw [List.length_cons, l.length, e]
theorem ev_makeN {tr : TA} {ds : List D} (ha : EvA K tr σ F ds) (hf : R ds gs) (hn : ds.length = n) : EvD K (tMake C (spIN K C n R) [] E tr) σ F (.obj C gs) := fun H s Q q =>
  ha H s _ fun vs F1 H1 x1 l1 x dx hx hdx ne => by
    have y1 : Ext [] F1 H1 F1 (upd H1 dx (.own x)) := Ext.newM x1.s hdx
    have hx' : upd H1 dx (.own x) x = none := by rw [upd_ne (Ne.symm ne)]; exact hx
    have y2 : Ext [] F1 (upd H1 dx (.own x)) F1 (upd (upd H1 dx (.own x)) x (.ins C dx [])) := Ext.newM y1.s hx'
    refine ⟨F1, x, dx, vs, ds, gs, by simp, y2.s, upd_same, x1.s.free hx, l1, hn, hf, fun fs G F2 H2 x2 fx hx2 sg ng l2 => ⟨rfl, ?_⟩⟩
    have z : Ext [] F1 H1 F2 H2 := Ext.forget (y1.tr y2) x2 hx
    have z2 := Ext.freeze z hx hx2 fx
    exact q _ _ _ (x1.tr z2) (.obj upd_same (DenF.mono (sg.trans (same_new fx)) gs l2))
theorem mk_lent {i j : Nat} {a b : Addr} {kva kvb : List (Key × V)} {esa esb : List (Key × D)} (hi : σ[i]? = some (some (.ref a))) (hj : σ[j]? = some (some (.ref b))) (S : Same F H) (wa : Own F H a (.dK kva)) (wb : Own F H b (.dK kvb)) (ne : a ≠ b)
    (da : DenK K F kva esa) (db : DenK K F kvb esb) (hR : R [.dic esa, .dic esb] gs) (Q : VK) (q : ∀ v F' H', Ext [] F H F' H' → Den K F' v (.obj C gs) → Q v H') :
    tLockE (tLockE (tMake C (spIN K C 2 R) [] E (tCons (tVar i) (tCons (tVar j) tNil)))) σ H Q := by
  refine ⟨a, .dK kva, wa.h, trivial, fun oa => ⟨b, .dK kvb, (by rw [upd_ne (Ne.symm ne)]; exact wb.h), trivial, fun ob => ?_⟩⟩
  refine ⟨_, hi, _, hj, ?_⟩
  intro x dx hx hdx nx
  generalize e1 : upd (upd H a (.frz oa (.dK kva))) b (.frz ob (.dK kvb)) = H1 at hx hdx ⊢
  have H1o : ∀ c, c ≠ a → c ≠ b → H1 c = H c := fun c h1 h2 => by rw [← e1, upd_ne h2, upd_ne h1]
  have H1a : H1 a = some (.frz oa (.dK kva)) := by rw [← e1, upd_ne ne, upd_same]
  have H1b : H1 b = some (.frz ob (.dK kvb)) := by rw [← e1, upd_same]
  have xa : x ≠ a := fun z => by rw [z, H1a] at hx; cases hx
  have xb : x ≠ b := fun z => by rw [z, H1b] at hx; cases hx
  have ya : dx ≠ a := fun z => by rw [z, H1a] at hdx; cases hdx
  have yb : dx ≠ b := fun z => by rw [z, H1b] at hdx; cases hdx
  have Hx : H x = none := by rw [← H1o x xa xb]; exact hx
  have Fx : F x = none := S.free Hx
  have F1s : Same F (upd (upd F a (.frz oa (.dK kva))) b (.frz ob (.dK kvb))) := fun c o h => by rw [upd_ne (ne_of_none h wb.f), upd_ne (ne_of_none h wa.f)]; exact h
  have S1 : Same (upd (upd F a (.frz oa (.dK kva))) b (.frz ob (.dK kvb))) (upd (upd H1 dx (.own x)) x (.ins C dx [])) := fun c o h => by
    have k : H1 c = some o := by
      by_cases cb : c = b
      · subst cb; rw [upd_same] at h; cases h; exact H1b
      · rw [upd_ne cb] at h
        by_cases ca : c = a
        · subst ca; rw [upd_same] at h; cases h; exact H1a
        · rw [upd_ne ca] at h; rw [H1o c ca cb]; exact S c o h
    rw [upd_ne (ne_of_none k hx), upd_ne (ne_of_none k hdx)]; exact k
  refine ⟨_, x, dx, [.ref a, .ref b], [.dic esa, .dic esb], gs, by simp, S1, upd_same, (by rw [upd_ne xb, upd_ne xa]; exact Fx), .cons (.dic (by rw [upd_ne ne, upd_same]) (DenK.mono F1s _ da)) (.cons (.dic upd_same (DenK.mono F1s _ db)) .nil), rfl, hR, fun fs G F2 H2 x2 fx hx2 sg ng l2 => ⟨rfl, ?_⟩⟩
  have up : ∀ c, H1 c ≠ none → upd (upd H1 dx (.own x)) x (.ins C dx []) c ≠ none := fun c h => upd_keeps c (upd_keeps c h)
  have k2 : ∀ c o, H1 c = some o → H2 c = some o := fun c o h => x2.h c o (by simpa using ne_of_none h hx) (by rw [upd_ne (ne_of_none h hx), upd_ne (ne_of_none h hdx)]; exact h)
  refine ⟨k2 b _ H1b, ?_, ?_⟩
  · rw [upd_ne ne]; exact k2 a _ H1a
  have Gn : ∀ c, H c ≠ none → G c = none := fun c h => ng c (up c (by
    by_cases ca : c = a
    · rw [ca, H1a]; simp
    · by_cases cb : c = b
      · rw [cb, H1b]; simp
      · rw [H1o c ca cb]; exact h))
  have Gx : G x = none := by
    cases e : G x with
    | none => rfl
    | some o => rw [sg x o e] at fx; cases fx
  have sG : Same G (upd (uni F G) x (.ins C dx fs)) := fun c o h => by
    rw [upd_ne (ne_of_none h Gx)]
    unfold uni
    cases e : F c with
    | none => exact h
    | some o' => rw [Gn c (by rw [S c o' e]; simp)] at h; cases h
  refine q _ (upd (uni F G) x (.ins C dx fs)) _ (Ext.of ?_ ?_ ?_ ?_) (.obj upd_same (DenF.mono sG gs l2))
  · intro c o h
    rw [upd_ne (ne_of_none h Fx)]
    exact uni_l c o h
  · intro c o h
    by_cases ca : c = a
    · rw [ca, upd_same]; rw [ca, wa.h] at h; exact h
    · rw [upd_ne ca]
      by_cases cb : c = b
      · rw [cb, upd_same]; rw [cb, wb.h] at h; exact h
      · rw [upd_ne cb]; exact k2 c o (by rw [H1o c ca cb]; exact h)
  · intro c o h
    by_cases cx : c = x
    · rw [cx, upd_same] at h; cases h; rw [cx, upd_ne xa, upd_ne xb]; exact hx2
    · rw [upd_ne cx] at h
      have cab : c ≠ a ∧ c ≠ b ∧ H2 c = some o := by
        unfold uni at h
        cases e : F c with
        | some o' =>
          rw [e] at h
          cases h
          have ca := ne_of_none e wa.f
          have cb := ne_of_none e wb.f
          exact ⟨ca, cb, k2 c _ (by rw [H1o c ca cb]; exact S c _ e)⟩
        | none =>
          rw [e] at h
          have h : G c = some o := h
          exact ⟨fun z => (by rw [z, Gn a (by rw [wa.h]; simp)] at h; cases h), fun z => (by rw [z, Gn b (by rw [wb.h]; simp)] at h; cases h), x2.s c o (sg c o h)⟩
      rw [upd_ne cab.1, upd_ne cab.2.1]
      exact cab.2.2
  · intro c h k
    rw [upd_ne (fun z => k (by rw [z]; exact Hx))]
    unfold uni
    rw [h]
    exact Gn c k
end
abbrev okLenZ : V → Prop := fun z => ∃ i : Nat, z = .int (i : Nat) ∧ i < 1000000
abbrev okStrZ : V → Prop := fun z => ∃ y : Str, z = .str y
theorem hu0 {k : Nat} {A : Around} (hr : Room k A) : A.units < cLine := Nat.lt_of_le_of_lt (Nat.le_add_right _ 64) (hu4 hr)
theorem hu1 {k : Nat} {A : Around} (hr : Room k A) : A.units + 1 < cLine := by have := hu4 hr; omega
theorem hu2 {k : Nat} {A : Around} (hr : Room k A) : A.units + 2 < cLine := by have := hu4 hr; omega
theorem pe_joinedT {X : Cx} {v1 v2 : Expr} {rest : List Expr} {ts : List TE} {pos : Pos} (h : PJ X (v1 :: v2 :: rest) ts) : PE X (.JoinedStr (v1 :: v2 :: rest) pos) (tJoined ts) := pe_joined h
end Nm

set_option Elab.async false
set_option linter.all false
set_option maxRecDepth 100000
set_option maxHeartbeats 1000000
namespace Nm
open PySem PySem.Spec L2
def rStrI : List V → Hp → VK → Prop := fun xs H Q => ∃ i, xs = [.int i] ∧ i.natAbs.log2 < 1920 ∧ Q (.str (toString i)) H
def rStrS : List V → Hp → VK → Prop := fun xs H Q => ∃ a, xs = [.str a] ∧ Q (.str a) H
def rStrA : List V → Hp → VK → Prop := fun xs H Q => rStrI xs H Q ∨ rStrS xs H Q
theorem c_str {X : Cx} : CallR X (.type "str") rStrA := calr_or call_str_int SkE.call_str_str
structure KitC (K : PySem.W.Frag) (C : Addr) : Prop where
  non : PySem.W.kitOne K (.type "NoneType") (.ref C) = some false
  bl : PySem.W.kitOne K (.type "bool") (.ref C) = some false
  int : PySem.W.kitOne K (.type "int") (.ref C) = some false
  str : PySem.W.kitOne K (.type "str") (.ref C) = some false
  tup : PySem.W.kitOne K (.type "tuple") (.ref C) = some false
  c1 : PySem.W.findIn K (.ref C) "__class__" = some (some (.builtin "object.__class__"))
  c2 : PySem.W.specialIn K (.builtin "object.__class__") "__get__" = some (some (.builtin "getset_descriptor.__get__"))
  c3 : PySem.W.takesIn K (.builtin "object.__class__") = some true
  c4 : PySem.W.mroIn K C (.type "object") = some true
def isO : D → Bool
  | .obj _ _ => true
  | _ => false
section
variable {K : PySem.W.Frag}
theorem rc_strI {i : Int} (h : i.natAbs.log2 < 1920) : RcD K rStrA [.int i] (.str (toString i)) := fun F H xs s l Q q => by
  cases l with
  | cons a t => cases t; cases a; exact .inl ⟨i, rfl, h, q _ F H (Ext.refl s) (.str _)⟩
theorem rc_isC {C : Addr} {y : D} (c : Cls K C) (k : KitC K C) (t : rtD C y = true) : RcD K (rIsiA K) [y, .cls C] (.bl (isO y)) := fun F H xs s l Q q => by
  cases l with
  | @cons v _ _ _ a l2 =>
    cases l2 with
    | @cons c _ _ _ b l3 =>
      cases l3
      cases b
      have fin : ∀ ty r, TyX K H v ty → PySem.W.kitOne K ty (.ref C) = some r → isO y = r → rIsiA K [v, .ref C] H Q := fun ty r h1 h2 h3 => .inl ⟨v, .ref C, ty, .ref C, r, rfl, .own C, h1, h2, by rw [← h3]; exact q _ F H (Ext.refl s) (.bl _)⟩
      cases a with
      | non => exact fin _ _ (ty_of s .non rfl) k.non rfl
      | bl x => exact fin _ _ (ty_of s (.bl x) rfl) k.bl rfl
      | int x => exact fin _ _ (ty_of s (.int x) rfl) k.int rfl
      | str x => exact fin _ _ (ty_of s (.str x) rfl) k.str rfl
      | tup st l => exact fin _ _ (ty_of s (.tup st l) rfl) k.tup rfl
      | obj hh l =>
        have e := of_decide_eq_true t
        subst e
        exact fin _ true (.base (.ins (s _ _ hh) c k.c1 k.c2 k.c3 k.c4)) (by unfold PySem.W.kitOne; simp) rfl
      | lst _ _ => cases t
      | ty _ => cases t
      | cls _ => cases t
      | dic _ _ => cases t
theorem dict_new {F : Hp} {σ : L2.St} {te : TE} {es : List (Key × D)} (h : EvD K te σ F (.dic es)) : ∀ H, Same F H → ∀ Q : VK, (∀ p od kvs F1 H1, Ext [] F H F1 H1 → H1 p = none → DenK K F1 kvs es → Q (.ref p) (upd H1 p (.frz od (.dK kvs)))) → tLk (tCB rDictA (tCons te tNil)) σ H Q := fun H s Q q =>
  (ea_cons h ea_nil) H s (fun vs H1 => rDictA vs H1 fun v H1 => Q v H1 ∨ ∃ d u, v = .ref d ∧ H1 d = some u ∧ Mut (some u) ∧ ∀ od, Q v (upd H1 d (.frz od u))) fun vs F1 H1 x1 l => by
    cases l with
    | cons a t =>
      cases t
      obtain ⟨b, o, kvs, rfl, _, rb, dk⟩ := Den.dicR x1.s a
      exact ⟨b, kvs, rfl, rb, fun p hp => .inr ⟨p, _, rfl, upd_same, trivial, fun od => by rw [upd_upd]; exact q p od kvs F1 H1 x1 hp dk⟩⟩
theorem dict_raw {F : Hp} {σ : L2.St} {te : TE} {es : List (Key × D)} (h : EvD K te σ F (.dic es)) : ∀ H, Same F H → ∀ Q : VK, (∀ p kvs F1 H1, Ext [] F H F1 H1 → H1 p = none → DenK K F1 kvs es → Q (.ref p) (upd H1 p (.dK kvs))) → tCB rDictA (tCons te tNil) σ H Q := fun H s Q q =>
  (ea_cons h ea_nil) H s _ fun vs F1 H1 x1 l => by
    cases l with
    | cons a t =>
      cases t
      obtain ⟨b, o, kvs, rfl, _, rb, dk⟩ := Den.dicR x1.s a
      exact ⟨b, kvs, rfl, rb, fun p hp => q p kvs F1 H1 x1 hp dk⟩
theorem flatK {α : Type} {g : α → D} (hg : Kd g) {F F' : Hp} : ∀ {m : List (Nat × α)} {kvs : List (Key × V)}, DenK K F kvs (enM g m) → DenK K F' kvs (enM g m)
  | [], _, h => by cases h; exact .nil
  | (c, a) :: m, _, h => by
    cases h with
    | cons hv ht =>
      refine .cons ?_ (flatK hg ht)
      cases hg with
      | s f i e => rw [e] at hv ⊢; cases hv; exact .str _
      | n f i e => rw [e] at hv ⊢; cases hv; exact .int _
end
end Nm

set_option Elab.async false
set_option linter.all false
set_option maxRecDepth 100000
set_option maxHeartbeats 1000000
namespace Nm
open PySem PySem.Spec L2
theorem kit_no {K : PySem.W.Frag} {t : Value} {C : Addr} {cd : ClassData} (h0 : (t == .ref C) = false) (h1 : PySem.W.clsIn K C = some cd) (h2 : PySem.W.typeIn K (.ref C) = some (.type "type")) (h3 : PySem.W.subIn K t (.ref C) = some false) : PySem.W.kitOne K t (.ref C) = some false := by
  unfold PySem.W.kitOne
  rw [if_neg (by rw [h0]; decide)]
  unfold PySem.W.kitCls
  dsimp only
  rw [h1, h2, if_pos (by rfl)]
  exact h3
def strKey : DictEntry → Bool := fun e => match e.key with | .str _ _ => true | _ => false
theorem ns_ok {K : PySem.W.Frag} {N : Addr} {c : Value} {d : Option Addr} {es : Array DictEntry} {n : Nat} {sl : Array (Option Value)} (h : K.lookup N = some ⟨c, d, .dict es n, sl⟩) (he : es.toList.all strKey = true) : PySem.W.nsOkIn K N = true := by
  unfold PySem.W.nsOkIn
  rw [h]
  show es.all strKey = true
  rw [← Array.all_toList]
  exact he
end Nm

set_option Elab.async false
set_option linter.all false
set_option maxRecDepth 100000
set_option maxHeartbeats 3200000
/-! list(zip(text, text)). -/
namespace Nm
open PySem PySem.Spec L2 PyProof.Rows
theorem zip_no_len : typeLookup (.type "zip") "__len__" = pure none := by rw [typeLookup_type, builtinLookup_eq_fast]; kernel_rfl
theorem zip_no_hint : typeLookup (.type "zip") "__length_hint__" = pure none := by rw [typeLookup_type, builtinLookup_eq_fast]; kernel_rfl
/-- the pairs that have been taken -/
def PrsAt (h : Heap) (x y : Str) (lo : Nat) (acc : Array Value) : Prop := ∀ i v, acc[i]? = some v → ∃ T a b, v = .ref T ∧ lo ≤ T ∧ IsPair h T a b ∧ SgnAt x i a ∧ SgnAt y i b
def Asc (acc : Array Value) : Prop := ∀ (i j : Nat) (T T' : Addr), i < j → acc[i]? = some (.ref T) → acc[j]? = some (.ref T') → T < T'
section
variable {P : Program} {w : World} {A : Around} {E : Value → Shared → Prop} {s : Shared}
theorem PrsAt.keep {h h' : Heap} {x y : Str} {lo : Nat} {acc : Array Value} (p : PrsAt h x y lo acc) (k : ∀ T o, lo ≤ T → h.get? T = some o → h'.get? T = some o) : PrsAt h' x y lo acc := fun i v e => by
  obtain ⟨T, a, b, h1, h2, h3, h4⟩ := p i v e
  exact ⟨T, a, b, h1, h2, k _ _ h2 h3, h4⟩
theorem pyNext_zipS_item {z TI TO i1 i2 : Addr} {x y : Str} {tx ty : Tok} {k : Nat} {Q : Option Value → Shared → Prop} (hh : A.handled = none) (D : Apart z TI TO i1 i2) (Z : ZipS s.heap z TI TO i1 i2 x y tx ty k) (hx : k < x.cps.size) (hy : k < y.cps.size)
    (hQ : ∀ h' T tk u v, ZipS h' z TI TO i1 i2 x y tx ty (k + 1) → SgnAt x k u → SgnAt y k v → s.heap.objs.size ≤ T → IsPair h' T u v → (∀ c o, c ∉ [z, TO, i1, i2] → s.heap.get? c = some o → h'.get? c = some o) → Q (some (.ref T)) { s with heap := h', toks := tk }) :
    wpAny (model P w) A (pyNext (.ref z)) Q E s := by
  have hT : s.TypeIs (.ref z) "zip" := by
    obtain ⟨f0, f1, hz, _⟩ := Z.z
    exact ⟨_, hz, rfl⟩
  unfold pyNext
  exact wpAny_bind (wpAny_attempt (wpAny_callSpecial?_slot (name := Str.ofString "__next__") hT F.slot_zip_next (wpAny_call_entry F.slot_zip_next hT F.entry_zip_next (zipS_item (by simpa using hh) D Z hx hy fun h' T tk u v a1 a2 a3 a4 a5 a6 => wpAny_pure (hQ h' T tk u v a1 a2 a3 a4 a5 a6)) (F.args_zip_next_1 _))))
theorem pyNext_zipS_end {z TI TO i1 i2 : Addr} {x y : Str} {tx ty : Tok} {k : Nat} {Q : Option Value → Shared → Prop} (hh : A.handled = none) (D : Apart z TI TO i1 i2) (Z : ZipS s.heap z TI TO i1 i2 x y tx ty k) (hend : k = x.cps.size ∨ (k < x.cps.size ∧ k = y.cps.size))
    (hQ : ∀ h' tk, (∀ c o, c ∉ [z, TO, i1, i2] → s.heap.get? c = some o → h'.get? c = some o) → Q none { s with heap := h', toks := tk }) : wpAny (model P w) A (pyNext (.ref z)) Q E s := by
  have hT : s.TypeIs (.ref z) "zip" := by
    obtain ⟨f0, f1, hz, _⟩ := Z.z
    exact ⟨_, hz, rfl⟩
  unfold pyNext
  refine wpAny_bind (wpAny_attempt (wpAny_callSpecial?_slot (name := Str.ofString "__next__") hT F.slot_zip_next (wpAny_call_entry F.slot_zip_next hT F.entry_zip_next (zipS_end (by simpa using hh) D Z hend fun h' e tk hk he => ?_) (F.args_zip_next_1 _))))
  obtain ⟨o, ho, hc⟩ := he
  refine wpAny_bind (wpAny_isInstance (T := "StopIteration") (b := true) ⟨o, ho, hc⟩ isSubtype_stop ?_)
  exact wpAny_pure (hQ _ _ hk)
theorem zip_loop {R : Result → Shared → Prop} {S z TI TO i1 i2 : Addr} {x y : Str} {tx ty : Tok} (hh : A.handled = none) (Dp : Apart z TI TO i1 i2) (hl : x.cps.size = y.cps.size) (hn : x.cps.size ≤ sizeLine) (res : Value) (lo : Nat) (hS0 : S < lo) (hf : ∀ b ∈ [z, TI, TO, i1, i2], b < lo ∧ b ≠ S) :
    ∀ (m i : Nat) (s : Shared) (acc : Array Value) (c : Nat), x.cps.size - i = m → i ≤ x.cps.size → lo ≤ s.heap.objs.size → ZipS s.heap z TI TO i1 i2 x y tx ty i → s.heap.get? S = some { cls := .type "list", dict := none, data := .seq acc c, slots := #[] } → acc.size = i → PrsAt s.heap x y lo acc → Asc acc →
      (∀ h' tk acc' c', (∀ b o, b ∉ S :: [z, TO, i1, i2] → s.heap.get? b = some o → h'.get? b = some o) → h'.get? S = some { cls := .type "list", dict := none, data := .seq acc' c', slots := #[] } → acc'.size = x.cps.size → PrsAt h' x y lo acc' → Asc acc' → R (.ok (.ret res)) { s with heap := h', toks := tk }) →
      codeAny (model P w) A (.builtin "list.extend.loop" ⟨[.ref S, .ref z, res], []⟩) R s
  | 0, i, s, acc, c, hm, hi, hlo, Z, hS, hz, hp, ha, k => by
    have ei : i = x.cps.size := by omega
    have sub : ∀ b ∈ [z, TO, i1, i2], b ∈ [z, TI, TO, i1, i2] := fun b h => by simp only [List.mem_cons, List.not_mem_nil, or_false] at h ⊢; rcases h with h | h | h | h <;> simp [h]
    have sw : S ∉ [z, TO, i1, i2] := fun h => (hf S (sub S h)).2 rfl
    refine codeAny_builtin F.entry_extend_loop ?_
    rw [Around.under_plainId F.plain_extend_loop _]
    show wpAny _ A.in1 (pyNext (.ref z) >>= _) _ _ s
    refine wpAny_bind (pyNext_zipS_end (by simpa using hh) Dp Z (.inl ei) fun h' tk hk => ?_)
    refine wpAny_pure (k h' tk acc c (fun b o hb e => hk b o (fun h => hb (List.mem_cons_of_mem _ h)) e) (hk S _ sw hS) (by omega) (hp.keep fun T o hT e => hk T o (fun h => ?_) e) ha)
    exact Nat.lt_irrefl _ (Nat.lt_of_lt_of_le (hf T (sub T h)).1 hT)
  | m + 1, i, s, acc, c, hm, hi, hlo, Z, hS, hz, hp, ha, k => by
    have hlt : i < x.cps.size := by omega
    have sub : ∀ b ∈ [z, TO, i1, i2], b ∈ [z, TI, TO, i1, i2] := fun b h => by simp only [List.mem_cons, List.not_mem_nil, or_false] at h ⊢; rcases h with h | h | h | h <;> simp [h]
    have sw : S ∉ [z, TO, i1, i2] := fun h => (hf S (sub S h)).2 rfl
    refine codeAny_builtin F.entry_extend_loop ?_
    rw [Around.under_plainId F.plain_extend_loop _]
    show wpAny _ A.in1 (pyNext (.ref z) >>= _) _ _ s
    refine wpAny_bind (pyNext_zipS_item (by simpa using hh) Dp Z hlt (by omega) fun h' T tk u v Z' hu hv hT hpr hk => ?_)
    have hS' := hk S _ sw hS
    have oth : ∀ b o, b ≠ S → h'.get? b = some o → (h'.update S (Obj.mapSeq (·.push (.ref T)))).get? b = some o := fun b o hb e => (Heap.get?_update_other _ _ (Ne.symm hb)).trans e
    have hTl : T < h'.objs.size := Heap.lt_size hpr
    have hsz : (h'.update S (Obj.mapSeq (·.push (.ref T)))).objs.size = h'.objs.size := Heap.size_update ..
    show wpAny _ A.in1 (updateSeq S (·.push (.ref T)) >>= _) _ _ _
    refine wpAny_bind ?_
    refine wpAny_updateSeq (s := { s with heap := h', toks := tk }) hS' rfl (wpAny_pure ⟨plainId_quiet F.plain_extend_loop _, zip_loop hh Dp hl hn res lo hS0 hf m (i + 1) _ (acc.push (.ref T)) _ (by omega) hlt ?_ (Z'.keep fun b hb o e => oth b o (hf b hb).2 e) (Heap.get?_update_self _ hS' rfl) (by rw [Array.size_push]; omega) ?_ ?_ fun h2 tk2 acc2 c2 hk2 hS2 hz2 hp2 ha2 => ?_⟩)
      (by omega) (by show (acc.push (.ref T)).size ≤ sizeLine + 1; rw [Array.size_push]; omega)
    · show lo ≤ (h'.update S (Obj.mapSeq (·.push (.ref T)))).objs.size
      rw [hsz]; omega
    · intro j v e
      rw [Array.getElem?_push] at e
      by_cases hj : j = acc.size
      · rw [if_pos hj] at e
        cases e
        refine ⟨T, u, _, rfl, Nat.le_trans hlo hT, oth _ _ (fun z => Nat.lt_irrefl _ (Nat.lt_of_lt_of_le hS0 (z ▸ Nat.le_trans hlo hT))) hpr, ?_, ?_⟩
        · rw [hj, hz]; exact hu
        · rw [hj, hz]; assumption
      · rw [if_neg hj] at e
        obtain ⟨T', a, b, h1, h2, h3, h4⟩ := hp j v e
        exact ⟨T', a, b, h1, h2, oth _ _ (fun z => Nat.lt_irrefl _ (Nat.lt_of_lt_of_le hS0 (z ▸ h2))) (hk _ _ (fun h => Nat.lt_irrefl _ (Nat.lt_of_lt_of_le (hf T' (sub T' h)).1 h2)) h3), h4⟩
    · intro j1 j2 T1 T2 hlt2 e1 e2
      rw [Array.getElem?_push] at e1 e2
      have l2 : j2 < acc.size + 1 := by
        by_cases q : j2 = acc.size
        · omega
        · rw [if_neg q] at e2
          have := (Array.getElem?_eq_some_iff.mp e2).1
          omega
      rw [if_neg (by omega)] at e1
      by_cases q : j2 = acc.size
      · rw [if_pos q] at e2
        cases e2
        obtain ⟨T', a, b, h1, h2, h3, h4⟩ := hp j1 _ e1
        cases h1
        exact Nat.lt_of_lt_of_le (Heap.lt_size h3) hT
      · rw [if_neg q] at e2
        exact ha j1 j2 T1 T2 hlt2 e1 e2
    · refine k h2 tk2 acc2 c2 (fun b o hb e => hk2 b o hb (oth _ _ (fun h => hb (by rw [h]; exact List.mem_cons_self)) (hk _ _ (fun h => hb (List.mem_cons_of_mem _ h)) e))) hS2 hz2 hp2 ha2
/-- list(zip) -/
theorem run_list_zip {z TI TO i1 i2 : Addr} {x y : Str} {tx ty : Tok} {Q : Value → Shared → Prop} (hh : A.handled = none) (Dp : Apart z TI TO i1 i2) (Z : ZipS s.heap z TI TO i1 i2 x y tx ty 0) (hf : ∀ b ∈ [z, TI, TO, i1, i2], b < s.heap.objs.size) (hl : x.cps.size = y.cps.size) (hn : x.cps.size ≤ sizeLine) (hzz : ∃ f0, IsZip s.heap z TI TO f0)
    (hQ : ∀ h' tk acc' c', (∀ b o, b ∉ [z, TO, i1, i2] → s.heap.get? b = some o → h'.get? b = some o) → h'.get? s.heap.objs.size = some { cls := .type "list", dict := none, data := .seq acc' c', slots := #[] } → acc'.size = x.cps.size → PrsAt h' x y (s.heap.objs.size + 1) acc' → Asc acc' → Q (.ref s.heap.objs.size) { s with heap := h', toks := tk }) :
    wpAny (model P w) A (call (.type "list") [.ref z]) Q E s := by
  obtain ⟨f0, hiz⟩ := hzz
  refine callType_codes (Q₁ := fun obj s₁ => obj = .ref s.heap.objs.size ∧ s₁ = { s with heap := s.heap.push { cls := .type "list", data := .seq #[] } }) F.called_list (F.typeCall_list_1 _) F.entry_list_init
    (code_list_new _ ⟨rfl, rfl⟩) fun obj s₁ h₁ => ?_
  obtain ⟨rfl, rfl⟩ := h₁
  have hS : (s.heap.push { cls := .type "list", data := .seq #[] }).get? s.heap.objs.size = some { cls := .type "list", data := .seq #[] } := Heap.get?_push_size _ rfl
  have sz0 : (s.heap.push { cls := .type "list", data := .seq #[] }).objs.size = s.heap.objs.size + 1 := Heap.size_push ..
  refine ⟨⟨_, hS, rfl⟩, F.args_list_init_2 _ _, ?_⟩
  have hzS : z ≠ s.heap.objs.size := Nat.ne_of_lt (hf z (by simp))
  generalize hSe : s.heap.objs.size = S at *
  show wpAny _ _ (do let old ← Builtin.List.listItems (.ref S); Builtin.List.listUpdate (.ref S) (fun _ => #[]); letGo old.toList.reverse; Builtin.List.listExtendWith (.ref S) (.ref z) .none) _ _ _
  refine wpAny_bind ?_
  unfold Builtin.List.listItems
  refine wpAny_bind (wpAny_seqItems hS rfl (wpAny_pure ?_))
  show wpAny _ _ (updateSeq S (fun _ => #[]) >>= fun _ => letGo (#[] : Array Value).toList.reverse >>= fun _ => Builtin.List.listExtendWith (.ref S) (.ref z) .none) _ _ _
  refine wpAny_bind (wpAny_updateSeq hS rfl ?_)
  have hS₂ := Heap.get?_update_self (Obj.mapSeq (fun _ => (#[] : Array Value))) hS rfl
  have oth : ∀ b o, b ≠ S → s.heap.get? b = some o → ((s.heap.push { cls := .type "list", data := .seq #[] }).update S (Obj.mapSeq (fun _ => (#[] : Array Value)))).get? b = some o :=
    fun b o hb e => (Heap.get?_update_other _ _ (Ne.symm hb)).trans (Heap.get?_push_of_some _ e)
  refine wpAny_bind (wpAny_letGo ?_)
  have hsz1 : ((s.heap.push { cls := .type "list", data := .seq #[] }).update S (Obj.mapSeq (fun _ => (#[] : Array Value)))).objs.size = S + 1 := by rw [Heap.size_update, sz0]
  generalize (s.heap.push { cls := .type "list", data := .seq #[] }).update S (Obj.mapSeq (fun _ => (#[] : Array Value))) = h1 at hS₂ oth hsz1 ⊢
  have hz1 : IsZip h1 z TI TO f0 := oth _ _ hzS hiz
  have hT : Shared.TypeIs { s with heap := h1 } (.ref z) "zip" := ⟨_, hz1, rfl⟩
  unfold Builtin.List.listExtendWith
  refine wpAny_bind (wpAny_typeOf hT ?_)
  have g1 : Builtin.List.listSameRef (.ref S) (.ref z) = false := by simp [Builtin.List.listSameRef, hzS.symm]
  have g2 : (Value.type "zip" == Value.type "list") = false := by decide
  have g3 : (Value.type "zip" == Value.type "tuple") = false := by decide
  simp only [g1, g2, g3, Bool.or_false, Bool.false_eq_true, if_false]
  refine wpAny_bind (wpAny_pyIter_zip hz1 ?_)
  refine wpAny_bind (wpAny_holding ?_)
  unfold Builtin.List.listLengthHint
  refine wpAny_bind (wpAny_specialOf hT zip_no_len ?_)
  show wpAny _ _ (specialOf (Value.ref z) (Str.ofString "__length_hint__") >>= _) _ _ _
  refine wpAny_bind (wpAny_specialOf hT zip_no_hint ?_)
  refine wpAny_pure ?_
  show wpAny _ _ (rule "list.extend.makes-room" >>= fun _ => Builtin.List.listTouch (.ref S) >>= fun _ =>
    again (.builtin "list.extend.loop" ⟨[.ref S, .ref z, .none], []⟩)) _ _ _
  refine wpAny_bind (wpAny_rule ?_)
  refine wpAny_bind ?_
  show wpAny _ _ (updateSeq S (·.push .none) >>= fun _ => updateSeq S (·.pop)) _ _ _
  refine wpAny_bind (wpAny_updateSeq hS₂ rfl ?_)
  have hS3 := Heap.get?_update_self (Obj.mapSeq (·.push Value.none)) hS₂ rfl
  refine wpAny_updateSeq (hz := by seq_fits) hS3 rfl ?_
  have hS4 := Heap.get?_update_self (Obj.mapSeq (·.pop)) hS3 rfl
  have oth2 : ∀ b o, b ≠ S → s.heap.get? b = some o → ((h1.update S (Obj.mapSeq (·.push Value.none))).update S (Obj.mapSeq (·.pop))).get? b = some o :=
    fun b o hb e => (Heap.get?_update_other _ _ (Ne.symm hb)).trans ((Heap.get?_update_other _ _ (Ne.symm hb)).trans (oth b o hb e))
  have hsz2 : ((h1.update S (Obj.mapSeq (·.push Value.none))).update S (Obj.mapSeq (·.pop))).objs.size = S + 1 := by rw [Heap.size_update, Heap.size_update, hsz1]
  refine wpAny_pure ⟨plainId_quiet F.plain_extend_loop _, ?_⟩
  refine zip_loop (by simpa using hh) Dp hl hn .none (S + 1) (Nat.lt_succ_self _) (fun b hb => ⟨Nat.lt_succ_of_lt (hf b hb), Nat.ne_of_lt (hf b hb)⟩) x.cps.size 0 _ #[] _ rfl (Nat.zero_le _) (by show S + 1 ≤ _; exact Nat.le_of_eq hsz2.symm) (Z.keep fun b hb o e => oth2 b o (Nat.ne_of_lt (hf b hb)) e) hS4 rfl (fun i v e => by simp at e) (fun i j T T' _ e => by simp at e) fun h' tk acc c hk hS' hz' hp' ha' => ?_
  refine ⟨rfl, hQ h' tk acc c (fun b o hb e => hk b o (fun h => ?_) (oth2 b o ?_ e)) hS' hz' hp' ha'⟩
  · rcases List.mem_cons.mp h with h | h
    · exact Nat.lt_irrefl _ (Nat.lt_of_lt_of_eq (Heap.lt_size e) (hSe.trans h.symm))
    · exact hb h
  · exact fun h => Nat.lt_irrefl _ (Nat.lt_of_lt_of_eq (Heap.lt_size e) (hSe.trans h.symm))
end
/-! ### the rule -/
theorem lay_many {P : Program} {w : World} {h' : Heap} : ∀ (L : List (Addr × HO)) (H : Hp), HOk P w H h' → (L.map (·.1)).Nodup → (∀ t ∈ L, H t.1 = none) → (∀ t ∈ L, ∀ H', ObjOk P w H' h' t.1 t.2) → ∃ H2, Same H H2 ∧ HOk P w H2 h' ∧ (∀ t ∈ L, H2 t.1 = some t.2) ∧ ∀ b, b ∉ L.map (·.1) → H2 b = H b
  | [], H, hk, _, _, _ => ⟨H, Same.refl _, hk, by simp, fun _ _ => rfl⟩
  | t :: L, H, hk, nd, hn, ho => by
    rw [List.map_cons, List.nodup_cons] at nd
    have k1 := hk.laidN (h' := h') (a := t.1) (o := t.2) (fun _ _ e => e) (hn t List.mem_cons_self) (ho t List.mem_cons_self _)
    obtain ⟨H2, h1, h2, h3, h4⟩ := lay_many L (upd H t.1 t.2) k1 nd.2 (fun u hu => by
      rw [upd_ne (fun z : u.1 = t.1 => nd.1 (List.mem_map.mpr ⟨u, hu, z⟩))]
      exact hn u (List.mem_cons_of_mem _ hu)) fun u hu => ho u (List.mem_cons_of_mem _ hu)
    refine ⟨H2, fun a o e => h1 a o (by rw [upd_ne (ne_of_none e (hn t List.mem_cons_self))]; exact e), h2, fun u hu => ?_, fun b hb => ?_⟩
    · rcases List.mem_cons.mp hu with rfl | hu
      · rw [h4 _ nd.1, upd_same]
      · exact h3 u hu
    · rw [List.map_cons, List.mem_cons, not_or] at hb
      rw [h4 b hb.2, upd_ne hb.1]
theorem Un.grow {fs ex : List Addr} {H H' : Hp} {h h' : Heap} (k : ∀ b u, h.get? b = some u → h'.get? b = some u) (sm : Same H H') (fr : ∀ b o, h.get? b = some o → H b = none → H' b = none) : Un fs ex H H' h h' where
  keep := fun b u q _ _ _ => k b u q
  slot := fun b u q _ _ _ => ⟨u.slots, k b u q⟩
  free := fun b u q n _ => fr b u q n
  there := fun b u q _ => ⟨u, k b u q⟩
  tups := fun b xs q => sm b _ q
  frzs := fun b u xs q => sm b _ q
  tbls := fun b ps q => ⟨#[], by rw [sm b _ q]; simp⟩
theorem vals_refs : ∀ ts : List Addr, Vals (ts.map V.ref) (ts.map Value.ref)
  | [] => .nil
  | _ :: ts => .cons rfl (vals_refs ts)
def tListZip (ta : TA) : TE := fun σ H Q => ta σ H fun vs H1 => ∃ x y : Str, vs = [.str x, .str y] ∧ x.length = y.length ∧ x.length ≤ sizeLine ∧
  ∀ p (ts : List Addr) H2, Same H1 H2 → H1 p = none → H2 p = some (.lst (ts.map V.ref)) → ts.length = x.length →
    (∀ (i : Nat) (t : Addr), ts[i]? = some t → H1 t = none ∧ ∃ a b, H2 t = some (.tup [.str ⟨#[a]⟩, .str ⟨#[b]⟩]) ∧ x.cps[i]? = some a ∧ y.cps[i]? = some b) → Q (.ref p) H2
theorem pe_listZip {X : Cx} {a b : Expr} {ta : TA} {p p2 q pos : Pos} (hc : X.calm = true) (hg : Gl X "list") (hm : X.mg "list" = none) (hg2 : Gl X "zip") (hm2 : X.mg "zip" = none) (ha : PA X [a, b] ta)
    (hs : starEach [a, b] X.env = (false, eval a X.env) :: starEach [b] X.env := by rfl) (hpl : (backTo q (starEach [b] X.env)).any (·.1) = false := by rfl)
    (na : starEach [Expr.Call (.Name "zip" p2) [a, b] [] q] X.env = (false, eval (Expr.Call (.Name "zip" p2) [a, b] [] q) X.env) :: starEach [] X.env := by rfl) :
    PE X (.Call (.Name "list" p) [.Call (.Name "zip" p2) [a, b] [] q] [] pos) (tListZip ta) := by
  refine ⟨fun pins s σ H R I h => ?_⟩
  refine Call_ (ld_blt I hg hm boot_list (callWith_type1 (args_cons ?_ na) na rfl))
  refine Call_ (ld_blt I hg2 hm2 boot_zip (callWith_type1 (thn (ha.run q pins s σ H _ I h) fun us s1 ⟨vs, H1, I1, r1, q1⟩ => ?_) hs hpl))
  obtain ⟨x, y, ex, hl, hz, qq⟩ := q1
  subst ex
  cases r1 with
  | cons r rr =>
    cases rr with
    | cons r' rr =>
      cases rr
      obtain ⟨tx, rfl⟩ := r
      obtain ⟨ty, rfl⟩ := r'
      refine run_zipS fun h' hzip Z hsz hk => args_nil ?_
      have n : ∀ i j : Nat, i ≠ j → s1.heap.objs.size + i ≠ s1.heap.objs.size + j := fun i j h z => h (Nat.add_left_cancel z)
      refine run_list_zip (s := { s1 with heap := h' }) (I1.ok.hd hc) ⟨n 2 4 (by decide), n 3 4 (by decide), n 0 4 (by decide), n 1 4 (by decide), n 2 3 (by decide), n 2 0 (by decide), n 2 1 (by decide), n 3 0 (by decide), n 3 1 (by decide), n 0 1 (by decide)⟩ Z ?_ hl hz ⟨_, hzip⟩ fun h2 tk acc c hk2 hS2 hz2 hp2 ha2 => ?_
      · intro b hb
        show b < h'.objs.size
        rw [hsz]
        simp only [List.mem_cons, List.not_mem_nil, or_false] at hb
        rcases hb with rfl | rfl | rfl | rfl | rfl
        · exact Nat.add_lt_add_left (by decide) _
        · exact Nat.add_lt_add_left (by decide) _
        · exact Nat.add_lt_add_left (by decide) _
        · exact Nat.lt_add_of_pos_right (by decide)
        · exact Nat.add_lt_add_left (by decide) _
      have hk2 : ∀ b o, b ∉ [s1.heap.objs.size + 4, s1.heap.objs.size + 3, s1.heap.objs.size, s1.heap.objs.size + 1] → h'.get? b = some o → h2.get? b = some o := hk2
      have hS2 : h2.get? h'.objs.size = some { cls := .type "list", dict := none, data := .seq acc c, slots := #[] } := hS2
      have hp2 : PrsAt h2 x y (h'.objs.size + 1) acc := hp2
      rw [hsz] at hS2 hp2
      have kk : ∀ b o, s1.heap.get? b = some o → h2.get? b = some o := fun b o e => hk2 b o (fun h => by
        have := Heap.lt_size e
        simp only [List.mem_cons, List.not_mem_nil, or_false] at h
        rcases h with rfl | rfl | rfl | rfl
        · exact Nat.not_lt.mpr (Nat.le_add_right _ _) this
        · exact Nat.not_lt.mpr (Nat.le_add_right _ _) this
        · exact Nat.lt_irrefl _ this
        · exact Nat.not_lt.mpr (Nat.le_add_right _ _) this) (hk b o e)
      have all : ∃ ts : List Addr, acc.toList = ts.map Value.ref := by
        have : ∀ v ∈ acc.toList, ∃ T, v = Value.ref T := fun v hv => by
          obtain ⟨i, hi, e⟩ := List.getElem_of_mem hv
          obtain ⟨T, _, _, h1, _⟩ := hp2 i v (by rw [← e]; simp at hi ⊢)
          exact ⟨T, h1⟩
        generalize acc.toList = l at this
        induction l with
        | nil => exact ⟨[], rfl⟩
        | cons v l ih =>
          obtain ⟨T, rfl⟩ := this v List.mem_cons_self
          obtain ⟨ts, e⟩ := ih fun u hu => this u (List.mem_cons_of_mem _ hu)
          exact ⟨T :: ts, by rw [e]; rfl⟩
      obtain ⟨ts, ets⟩ := all
      have tl : ts.length = x.length := by
        have := congrArg List.length ets
        rw [Array.length_toList, List.length_map] at this
        rw [← this]; exact hz2
      have at_ : ∀ (i : Nat) (t : Addr), ts[i]? = some t → acc[i]? = some (.ref t) := fun i t e => by
        rw [← Array.getElem?_toList, ets, List.getElem?_map, e]; rfl
      have pr : ∀ (i : Nat) (t : Addr), ts[i]? = some t → s1.heap.objs.size + 5 + 1 ≤ t ∧ ∃ a b u v, IsPair h2 t (.str ⟨#[a]⟩ u) (.str ⟨#[b]⟩ v) ∧ x.cps[i]? = some a ∧ y.cps[i]? = some b := fun i t e => by
        obtain ⟨T, a, b, h1, h2, h3, ⟨c1, u1, h4, rfl⟩, ⟨c2, u2, h5, rfl⟩⟩ := hp2 i _ (at_ i t e)
        cases h1
        exact ⟨h2, c1, c2, u1, u2, h3, h4, h5⟩
      have lens : x.cps.size = x.length := rfl
      let hoOf : Nat → Addr → Addr × HO := fun i t => (t, .tup [.str ⟨#[(x.cps[i]?).getD 0]⟩, .str ⟨#[(y.cps[i]?).getD 0]⟩])
      let L : List (Addr × HO) := (s1.heap.objs.size + 5, .lst (ts.map V.ref)) :: ts.mapIdx hoOf
      have eL : L.map (·.1) = (s1.heap.objs.size + 5) :: ts := by
        show _ :: (ts.mapIdx hoOf).map (·.1) = _
        congr 1
        apply List.ext_getElem?
        intro i
        rw [List.getElem?_map, List.getElem?_mapIdx]
        cases ts[i]? <;> rfl
      have memL : ∀ u ∈ L, u = (s1.heap.objs.size + 5, .lst (ts.map V.ref)) ∨ ∃ (i : Nat) (t : Addr), ts[i]? = some t ∧ u = hoOf i t := fun u hu => by
        rcases List.mem_cons.mp hu with h | h
        · exact .inl h
        · obtain ⟨i, hi, e⟩ := List.getElem_of_mem h
          have g := List.getElem?_eq_getElem hi
          rw [List.getElem?_mapIdx] at g
          obtain ⟨t, ht, e2⟩ := Option.map_eq_some_iff.mp g
          exact .inr ⟨i, t, ht, by rw [← e, ← e2]⟩
      have nd : (L.map (·.1)).Nodup := by
        rw [eL, List.nodup_cons]
        refine ⟨fun hm => ?_, ?_⟩
        · obtain ⟨i, hi, e⟩ := List.getElem_of_mem hm
          have := (pr i _ (List.getElem?_eq_getElem hi)).1
          rw [e] at this
          exact Nat.lt_irrefl _ this
        · rw [List.nodup_iff_pairwise_ne, List.pairwise_iff_getElem]
          intro i j hi hj hij e
          have g := List.getElem?_eq_getElem hj
          have g' := List.getElem?_eq_getElem hi
          rw [e] at g'
          have := ha2 i j _ _ hij (at_ i _ g') (at_ j _ g)
          exact Nat.lt_irrefl _ this
      have lo5 : ∀ u ∈ L, s1.heap.objs.size ≤ u.1 := fun u hu => by
        rcases memL u hu with rfl | ⟨i, t, ht, rfl⟩
        · exact Nat.le_add_right _ _
        · exact Nat.le_trans (Nat.le_add_right _ 6) (pr i t ht).1
      obtain ⟨H2, e1, e2, e3, e4⟩ := lay_many L H1 (I1.hok.kept kk) nd (fun u hu => I1.hok.fresh (lo5 u hu)) (fun u hu H' => by
        rcases memL u hu with rfl | ⟨i, t, ht, rfl⟩
        · refine ⟨by rw [List.length_map, tl]; exact hz, acc.toList, c, ?_, by simpa using hS2⟩
          rw [ets]
          exact vals_refs ts
        · obtain ⟨_, a, b, u, v, h1, h2, h3⟩ := pr i t ht
          have g1 : (x.cps[i]?).getD 0 = a := by rw [h2]; rfl
          have g2 : (y.cps[i]?).getD 0 = b := by rw [h3]; rfl
          show ObjOk _ _ _ _ t (.tup [.str ⟨#[(x.cps[i]?).getD 0]⟩, .str ⟨#[(y.cps[i]?).getD 0]⟩])
          rw [g1, g2]
          exact ⟨sz2, [_, _], .cons ⟨u, rfl⟩ (.cons ⟨v, rfl⟩ .nil), _, h1, rfl, _, rfl⟩)
      have I2 : L2.Inv X pins σ H2 { s1 with heap := h2, toks := tk } := I1.un (Un.grow kk e1 fun b o e n => by
        rw [e4 b (fun hm => ?_)]; exact n
        obtain ⟨u, hu, rfl⟩ := List.mem_map.mp hm
        exact Nat.lt_irrefl _ (Nat.lt_of_lt_of_le (Heap.lt_size e) (lo5 u hu))) e2
      refine ⟨.ref (s1.heap.objs.size + 5), H2, I2, by show _ = _; rw [← hsz], qq _ ts H2 e1 (I1.hok.fresh (Nat.le_add_right _ _)) (e3 _ List.mem_cons_self) tl fun i t ht => ?_⟩
      obtain ⟨g0, a, b, u, v, g1, g2, g3⟩ := pr i t ht
      refine ⟨I1.hok.fresh (Nat.le_trans (Nat.le_add_right _ 6) g0), a, b, ?_, g2, g3⟩
      have := e3 (hoOf i t) (List.mem_cons_of_mem _ (List.mem_of_getElem? (i := i) (by rw [List.getElem?_mapIdx, ht]; rfl)))
      rw [show hoOf i t = (t, .tup [.str ⟨#[a]⟩, .str ⟨#[b]⟩]) from by show (t, _) = _; rw [g2, g3]; rfl] at this
      exact this
theorem denL_ix {K : PySem.W.Frag} {F : Hp} : ∀ {vs : List V} {ds : List D}, vs.length = ds.length → (∀ (i : Nat) v d, vs[i]? = some v → ds[i]? = some d → Den K F v d) → DenL K F vs ds
  | [], [], _, _ => .nil
  | v :: vs, d :: ds, h, k => .cons (k 0 v d rfl rfl) (denL_ix (by simpa using h) fun i v' d' h1 h2 => k (i + 1) v' d' (by simpa using h1) (by simpa using h2))
section
variable {K : PySem.W.Frag} {F H : Hp} {σ : L2.St} {ta : TA}
theorem ev_listZip {l m : List Nat} {d e : D} (h : EvA K ta σ F [d, e]) (e1 : d = txt l) (e2 : e = txt m) (hl : l.length = m.length) (hz : l.length ≤ 16777216) : EvD K (tListZip ta) σ F (.lst ((l.zip m).map fun p => .tup [txt [p.1], txt [p.2]])) := fun H s Q q => h H s _ fun vs F1 H1 x1 dl => by
  subst e1 e2
  cases dl with
  | cons a t =>
    cases t with
    | cons b t =>
      cases t
      cases a
      cases b
      refine ⟨_, _, rfl, by rw [txt_len, txt_len]; exact hl, by rw [txt_len, sizeLine_eq]; exact hz, fun p ts H2 sm hp hpl tl hts => ?_⟩
      rw [txt_len] at tl
      let F2 : Hp := fun b => match H1 b with | none => H2 b | some _ => F1 b
      have f2n : ∀ b, H1 b = none → F2 b = H2 b := fun b hb => by show (match H1 b with | none => H2 b | some _ => F1 b) = _; rw [hb]
      have f2s : ∀ b o, H1 b = some o → F2 b = F1 b := fun b o hb => by show (match H1 b with | none => H2 b | some _ => F1 b) = _; rw [hb]
      have x2 : Ext [] F1 H1 F2 H2 := Ext.of (fun a o ha => by rw [f2s a o (x1.s a o ha)]; exact ha) sm (fun a o ha => by
        cases hh : H1 a with
        | none => rw [f2n a hh] at ha; exact ha
        | some u => rw [f2s a u hh] at ha; exact sm a o (x1.s a o ha)) fun a ha hk => by
          cases hh : H1 a with
          | none => exact absurd hh hk
          | some u => rw [f2s a u hh]; exact ha
      refine q _ F2 H2 (x1.tr x2) (.lst (xs := ts.map V.ref) (by rw [f2n p hp]; exact hpl) ?_)
      refine denL_ix (by rw [List.length_map, List.length_map, List.length_zip]; omega) fun i v dd hv hd => ?_
      rw [List.getElem?_map] at hv hd
      obtain ⟨t, ht, rfl⟩ := Option.map_eq_some_iff.mp hv
      obtain ⟨pq, hpq, rfl⟩ := Option.map_eq_some_iff.mp hd
      obtain ⟨h1, a, b, h2, h3, h4⟩ := hts i t ht
      have ea : l[i]? = some a := by simpa using h3
      have eb : m[i]? = some b := by simpa using h4
      have : pq = (a, b) := by
        have hz := List.getElem?_zip_eq_some.mp hpq
        rw [ea, eb] at hz
        exact Prod.ext (Option.some.inj hz.1).symm (Option.some.inj hz.2).symm
      subst this
      exact .tup (SqT.of (by rw [f2n t h1]; exact h2)) (.cons (.str _) (.cons (.str _) .nil))
end
end Nm

set_option Elab.async false
set_option linter.all false
set_option maxRecDepth 100000
set_option maxHeartbeats 1000000
/-! any values: a list == [], tuple(list), how long a text of them is -/
namespace Nm
open PySem PySem.Spec L2
def rEqNil (K : PySem.W.Frag) : R2 := fun x y H Q => ∃ a b xs, x = .ref a ∧ y = .ref b ∧ SqL K H a xs ∧ SqL K H b [] ∧ Q (.bl xs.isEmpty) H
def rEqN (K : PySem.W.Frag) : R2 := fun x y H Q => rEqA K x y H Q ∨ rEqNil K x y H Q
def rTupleA (K : PySem.W.Frag) : List V → Hp → VK → Prop := fun xs H Q => ∃ p ys, xs = [.ref p] ∧ ((SqL K H p ys ∧ ∀ l, H l = none → Q (.ref l) (upd H l (.tup ys))) ∨ (SqT K H p ys ∧ Q (.ref p) H))
theorem c_tuple {X : Cx} : CallR X (.type "tuple") (rTupleA X.K) := call_tuple_of
section
variable {X : Cx}
theorem op_eqNil (hu : X.A.units < cLine) : OpR X (compareOp .Eq) (rEqNil X.K) := by
  intro pins s σ H x y v u Q I rx ry h
  obtain ⟨a, b, xs, rfl, rfl, ha, hb, q⟩ := h
  obtain rfl : v = Value.ref a := rx
  obtain rfl : u = Value.ref b := ry
  obtain ⟨its, r1, p1, _⟩ := I.list ha
  obtain ⟨its', r2, p2, _⟩ := I.list hb
  have e2 : its' = [] := by cases r2; rfl
  subst e2
  show wpAny _ _ (richCompare .Eq _ _) _ _ _
  cases r1 with
  | nil => exact (SeqAt.RcAt.lists (e := fun _ => true) p1.isList p2.isList rfl hu (fun j h1 h2 => absurd h1 (by simp))) _ _ _ _ (fin_bl I q rfl)
  | cons h t => exact (SeqAt.RcAt.lists_lengths p1.isList p2.isList (by simp) hu) _ _ _ _ (fin_bl I q rfl)
theorem o_eqN (hu : X.A.units + 64 < cLine) : OpR X (compareOp .Eq) (rEqN X.K) := opr_or (o_eq hu) (op_eqNil (by omega))
end
section
variable {K : PySem.W.Frag}
theorem rv_eqN {r : R2} {a b d : D} (h : RvD K (rEqA K) a b d) : RvD K (rEqN K) a b d := fun F H x y s hx hy Q q => .inl (h F H x y s hx hy Q q)
theorem rv_eqNil {ds : List D} : RvD K (rEqN K) (.lst ds) (.lst []) (.bl ds.isEmpty) := fun F H x y s hx hy Q q => .inr (by
  cases hx with
  | lst a l =>
    cases hy with
    | lst b m =>
      cases m
      refine ⟨_, _, _, rfl, rfl, SqL.of (s _ _ a), SqL.of (s _ _ b), ?_⟩
      have e : (‹List V› : List V).isEmpty = ds.isEmpty := by cases l <;> rfl
      rw [e]
      exact q _ F H (Ext.refl s) (.bl _))
theorem rc_tupleL {ds : List D} : RcD K (rTupleA K) [.lst ds] (.tup ds) := fun F H xs s hx Q q => by
  cases hx with
  | cons a t =>
    cases t
    cases a with
    | lst r l => exact ⟨_, _, rfl, .inl ⟨SqL.of (s _ _ r), fun p hp => q _ _ _ (Ext.new s hp) (.tup (SqT.of upd_same) (l.up (Ext.new (o := .tup _) s hp).f))⟩⟩
end
/-! ### how long -/
structure Shw (d : D) (n k : Nat) : Prop where
  pl : plainN d = true
  sh : (toPy d).showable = true
  de : (toPy d).depth ≤ k
  le : (toPy d).shown.length ≤ n
theorem Shw.ok {d : D} {n k : Nat} (h : Shw d n k) (hn : n ≤ 16777216) (hk : k ≤ 40) : okN d = true := by
  unfold okN shownD
  rw [h.pl, h.sh, decide_eq_true (Nat.le_trans h.de hk), decide_eq_true (Nat.le_trans h.le hn)]
  rfl
theorem Shw.mono {d : D} {n k n' k' : Nat} (h : Shw d n k) (hn : n ≤ n') (hk : k ≤ k') : Shw d n' k' := ⟨h.pl, h.sh, Nat.le_trans h.de hk, Nat.le_trans h.le hn⟩
theorem shw_str {z : Str} (h : PyData.strOk z = true) : Shw (.str z) (10 * z.length + 2) 0 := by
  obtain ⟨h1, h2, h3, h4⟩ := show_of (.str z) (by unfold txtD; exact h)
  refine ⟨by unfold plainN; rfl, h1, Nat.le_of_eq (h3.trans (by unfold dp; rfl)), ?_⟩
  have : wt (.str z) = 10 * z.length + 2 := by unfold wt; rfl
  omega
theorem shw_all {n k : Nat} : ∀ ds : List D, (∀ d ∈ ds, Shw d n k) → plainNL ds = true ∧ PyData.showableAll (toPyL ds) = true ∧ PyData.depthAll (toPyL ds) ≤ k ∧ piled (PyData.shownAll (toPyL ds)) ≤ ds.length * (n + 2)
  | [], _ => by unfold toPyL plainNL; simp only [PyData.showableAll, PyData.depthAll, PyData.shownAll, piled_nil]; exact ⟨trivial, trivial, Nat.zero_le _, Nat.zero_le _⟩
  | d :: ds, h => by
    have a := h d List.mem_cons_self
    obtain ⟨h1, h2, h3, h4⟩ := shw_all ds fun x hx => h x (List.mem_cons_of_mem _ hx)
    unfold toPyL plainNL
    simp only [PyData.showableAll, PyData.depthAll, PyData.shownAll, piled_cons, a.pl, a.sh, h1, h2, List.length_cons]
    have := a.de
    have := a.le
    refine ⟨rfl, rfl, by omega, ?_⟩
    rw [Nat.add_mul, Nat.one_mul]
    omega
theorem shw_lst {n k L : Nat} {ds : List D} (h : ∀ d ∈ ds, Shw d n k) (hl : ds.length ≤ L) : Shw (.lst ds) (L * (n + 2) + 2) (k + 1) := by
  obtain ⟨h1, h2, h3, h4⟩ := shw_all ds h
  have h5 : ds.length * (n + 2) ≤ L * (n + 2) := Nat.mul_le_mul_right _ hl
  have := listText_le (PyData.shownAll (toPyL ds))
  refine ⟨by unfold plainN; exact h1, by unfold toPy; simp only [PyData.showable]; exact h2, by unfold toPy; simp only [PyData.depth]; omega, by unfold toPy; simp only [PyData.shown]; omega⟩
theorem shw_tup {n k L : Nat} {ds : List D} (h : ∀ d ∈ ds, Shw d n k) (hl : ds.length ≤ L) : Shw (.tup ds) (L * (n + 2) + 4) (k + 1) := by
  obtain ⟨h1, h2, h3, h4⟩ := shw_all ds h
  have h5 : ds.length * (n + 2) ≤ L * (n + 2) := Nat.mul_le_mul_right _ hl
  have := tupleText_le (PyData.shownAll (toPyL ds))
  refine ⟨by unfold plainN; exact h1, by unfold toPy; simp only [PyData.showable]; exact h2, by unfold toPy; simp only [PyData.depth]; omega, by unfold toPy; simp only [PyData.shown]; omega⟩
end Nm

set_option Elab.async false
set_option linter.all false
set_option maxRecDepth 100000
set_option maxHeartbeats 2000000
/-! Dicts whose keys are tuples of any depth, also such as the top of a module holds. -/
namespace Nm
open PySem PySem.Spec L2 PyProof.Rows

/-- a key as a datum -/
def keyN : NestedKey → D
  | .none => .non
  | .num i => .int i
  | .text x => .str x
  | .tup ks => .tup (keyDs ks)
where keyDs : List NestedKey → List D
  | [] => []
  | k :: ks => keyN k :: keyDs ks
section
variable {P : Program} {w : World} {K : PySem.W.Frag} {H : Hp} {h : Heap}
mutual
theorem nested_of (hok : HOk P w H h) (KX : K.In h) : ∀ (k : NestedKey) (v : V) (u : Value), Den K H v (keyN k) → RelV v u → NestedIs h k u
  | .none, v, u, d, r => by
    unfold keyN at d
    cases d
    cases r
    exact .none
  | .num i, v, u, d, r => by
    unfold keyN at d
    cases d
    obtain ⟨t, rfl⟩ := r
    exact .int i t
  | .text x, v, u, d, r => by
    unfold keyN at d
    cases d
    obtain ⟨t, rfl⟩ := r
    exact .text x t
  | .tup ks, v, u, d, r => by
    unfold keyN at d
    cases d with
    | tup q l =>
      cases (show u = Value.ref _ from r)
      obtain ⟨its, o, n, hv, e, hc, hd⟩ := sqT_at hok KX q
      exact .tup e hc hd (by
        rw [show (its.toArray.toList) = its from by simp]
        exact nested_all hok KX ks _ its l hv)
theorem nested_all (hok : HOk P w H h) (KX : K.In h) : ∀ (ks : List NestedKey) (vs : List V) (us : List Value), DenL K H vs (keyN.keyDs ks) → Vals vs us → NestedAll h ks us
  | [], vs, us, d, r => by
    unfold keyN.keyDs at d
    cases d
    cases r
    exact .nil
  | k :: ks, vs, us, d, r => by
    unfold keyN.keyDs at d
    cases d with
    | cons a t =>
      cases r with
      | cons b s => exact .cons (nested_of hok KX k _ _ a b) (nested_all hok KX ks _ _ t s)
end
end
/-! ### what such a dict holds -/
def lkN {α : Type} (m : List (NestedKey × α)) (k : NestedKey) : Option α := (m.find? fun p => decide (p.1 = k)).map (·.2)
def putN {α : Type} (m : List (NestedKey × α)) (k : NestedKey) (a : α) : List (NestedKey × α) := if (lkN m k).isSome then m.map (fun p => if p.1 = k then (p.1, a) else p) else m ++ [(k, a)]
structure NDe (P : Program) (w : World) (K : PySem.W.Frag) (G H : Hp) (d : Addr) (m : List (NestedKey × V)) (o : Obj) (es : Array DictEntry) (ep : Nat) (xs : List (NestedKey × Addr × Value)) : Prop where
  at_ : H d = some (exO (d, o))
  sg : Same G H
  gd : G d = none
  ex : o.ExactDict
  dat : o.data = .dict es ep
  ent : es.toList = xs.map (entryOfKey (nestedKind P w))
  nd : (xs.map (·.1)).Nodup
  rel : Paired (fun (p : NestedKey × V) (q : NestedKey × Addr × Value) => p.1 = q.1 ∧ Den K G (.ref q.2.1) (keyN p.1) ∧ RelV p.2 q.2.2) m xs
  dep : ∀ p ∈ m, p.1.depth ≤ 8
/-- the dict at d; K's frozen part is told by F in the places of data -/
def NDo (P : Program) (w : World) (K : PySem.W.Frag) (G H : Hp) (d : Addr) (m : List (NestedKey × V)) : Prop := (d == sysModules) = false ∧ m.length ≤ sizeLine ∧ ∃ o es ep xs, NDe P w K G H d m o es ep xs
section
variable {X : Cx} {pins : List (Addr × Obj)} {σ : L2.St} {G H : Hp} {s : Shared} {d : Addr} {m : List (NestedKey × V)} {k : NestedKey} {x v : V} {u r : Value} {A : Around} {E : Value → Shared → Prop}
theorem rel_at {R : (NestedKey × V) → (NestedKey × Addr × Value) → Prop} : ∀ {m : List (NestedKey × V)} {xs : List (NestedKey × Addr × Value)}, Paired R m xs → (∀ p q, R p q → p.1 = q.1) → ∀ k, (lkN m k = none ∧ atKey xs k = none) ∨ ∃ p q, R p q ∧ p.1 = k ∧ lkN m k = some p.2 ∧ atKey xs k = some q.2
  | _, _, .nil, _, k => .inl ⟨rfl, rfl⟩
  | p :: m, q :: xs, .cons a t, hR, k => by
    have e := hR p q a
    by_cases z : p.1 = k
    · refine .inr ⟨p, q, a, z, ?_, ?_⟩
      · unfold lkN; rw [List.find?_cons, decide_eq_true z]; rfl
      · unfold atKey; rw [List.find?_cons, decide_eq_true (e ▸ z)]; rfl
    · have z' : ¬ q.1 = k := fun y => z (e.trans y)
      have e1 : lkN (p :: m) k = lkN m k := by unfold lkN; rw [List.find?_cons, decide_eq_false z]
      have e2 : atKey (q :: xs) k = atKey xs k := by unfold atKey; rw [List.find?_cons, decide_eq_false z']
      rw [e1, e2]
      exact rel_at t hR k
theorem nd_heap (I : Inv X pins σ H s) (g : NDo X.prog X.w X.K G H d m) : ∃ xs, s.heap.DictOfH (nestedKind X.prog X.w) d xs ∧ Paired (fun (p : NestedKey × V) (q : NestedKey × Addr × Value) => p.1 = q.1 ∧ Den X.K G (.ref q.2.1) (keyN p.1) ∧ RelV p.2 q.2.2) m xs ∧ ∃ o es ep, NDe X.prog X.w X.K G H d m o es ep xs ∧ s.heap.get? d = some o := by
  obtain ⟨_, _, o, es, ep, xs, e⟩ := g
  have hg : s.heap.get? d = some o := (I.hok d _ e.at_).1
  refine ⟨xs, ⟨o, es, ep, hg, e.ex, e.dat, e.ent, fun q hq => ?_, e.nd⟩, e.rel, o, es, ep, e, hg⟩
  have all : ∀ {m : List (NestedKey × V)} {xs : List (NestedKey × Addr × Value)}, Paired (fun (p : NestedKey × V) (q : NestedKey × Addr × Value) => p.1 = q.1 ∧ Den X.K G (.ref q.2.1) (keyN p.1) ∧ RelV p.2 q.2.2) m xs → (∀ p ∈ m, p.1.depth ≤ 8) → ∀ q ∈ xs, (nestedKind X.prog X.w).is s.heap q.1 q.2.1 := by
    intro m xs r
    induction r with
    | nil => intro _ q hq; exact nomatch hq
    | @cons p q ps qs a t ih =>
      intro hd q' hq'
      rcases List.mem_cons.mp hq' with rfl | hq'
      · rw [← a.1]
        exact ⟨nested_of I.hok I.kIn p.1 _ _ (a.2.1.up e.sg) rfl, hd p List.mem_cons_self⟩
      · exact ih (fun p hp => hd p (List.mem_cons_of_mem _ hp)) q' hq'
  exact all e.rel e.dep q hq
theorem nd_key (I : Inv X pins σ H s) (dk : Den X.K H x (keyN k)) (hk : ∃ ks, k = .tup ks) (hd : k.depth ≤ 8) (ru : RelV x u) : ∃ q, u = .ref q ∧ x = .ref q ∧ (nestedKind X.prog X.w).is s.heap k q := by
  obtain ⟨ks, rfl⟩ := hk
  have n := nested_of I.hok I.kIn _ _ _ dk ru
  unfold keyN at dk
  cases dk with
  | tup h l =>
    cases (show u = Value.ref _ from ru)
    exact ⟨_, rfl, rfl, n, hd⟩
theorem same_upd {G H : Hp} {d : Addr} {o : HO} (s : Same G H) (h : G d = none) : Same G (upd H d o) := fun a u e => by
  rw [upd_ne (fun z => by rw [z, h] at e; cases e)]; exact s a u e
theorem ndo_sg {P : Program} {w : World} {K : PySem.W.Frag} {G H : Hp} {d : Addr} {m : List (NestedKey × V)} (g : NDo P w K G H d m) : Same G H := let ⟨_, _, _, _, _, _, e⟩ := g; e.sg
theorem nd_notin {Q : Value → Shared → Prop} (hu : A.units + 10 < cLine) (I : Inv X pins σ H s) (g : NDo X.prog X.w X.K G H d m) (dk : Den X.K G x (keyN k)) (hk : ∃ ks, k = .tup ks) (hd : k.depth ≤ 8) (ru : RelV x u) (h : ∀ s', Inv X pins σ H s' → Q (.bool (!(lkN m k).isSome)) s') : wpAny (model X.prog X.w) A (compareOp .NotIn u (.ref d)) Q E s := by
  obtain ⟨q, rfl, rfl, hq⟩ := nd_key I (dk.up (ndo_sg g)) hk hd ru
  obtain ⟨xs, dd, rel, _⟩ := nd_heap I g
  refine wpAny_notIn_heap (knd := nestedKind X.prog X.w) (by show A.units + 1 + 8 < cLine; omega) hq g.1 dd ?_
  have e : (atKey xs k).isSome = (lkN m k).isSome := by
    rcases rel_at rel (fun _ _ a => a.1) k with ⟨h1, h2⟩ | ⟨p, q, _, _, h1, h2⟩
    · rw [h1, h2]; rfl
    · rw [h1, h2]; rfl
  rw [e]
  exact h _ (I.tok _)
theorem nd_get {Q : Value → Shared → Prop} (hu : A.units + 10 < cLine) (I : Inv X pins σ H s) (g : NDo X.prog X.w X.K G H d m) (dk : Den X.K G x (keyN k)) (hk : ∃ ks, k = .tup ks) (hd : k.depth ≤ 8) (ru : RelV x u) (hl : lkN m k = some v) (h : ∀ w' s', Inv X pins σ H s' → RelV v w' → Q w' s') : wpAny (model X.prog X.w) A (getItem (.ref d) u) Q E s := by
  obtain ⟨q, rfl, rfl, hq⟩ := nd_key I (dk.up (ndo_sg g)) hk hd ru
  obtain ⟨xs, dd, rel, _⟩ := nd_heap I g
  rcases rel_at rel (fun _ _ a => a.1) k with ⟨h1, h2⟩ | ⟨p, q', r, _, h1, h2⟩
  · rw [hl] at h1; cases h1
  · rw [hl] at h1
    cases h1
    exact wpAny_getItem_heap (knd := nestedKind X.prog X.w) (by show A.units + 1 + 8 < cLine; omega) hq dd h2 (h _ _ (I.tok _) r.2.2)
abbrev NDr (K : PySem.W.Frag) (H : Hp) : (NestedKey × V) → (NestedKey × Addr × Value) → Prop := fun p q => p.1 = q.1 ∧ Den K H (.ref q.2.1) (keyN p.1) ∧ RelV p.2 q.2.2
theorem nd_map {K : PySem.W.Frag} {H : Hp} {v : V} {r : Value} {k : NestedKey} (rv : RelV v r) : ∀ {m : List (NestedKey × V)} {xs : List (NestedKey × Addr × Value)}, Paired (NDr K H) m xs → Paired (NDr K H) (m.map fun p => if p.1 = k then (p.1, v) else p) (xs.map (putAt k r))
  | _, _, .nil => .nil
  | p :: m, q :: xs, .cons a t => by
    rw [List.map_cons, List.map_cons]
    refine .cons ?_ (nd_map rv t)
    show NDr K H (if p.1 = k then (p.1, v) else p) (if q.1 = k then (q.1, q.2.1, r) else q)
    by_cases z : p.1 = k
    · have z' : q.1 = k := a.1 ▸ z
      rw [if_pos z, if_pos z']
      exact ⟨a.1, a.2.1, rv⟩
    · have z' : ¬ q.1 = k := fun y => z (a.1.trans y)
      rw [if_neg z, if_neg z']
      exact a
theorem nd_app {R : (NestedKey × V) → (NestedKey × Addr × Value) → Prop} {p : NestedKey × V} {q : NestedKey × Addr × Value} (h : R p q) : ∀ {m : List (NestedKey × V)} {xs : List (NestedKey × Addr × Value)}, Paired R m xs → Paired R (m ++ [p]) (xs ++ [q])
  | _, _, .nil => .cons h .nil
  | _ :: _, _ :: _, .cons a t => .cons a (nd_app h t)
theorem nd_stored {K : PySem.W.Frag} {H : Hp} {q : Addr} {v : V} {r : Value} {k : NestedKey} {m : List (NestedKey × V)} {xs : List (NestedKey × Addr × Value)} (rel : Paired (NDr K H) m xs) (dk : Den K H (.ref q) (keyN k)) (rv : RelV v r) : Paired (NDr K H) (putN m k v) (storedH xs k q r) := by
  unfold putN storedH
  have e : (atKey xs k).isSome = (lkN m k).isSome := by
    rcases rel_at rel (fun _ _ a => a.1) k with ⟨h1, h2⟩ | ⟨p, q, _, _, h1, h2⟩
    · rw [h1, h2]; rfl
    · rw [h1, h2]; rfl
  rw [e]
  split
  · exact nd_map rv rel
  · exact nd_app ⟨rfl, dk, rv⟩ rel
mutual
theorem den_key_upd {K : PySem.W.Frag} {H : Hp} {d : Addr} {p : Addr × Obj} {u : HO} (e : H d = some (exO p)) : ∀ (k : NestedKey) (v : V), Den K H v (keyN k) → Den K (upd H d u) v (keyN k)
  | .none, v, h => by unfold keyN at h ⊢; cases h; exact .non
  | .num i, v, h => by unfold keyN at h ⊢; cases h; exact .int i
  | .text x, v, h => by unfold keyN at h ⊢; cases h; exact .str x
  | .tup ks, v, h => by
    unfold keyN at h ⊢
    cases h with
    | tup q l =>
      refine .tup ?_ (den_keys_upd e ks _ l)
      rcases q with (q | ⟨o, q⟩) | q
      · exact .inl (.inl (by rw [upd_ne (fun z => by rw [z, e] at q; cases q)]; exact q))
      · exact .inl (.inr ⟨o, by rw [upd_ne (fun z => by rw [z, e] at q; cases q)]; exact q⟩)
      · exact .inr q
theorem den_keys_upd {K : PySem.W.Frag} {H : Hp} {d : Addr} {p : Addr × Obj} {u : HO} (e : H d = some (exO p)) : ∀ (ks : List NestedKey) (vs : List V), DenL K H vs (keyN.keyDs ks) → DenL K (upd H d u) vs (keyN.keyDs ks)
  | [], vs, h => by unfold keyN.keyDs at h ⊢; cases h; exact .nil
  | k :: ks, vs, h => by
    unfold keyN.keyDs at h ⊢
    cases h with
    | cons a t => exact .cons (den_key_upd e k _ a) (den_keys_upd e ks _ t)
end
theorem putN_len {α : Type} (m : List (NestedKey × α)) (k : NestedKey) (a : α) : (putN m k a).length ≤ m.length + 1 := by
  unfold putN
  split
  · rw [List.length_map]; omega
  · rw [List.length_append]; exact Nat.le_refl _
theorem putN_keys {α : Type} {m : List (NestedKey × α)} {k : NestedKey} {a : α} {p : NestedKey × α} (h : p ∈ putN m k a) : p.1 = k ∨ ∃ q ∈ m, q.1 = p.1 := by
  unfold putN at h
  split at h
  · obtain ⟨q, hq, e⟩ := List.mem_map.mp h
    split at e
    · rename_i z; rw [← e]; exact .inl z
    · rw [← e]; exact .inr ⟨q, hq, rfl⟩
  · rcases List.mem_append.mp h with h | h
    · exact .inr ⟨p, h, rfl⟩
    · rw [List.mem_singleton.mp h]; exact .inl rfl
/-- d[k] = v -/
theorem nd_set {Q : Unit → Shared → Prop} (hu : A.units + 10 < cLine) (I : Inv X pins σ H s) (g : NDo X.prog X.w X.K G H d m) (hn : m.length < sizeLine) (dk : Den X.K G x (keyN k)) (hk : ∃ ks, k = .tup ks) (hd : k.depth ≤ 8) (ru : RelV x u) (rv : RelV v r)
    (h : ∀ o s', NDo X.prog X.w X.K G (upd H d (exO (d, o))) d (putN m k v) → Inv X pins σ (upd H d (exO (d, o))) s' → Q () s') : wpAny (model X.prog X.w) A (setItem (.ref d) u r) Q E s := by
  obtain ⟨q, rfl, rfl, hq⟩ := nd_key I (dk.up (ndo_sg g)) hk hd ru
  obtain ⟨xs, dd, rel, o0, es0, ep0, ne, hg0⟩ := nd_heap I g
  have hz : xs.length ≤ sizeLine := by rw [← Paired.length rel]; exact g.2.1
  refine wpAny_setItem_heap (hsz := hz) (knd := nestedKind X.prog X.w) (by show A.units + 1 + 8 < cLine; omega) hq dd fun h' dd' hs => ?_
  obtain ⟨o, es, ep, hq', h2, h3, h4, _, h5⟩ := dd'
  refine h o _ ⟨g.1, ?_, o, es, ep, _, ⟨upd_same, same_upd ne.sg ne.gd, ne.gd, h2, h3, h4, h5, nd_stored rel dk rv, fun p hp => ?_⟩⟩ (d_write I (by rw [ne.at_]; exact True.intro) hs ⟨o, hq'⟩ ⟨hq', ⟨o, hq'⟩, fun h1 h2 q1 q2 => q2 _ q1⟩)
  · exact Nat.le_trans (putN_len m k v) hn
  · rcases putN_keys hp with e | ⟨q, hq2, e⟩
    · rw [e]; exact hd
    · rw [← e]; exact ne.dep q hq2
end
/-! ### readings -/
def rNotInN (P : Program) (w : World) (K : PySem.W.Frag) : R2 := fun x y H Q => ∃ G d m k, y = .ref d ∧ NDo P w K G H d m ∧ Den K G x (keyN k) ∧ (∃ ks, k = .tup ks) ∧ k.depth ≤ 8 ∧ Q (.bl (!(lkN m k).isSome)) H
theorem o_notinN {X : Cx} (hu : X.A.units + 10 < cLine) : OpR X (compareOp .NotIn) (rNotInN X.prog X.w X.K) := by
  intro pins s σ H x y v u Q I rx ry h
  obtain ⟨G, d, m, k, rfl, g, dk, hk, hd, q⟩ := h
  cases (show u = Value.ref d from ry)
  exact nd_notin hu I g dk hk hd rx fun s' I' => ⟨.bl (!(lkN m k).isSome), H, I', rfl, q⟩
def rIxN (P : Program) (w : World) (K : PySem.W.Frag) : R2 := fun x y H Q => ∃ G d m k v, x = .ref d ∧ NDo P w K G H d m ∧ Den K G y (keyN k) ∧ (∃ ks, k = .tup ks) ∧ k.depth ≤ 8 ∧ lkN m k = some v ∧ Q v H
theorem ix_N {X : Cx} (hu : X.A.units + 10 < cLine) : IxR X (rIxN X.prog X.w X.K) := by
  intro value slice pins s σ H x y v u Q I rx ry h hs
  obtain ⟨G, d, m, k, z, rfl, g, dk, hk, hd, hl, q⟩ := h
  cases (show v = Value.ref d from rx)
  obtain ⟨xs, dd, _⟩ := nd_heap I g
  exact PyProof.Rows.tail_any dd.typeIs PySem.F.slot_dict_getitem.lookup (nd_get hu I g dk hk hd ry hl fun w' s' I' rw' => ⟨z, H, I', rw', q⟩) hs
def sNPut (P : Program) (w : World) (K : PySem.W.Frag) (td ty tv : TE) : TS := fun D σ H => tv σ H fun v H1 => td σ H1 fun x H2 => ty σ H2 fun y H3 => ∃ G d m k, x = .ref d ∧ NDo P w K G H3 d m ∧ m.length < sizeLine ∧ Den K G y (keyN k) ∧ (∃ ks, k = .tup ks) ∧ k.depth ≤ 8 ∧
  ∀ o, NDo P w K G (upd H3 d (exO (d, o))) d (putN m k v) → D.nx σ (upd H3 d (exO (d, o)))
theorem ps_nput {X : Cx} {o i value : Expr} {pos pos' : Pos} {td ty tv : TE} (hu : X.A.units + 10 < cLine) (ho : PE X o td) (hi : PE X i ty) (hv : PE X value tv) (hs : swapsWith value (some (.Subscript o i pos')) pos.line X.env = pure false) :
    PS X (.Assign [.Subscript o i pos'] value pos) (sNPut X.prog X.w X.K td ty tv) := by
  refine ⟨fun pins s σ H D I h => ?_⟩
  refine wpAny_Assign_Subscript (thn (hv.run pins s σ H _ I h) fun r s1 ⟨v, H1, I1, rv, q1⟩ => thn (ho.run pins s1 σ H1 _ I1 q1) fun u s2 ⟨x, H2, I2, rx, q2⟩ => thn (hi.run pins s2 σ H2 _ I2 q2) fun iv s3 ⟨y, H3, I3, ry, G, d, m, k, ex, g, hn, dk, hk, hd, q3⟩ => ?_) hs
  subst ex
  obtain rfl : u = Value.ref d := rx
  exact nd_set hu I3 g hn dk hk hd ry rv fun o s4 g4 I4 => ⟨σ, _, I4, q3 o g4⟩
/-- d.get(k, x) -/
def tNGet2 (P : Program) (w : World) (K : PySem.W.Frag) (td ty tx : TE) : TE := fun σ H Q => td σ H fun x H1 => ∃ d, x = .ref d ∧ (∃ G m, NDo P w K G H1 d m) ∧ ty σ H1 fun y H2 => tx σ H2 fun z H3 => ∃ G m k, NDo P w K G H3 d m ∧ Den K G y (keyN k) ∧ (∃ ks, k = .tup ks) ∧ k.depth ≤ 8 ∧ Q ((lkN m k).getD z) H3
theorem pe_nget2 {X : Cx} {o e f : Expr} {apos cpos : Pos} {td ty tx : TE} (hu : X.A.units + 10 < cLine) (ho : PE X o td) (he : PE X e ty) (hf : PE X f tx) (m : M2 X o "get" apos e f cpos) : PE X (.Call (.Attribute o "get" apos) [e, f] [] cpos) (tNGet2 X.prog X.w X.K td ty tx) := by
  refine ⟨fun pins s σ H Q I h => ?_⟩
  refine wpAny_Call_method m.base m.few m.line PySem.F.plainAttrs_dict PySem.F.slot_dict_get PySem.F.type_dict_get (thn (ho.run pins s σ H _ I h) fun u s1 ⟨x, H1, I1, rx, d, ex, ⟨G1, m1, g1⟩, q1⟩ => ?_)
  subst ex
  obtain rfl : u = Value.ref d := rx
  obtain ⟨xs1, dd1, _, o1, es1, ep1, ne1, hg1⟩ := nd_heap I1 g1
  refine ⟨dd1.typeIs, fun b q => by cases q; exact ⟨o1, hg1, ne1.ex.2.1⟩, ?_⟩
  rw [m.trees]
  refine Calls.callWith_builtin rfl (Calls.evalArgs_plain (Calls.spliced_cons (thn (he.run pins s1 σ H1 _ I1 q1) fun iv s2 ⟨y, H2, I2, ry, q2⟩ =>
    Calls.spliced_cons (thn (hf.run pins s2 σ H2 _ I2 q2) fun fv s3 ⟨z, H3, I3, rz, G3, m3, k, g3, dk, hk, hd, q3⟩ => Calls.spliced_nil ?_))))
  obtain ⟨q, rfl, rfl, hq⟩ := nd_key I3 (dk.up (ndo_sg g3)) hk hd ry
  obtain ⟨xs, dd, rel, _⟩ := nd_heap I3 g3
  refine call_meetsIn PySem.F.slot_dict_get dd.typeIs PySem.F.entry_dict_get (PySem.F.args_dict_get_3 _ _ _) (meetsH_dict_get_default (nestedKind X.prog X.w) d q g3.1 fv) ⟨by show X.A.units + 1 + 8 < cLine; omega, k, xs, hq, dd, ?_⟩
  rcases rel_at rel (fun _ _ a => a.1) k with ⟨h1, h2⟩ | ⟨p, q', r, _, h1, h2⟩
  · rw [h2]
    rw [h1] at q3
    exact ⟨z, H3, I3.tok _, rz, q3⟩
  · rw [h2]
    rw [h1] at q3
    exact ⟨p.2, H3, I3.tok _, r.2.2, q3⟩
/-- {} -/
def tNNew (P : Program) (w : World) (K : PySem.W.Frag) : TE := fun _ H Q => ∀ p o, H p = none → (∀ G, Same G H → NDo P w K G (upd H p (exO (p, o))) p []) → Q (.ref p) (upd H p (exO (p, o)))
theorem pe_nnew {X : Cx} {pos : Pos} : PE X (.Dict [] [] pos) (tNNew X.prog X.w X.K) := ⟨fun pins s σ H Q I h => by
  have hg : (s.heap.push { cls := .type "dict", data := .dict #[] }).get? s.heap.objs.size = some { cls := .type "dict", data := .dict #[] } := Heap.get?_push_size _ rfl
  have hn := I.hok.fresh (Nat.le_refl s.heap.objs.size)
  exact wpAny_Dict_empty ⟨.ref s.heap.objs.size, _, I.laid (a := s.heap.objs.size) (o := exO (s.heap.objs.size, { cls := .type "dict", data := .dict #[] })) (t' := s.toks) (fun _ _ q => Heap.get?_push_of_some _ q) (Nat.le_refl _) ⟨hg, ⟨_, hg⟩, fun h1 h2 q1 q2 => q2 _ q1⟩, rfl,
    h _ _ hn fun G sg => ⟨beq_eq_false_iff_ne.mpr (Ne.symm (Nat.ne_of_lt I.big)), Nat.zero_le _, _, #[], 0, [], ⟨upd_same, same_upd sg (sg.free hn), sg.free hn, ⟨rfl, rfl, rfl⟩, rfl, rfl, List.nodup_nil, .nil, fun p hp => by simp at hp⟩⟩⟩⟩
end Nm

set_option Elab.async false
set_option linter.all false
set_option maxRecDepth 100000
set_option maxHeartbeats 2000000
/-! {k: v} with such a key; for k, v in d.items(). -/
namespace Nm
open PySem PySem.Spec L2 PyProof.Rows

/-- {k: v}: the new dict stands empty while the pair is made -/
def tNOne (P : Program) (w : World) (K : PySem.W.Frag) (tk tv : TE) : TE := fun σ H Q => ∀ p o0, H p = none → (∀ G, Same G H → NDo P w K G (upd H p (exO (p, o0))) p []) → tk σ (upd H p (exO (p, o0))) fun x H1 => tv σ H1 fun v H2 => ∃ G k, NDo P w K G H2 p [] ∧ Den K G x (keyN k) ∧ (∃ ks, k = .tup ks) ∧ k.depth ≤ 8 ∧
  ∀ o, NDo P w K G (upd H2 p (exO (p, o))) p [(k, v)] → Q (.ref p) (upd H2 p (exO (p, o)))
theorem pe_none {X : Cx} {pos : Pos} {ke ve : Expr} {tk tv : TE} (hu : X.A.units + 10 < cLine) (hk : PE X ke tk) (hv : PE X ve tv) : PE X (.Dict [some ke] [ve] pos) (tNOne X.prog X.w X.K tk tv) := by
  refine ⟨fun pins s σ H Q I h => ?_⟩
  have hg : (s.heap.push { cls := .type "dict", data := .dict #[] }).get? s.heap.objs.size = some { cls := .type "dict", data := .dict #[] } := Heap.get?_push_size _ rfl
  have hn := I.hok.fresh (Nat.le_refl s.heap.objs.size)
  have I1 := I.laid (a := s.heap.objs.size) (o := exO (s.heap.objs.size, { cls := .type "dict", data := .dict #[] })) (h' := s.heap.push { cls := .type "dict", data := .dict #[] }) (t' := s.toks) (fun _ _ q => Heap.get?_push_of_some _ q) (Nat.le_refl _) ⟨hg, ⟨_, hg⟩, fun h1 h2 q1 q2 => q2 _ q1⟩
  have h1 := h s.heap.objs.size { cls := .type "dict", data := .dict #[] } hn fun G sg => ⟨beq_eq_false_iff_ne.mpr (Ne.symm (Nat.ne_of_lt I.big)), Nat.zero_le _, _, #[], 0, [], ⟨upd_same, same_upd sg (sg.free hn), sg.free hn, ⟨rfl, rfl, rfl⟩, rfl, rfl, List.nodup_nil, .nil, fun p hp => by simp at hp⟩⟩
  rw [arm_eval_Dict, zip_pairTrees [some ke] [ve] X.env pos rfl rfl, dictDisplay_pairs _ (by exact fun z => nomatch z) (by show 1 < 17; decide)]
  refine wpAny_bind (wpAny_standAt (wpAny_bind ?_))
  unfold subDict
  refine wpAny_bind (wpAny_alloc ?_)
  refine wpAny_bind (wpAny_holding ?_)
  rw [if_pos (by show 1 ≤ 15; decide)]
  refine wpAny_bind (pairTrees_cons_walk (thn (hk.run pins _ σ _ _ I1 h1) fun u s1 ⟨x, H1, I2, ru, q1⟩ => thn (hv.run pins s1 σ H1 _ I2 q1) fun r s2 ⟨v, H2, I3, rv, G, k, g, dk, hk', hd, q2⟩ => pairTrees_nil_walk ?_))
  obtain ⟨q, rfl, rfl, hq⟩ := nd_key I3 (dk.up (ndo_sg g)) hk' hd ru
  obtain ⟨xs, dd, rel, o1, es1, ep1, ne, hg1⟩ := nd_heap I3 g
  cases rel
  refine wpAny_holding ?_
  refine wpAny_bind ?_
  rw [List.forIn_cons]
  refine wpAny_bind (wpAny_bind (wpAny_dictSet_heap (hsz := by rw [sizeLine_eq]; decide) (knd := nestedKind X.prog X.w) (by show X.A.units + 8 < cLine; omega) hq dd fun h' dd' hs => wpAny_pure ?_))
  dsimp only
  rw [List.forIn_nil]
  obtain ⟨o, es, ep, hq', h2, h3, h4, _, h5⟩ := dd'
  refine wpAny_pure (wpAny_pure (wpAny_pure (wpAny_pure ⟨.ref s.heap.objs.size, _, d_write (ob := exO (s.heap.objs.size, o)) I3 (by rw [ne.at_]; exact True.intro) hs ⟨o, hq'⟩ ⟨hq', ⟨o, hq'⟩, fun h1 h2 q1 q2 => q2 _ q1⟩, rfl, q2 o ⟨g.1, by rw [sizeLine_eq]; show 1 ≤ _; decide, o, es, ep, _, ⟨upd_same, same_upd ne.sg ne.gd, ne.gd, h2, h3, h4, h5, .cons ⟨rfl, dk, rv⟩ .nil, fun p hp => ?_⟩⟩⟩)))
  rw [List.mem_singleton.mp hp]; exact hd

/-! ### items -/
/-- the entries of the dict at d, each in a new pair -/
def Itn (d : Addr) (o : Obj) (es : Array DictEntry) : It :=
  ⟨fun i H => H d = some (exO (d, o)) ∧ i < es.size, fun i H v H' => ∃ T kx vx e, v = .ref T ∧ H T = none ∧ H' = upd H T (.tup [kx, vx]) ∧ es[i]? = some e ∧ RelV kx e.key ∧ RelV vx e.val, fun i H => H d = some (exO (d, o)) ∧ es.size ≤ i⟩
def VVs (es : Array DictEntry) : Prop := ∀ (i : Nat) (e : DictEntry), es[i]? = some e → ∃ kx vx, RelV kx e.key ∧ RelV vx e.val
theorem turn_N {P : Program} {w : World} {K : PySem.W.Frag} {d : Addr} {o : Obj} {es : Array DictEntry} {ep : Nat} {elts : List Expr} {kk : Nat} {tpos : Pos} (it : Addr) (hx : o.ExactDict) (hod : o.data = .dict es ep) (hv : VVs es) :
    Turn P w K (.Tuple elts kk tpos) (Itn d o es) [it] it (fun i h => ∃ ok ov, IsItemIter h it d i es.size ep ok ov) where
  mem := by simp
  obj := fun i h st b hb => by
    have e : b = it := by simpa using hb
    subst e
    obtain ⟨ok, ov, e⟩ := st
    exact ⟨_, e, fun v z => nomatch z⟩
  keep := fun i h h' st k => let ⟨ok, ov, e⟩ := st; ⟨ok, ov, k it (by simp) _ e⟩
  item := by
    intro X hP hw hK hc i pins s σ H E I hf st hg
    subst hP hw hK
    obtain ⟨hd, hi⟩ := hg
    have raw : DT.Raw s.heap d es ep := ⟨o, (I.hok d _ hd).1, hx, hod⟩
    obtain ⟨ok, ov, he⟩ := st
    obtain ⟨kx, vx, rk, rv⟩ := hv i es[i] (Array.getElem?_eq_getElem hi)
    have hlt : it < s.heap.objs.size := Heap.lt_size he
    refine DT.nextI he raw hi fun h' ho hT hz hk => ?_
    refine ⟨_, rfl, wpAny_letOwnedTupleGo_items (s := { s with heap := h' }) ho fun h'' he' sb => ?_⟩
    have hT2 : h''.get? s.heap.objs.size = some { cls := .type "tuple", data := .seq #[es[i].key, es[i].val] } := (sb.2 _ (Nat.ne_of_gt hlt)).trans hT
    have new : ObjOk X.prog X.w (upd H s.heap.objs.size (.tup [kx, vx])) h'' s.heap.objs.size (.tup [kx, vx]) :=
      ⟨by show 2 ≤ sizeLine; decide, [es[i].key, es[i].val], .cons rk (.cons rv .nil), ⟨_, hT2, rfl, _, rfl⟩⟩
    have I1 : Inv X pins σ (upd H s.heap.objs.size (.tup [kx, vx])) { s with heap := h'' } :=
      I.turnedNew (t' := s.toks) (ch := [it]) (fun b ob hb e => (sb.2 b (by simpa using hb)).trans (hk b ob (by simpa using hb) e)) hf (Nat.le_refl _) new
    refine ⟨.ref s.heap.objs.size, _, I1, rfl, ⟨_, kx, vx, _, rfl, I.hok.fresh (Nat.le_refl _), rfl, Array.getElem?_eq_getElem hi, rk, rv⟩, ⟨es[i].key, es[i].val, he'⟩, fun b hb => ?_⟩
    have e : b = it := by simpa using hb
    rw [e, upd_ne (Nat.ne_of_lt hlt)]
    exact (hf it (by simp)).1
  done := by
    intro X hP hw hK hc i pins s σ H E I hf st hg
    subst hP hw hK
    obtain ⟨hd, hi⟩ := hg
    obtain ⟨f0, f1, f2, f3, f4, f5⟩ := hf it (by simp)
    have raw : DT.Raw s.heap d es ep := ⟨o, (I.hok d _ hd).1, hx, hod⟩
    obtain ⟨ok, ov, he⟩ := st
    exact DT.endI (I.ok.hd hc) he raw hi fun h' eb => ⟨rfl, I.turned (t' := s.toks) (fun b ob hb e => eb b ob hb e) f0 f1 f3 f4 f5⟩
  self := fun A i s Q E st h => let ⟨_, _, e⟩ := st; PySem.W.kcp_self e h
def iItemsN (P : Program) (w : World) (K : PySem.W.Frag) (td : TE) : TI := fun σ H R => td σ H fun x H1 => ∃ G d m, x = .ref d ∧ NDo P w K G H1 d m ∧ ∀ o es ep xs, NDe P w K G H1 d m o es ep xs → R (Itn d o es) H1
theorem nde_vv {P : Program} {w : World} {K : PySem.W.Frag} {G H : Hp} {d : Addr} {m : List (NestedKey × V)} {o : Obj} {es : Array DictEntry} {ep : Nat} {xs : List (NestedKey × Addr × Value)} (e : NDe P w K G H d m o es ep xs) :
    es.size = m.length ∧ ∀ (i : Nat) p, m[i]? = some p → ∃ en q, es[i]? = some en ∧ en.key = .ref q ∧ Den K G (.ref q) (keyN p.1) ∧ RelV p.2 en.val := by
  have hl : es.toList.length = xs.length := by rw [e.ent, List.length_map]
  refine ⟨by have := Paired.length e.rel; simp at hl; omega, fun i p hp => ?_⟩
  obtain ⟨q, hq, r1, r2, r3⟩ : ∃ q, xs[i]? = some q ∧ NDr K G p q := by
    have : ∀ {m : List (NestedKey × V)} {xs : List (NestedKey × Addr × Value)} {i : Nat}, Paired (NDr K G) m xs → m[i]? = some p → ∃ q, xs[i]? = some q ∧ NDr K G p q := by
      intro m xs i r
      induction r generalizing i with
      | nil => intro h; simp at h
      | cons a t ih =>
        intro h
        cases i with
        | zero => simp at h; subst h; exact ⟨_, rfl, a⟩
        | succ i =>
          obtain ⟨q, h1, h2⟩ := ih (i := i) (by simpa using h)
          exact ⟨q, by simpa using h1, h2⟩
    exact this e.rel hp
  have h1 : es[i]? = some (entryOfKey (nestedKind P w) q) := by
    rw [← Array.getElem?_toList, e.ent, List.getElem?_map, hq]; rfl
  exact ⟨_, q.2.1, h1, rfl, r2, r3⟩
theorem pi_itemsN {X : Cx} {e : Expr} {td : TE} {apos cpos : Pos} {elts : List Expr} {kk : Nat} {tpos : Pos} (he : PE X e td) (hbase : attributeBase e "items" X.env (eval e X.env) = eval e X.env := by rfl) (hline : (apos.endLine == cpos.line) = true := by rfl) :
    PI X (.Tuple elts kk tpos) (.Call (.Attribute e "items" apos) [] [] cpos) (iItemsN X.prog X.w X.K td) := by
  refine ⟨fun pins s σ H R I h => ?_⟩
  refine wpAny_Call_method (T := "dict") (id := "dict.items") hbase rfl hline PySem.F.plainAttrs_dict PySem.F.slot_dict_items PySem.F.type_dict_items (thn (he.run pins s σ H _ I h) fun u s1 ⟨x, H1, I1, rx, G, d, m, ex, g, q⟩ => ?_)
  subst ex
  obtain rfl : u = Value.ref d := rx
  obtain ⟨xs, dd, rel, o, es, ep, ne, hg⟩ := nd_heap I1 g
  have raw : DT.Raw s1.heap d es ep := ⟨o, hg, ne.ex, ne.dat⟩
  refine ⟨raw.typeIs, fun b z => by cases z; exact ⟨o, hg, ne.ex.2.1⟩, ?_⟩
  have vv : VVs es := fun i en hen => by
    obtain ⟨hsz, hall⟩ := nde_vv ne
    have hi : i < m.length := by have := (Array.getElem?_eq_some_iff.mp hen).1; omega
    obtain ⟨en', q, h1, h2, _, h4⟩ := hall i m[i] (List.getElem?_eq_getElem hi)
    rw [hen] at h1
    cases h1
    exact ⟨.ref q, _, h2, h4⟩
  have I2 : Inv X pins σ H1 { s1 with heap := s1.heap.push { cls := .type "dict_items", data := .fields #[.ref d] } } := I1.kept (t' := s1.toks) fun b ob q => Heap.get?_push_of_some _ q
  have fin : wpAny (model X.prog X.w) X.A (pyIter (.ref s1.heap.objs.size)) (PIE X pins σ (.Tuple elts kk tpos) R) X.xe { s1 with heap := s1.heap.push { cls := .type "dict_items", data := .fields #[.ref d] } } := by
    refine DT.iterI (d := d) ⟨_, Heap.get?_push_size _ rfl, rfl, rfl⟩ (raw.push _) (pi_one (tk := s1.toks) I2 _ (turn_N _ ne.ex ne.dat vv) ⟨.none, .none, ?_⟩ (q o es ep xs ne))
    exact Heap.get?_push_size _ rfl
  show wpAny _ _ (callWith cpos (.builtin "dict.items") [.ref d] [] []) _ X.xe s1
  exact method_meetsIn PySem.F.slot_dict_items PySem.F.entry_dict_items rfl (PySem.evalArgs_none ⟨rfl, raw.typeIs, PySem.F.args_dict_items_1 _, _, DT.meetsItems g.1, ⟨raw, fin⟩⟩)
end Nm

set_option Elab.async false
set_option linter.all false
set_option maxRecDepth 100000
set_option maxHeartbeats 1000000
/-! *text in a display; o[i] by values (own lists) for o[i] += n. -/
namespace Nm
open PySem PySem.Spec L2 PyProof.Rows PySem.W
section
variable {X : Cx}
/-- *e, e a text: its signs -/
def tStarT (te : TE) (t : TA) : TA := fun σ H Q => te σ H fun x H1 => ∃ z : Str, x = .str z ∧ z.length ≤ sizeLine ∧ t σ H1 fun ys H2 => Q ((sgns z).map V.str ++ ys) H2
theorem pa_starT {e : Expr} {es : List Expr} {te : TE} {t : TA} {p : Pos} (hcalm : X.calm = true) (he : PE X e te) (hr : PA X es t) (hs : starEach (.Starred e p :: es) X.env = (true, eval e X.env) :: starEach es X.env := by rfl) : PA X (.Starred e p :: es) (tStarT te t) := by
  refine ⟨fun pos pins s σ H Q I h => ?_⟩
  refine PySem.W.items_star (thn (he.run pins s σ H _ I h) fun v s1 hv => ?_) hs
  obtain ⟨y, H1, I1, ry, z, ey, hz, q⟩ := hv
  subst ey
  obtain ⟨tk, rfl⟩ := ry
  unfold PySem.W.StarOf notIterableAtAll
  refine wpAny_bind (wpAny_specialOf (T := "str") (v := .str z tk) rfl PySem.F.slot_str_iter.lookup (wpAny_pure ⟨rfl, ?_⟩))
  refine wpAny_collect_str (I1.ok.hd hcalm) z tk (fun s' acc k g _ o it => ?_) hz
  have hv := vals_of_strs (items_strs it)
  have I2 : Inv X pins σ H1 s' := I1.call' (ch := []) o (Un.kept k) (I1.hok.kept k) (by rw [g]; exact I1.bare) (fun _ z => nomatch z)
  refine thn (hr.run pos pins s' σ H1 _ I2 q) fun ws s3 hw => ?_
  obtain ⟨vs', H3, I3, r3, q3⟩ := hw
  exact ⟨_, H3, I3, hv.append r3, q3⟩
theorem get_list : PGet X (rIxL X.K) := by
  intro pins s σ H x y v u Q I rx ry h
  obtain ⟨p, xs, i, z, rfl, rfl, hq, he, q⟩ := h
  cases rx
  obtain ⟨t, rfl⟩ := ry
  obtain ⟨its, r, pl, hz⟩ := I.list hq
  obtain ⟨j, h1, h2, h3, h4, h5⟩ := atI_get he
  obtain ⟨w, ew, rw'⟩ := r.get h2
  have hl := r.length
  have hn := line63
  have fin : EP X pins σ Q w s := ⟨z, H, I, rw', q⟩
  by_cases h0 : 0 ≤ i
  · have hj : i.toNat = j := by
      rw [seqIndex_of h0 h5] at h1
      exact Option.some.inj h1
    exact wpAny_getItem_list pl.isList h0 (by omega) (by rw [hj]; simpa using ew) fin
  · have hj : (i + (its.toArray.size : Int)).toNat = j := by
      rw [seqIndex_neg (by omega) h4] at h1
      rw [List.size_toArray, ← hl]
      exact Option.some.inj h1
    exact wpAny_getItem_list_neg (Q := EP X pins σ Q) pl.isList (by omega) (by rw [List.size_toArray] <;> omega) (by omega) (by rw [hj]; simpa using ew) fin
/-- a list != [] -/
def rNeNil (K : PySem.W.Frag) : R2 := fun x y H Q => ∃ a b xs, x = .ref a ∧ y = .ref b ∧ SqL K H a xs ∧ SqL K H b [] ∧ Q (.bl (!xs.isEmpty)) H
theorem op_neNil (hu : X.A.units < cLine) : OpR X (compareOp .NotEq) (rNeNil X.K) := by
  intro pins s σ H x y v u Q I rx ry h
  obtain ⟨a, b, xs, rfl, rfl, ha, hb, q⟩ := h
  obtain rfl : v = Value.ref a := rx
  obtain rfl : u = Value.ref b := ry
  obtain ⟨its, r1, p1, _⟩ := I.list ha
  obtain ⟨its', r2, p2, _⟩ := I.list hb
  have e2 : its' = [] := by cases r2; rfl
  subst e2
  cases r1 with
  | nil => exact (SeqAt.RcNeAt.lists (e := fun _ => true) p1.isList p2.isList rfl hu (fun j h1 h2 => absurd h1 (by simp))) _ _ _ _ (fin_bl I q rfl)
  | cons h t => exact (SeqAt.RcNeAt.lists_lengths p1.isList p2.isList (by simp) hu) _ _ _ _ (fin_bl I q rfl)
end
end Nm

set_option Elab.async false
set_option linter.all false
set_option maxRecDepth 100000
set_option maxHeartbeats 1000000
/-! try with several clauses that name what they catch -/
namespace Nm
open PySem PySem.Spec L2 PyProof.Rows
structure Cl where
  c : Value
  i : Nat
  ts : Addr → Value → Option Addr → TS
def offE (D : Ends) (i : Nat) : Ends := { nx := fun τ G => D.nx (τ.set i none) G, rt := D.rt, bk := fun τ G => D.bk (τ.set i none) G, ct := fun τ G => D.ct (τ.set i none) G }
def wCls (K : PySem.W.Frag) (D : Ends) : List Cl → WX
  | [] => fun _ _ _ _ => False
  | k :: r => fun cl dd τ G => ∃ b, PySem.W.exmOne K cl k.c = some b ∧ (b = true → ∀ ad, G ad = none → k.ts ad cl dd (offE D k.i) (τ.set k.i (some (.ref ad))) G) ∧ (b = false → wCls K D r cl dd τ G)
inductive ClsOk (X : Cx) : List ExceptHandler → List Cl → Prop
  | rest {hs : List ExceptHandler} : ClsOk X hs []
  | cons {x n : Str} {q q' : Pos} {st : Stmt} {sts : List Stmt} {hs : List ExceptHandler} {k : Cl} {l : List Cl} (hi : X.N[k.i]? = some n) (hl : X.env.kindOf n = some .local) (hc : Names X x k.c)
      (hu : ∀ (ad : Addr) (ob : Obj) (cl : Value) (dd : Option Addr) (pn : List (Addr × Obj)), Zc cl dd ob → (∃ fs, ob.data = .fields fs) → PSs (X.suite ad ((ad, ob) :: pn)) (st :: sts) (k.ts ad cl dd)) (r : ClsOk X hs l) :
      ClsOk X (.ExceptHandler (some (.Name x q)) (some n) (st :: sts) q' :: hs) (k :: l)
def tTryL (K : PySem.W.Frag) (tb : WX → TS) (l : List Cl) : TS := fun D σ H => tb (wCls K D l) D σ H
section
variable {X : Cx} {body : List Stmt} {h1 : ExceptHandler} {hs : List ExceptHandler} {l : List Cl} {pos : Pos} {tb : WX → TS}
theorem ps_try_cl (es : X.stack = X.env :: X.outer) (ef : X.env.frame = some X.env.locals) (nd : X.N.Nodup)
    (kb : ∀ (W : WX) (pn : List (Addr × Obj)) (xe : Value → Shared → Prop), Takes (X.tr pn xe) W → PassesOwn (model X.prog X.w) X.A X.env xe → PSs (X.tr pn xe) body (tb W)) (kh : ClsOk X (h1 :: hs) l) :
    PS X (.Try body (h1 :: hs) [] [] pos) (tTryL X.K tb l) := by
  refine ⟨fun pins s σ H D I h => ?_⟩
  have hok := I.ok
  have frs1 : X.A.frames = some (X.env :: X.outer) := hok.frames.trans (congrArg some es)
  let XE1 : Value → Shared → Prop := fun u t₁ => wpAny (model X.prog X.w) X.A (noteFrame u X.env) (fun _ t₂ => wpAny (model X.prog X.w) X.A (setFlight u none) (fun _ t₃ => wpAny (model X.prog X.w) X.A (handleBy u X.env (h1 :: hs)) (SP X pins D) X.xe t₃) X.xe t₂) X.xe t₁
  have caught : Takes (X.tr (X.pn ++ pins) XE1) (wCls X.K D l) := by
    intro u t xx
    obtain ⟨ad, Bd, sI, pins', τ, G, cl, dd, rfl, Jt, nb, up, sky, na, os, ag, w⟩ := xx
    have J : Inv X pins τ G sI := Jt.ofTry hok
    have sky1 : Sky Bd (X.env :: X.outer) ad (Zc cl dd) X.env.locals t.heap := es ▸ sky
    show wpAny (model X.prog X.w) X.A (noteFrame (.ref ad) X.env) _ _ _
    refine Sky.land Zc.steady frs1 ef sky1 fun g3 fl up3 => ?_
    have J3 : Inv X pins τ G { t with heap := g3 } := J.landed nb fl.1 (up.trans up3) os ag
    obtain ⟨ob, fs, hob, hz, hd⟩ := fl.there
    have far : ad ∉ frs (X.env :: X.outer) := fun hm => by
      obtain ⟨_, o', e', hnf⟩ := fl.2.2.1.mem hm
      rw [hob] at e'
      cases e'
      exact hnf _ hd
    have nL : ad ≠ X.env.locals := fun z => far (List.mem_filterMap.mpr ⟨X.env, List.mem_cons_self, z ▸ ef⟩)
    have nF : ad ∉ X.fs := fun hm => by
      obtain ⟨e, he, q⟩ := List.mem_filterMap.mp hm
      exact far (List.mem_filterMap.mpr ⟨e, List.mem_cons_of_mem _ he, q⟩)
    have S3 := J3.suite hob hd na nL nF
    have each : ∀ {hds : List ExceptHandler} {ls : List Cl}, ClsOk X hds ls → wCls X.K D ls cl dd τ G → wpAny (model X.prog X.w) X.A (handleBy (.ref ad) X.env hds) (SP X pins D) X.xe { t with heap := g3 } := by
      intro hds ls hk
      induction hk with
      | rest => exact fun z => z.elim
      | @cons x n q q' st sts hs2 k l2 hi hl hc hu r ih =>
        rintro ⟨b, hb, yes, no⟩
        refine wpAny_handleBy_cons (codeAny_handlers_test ?_) (fun z => nomatch z)
        have ty : PySem.W.Looks (model X.prog X.w) g3 (typeOf (.ref ad)) cl := fun _ _ _ _ kk z => wpAny_typeOf_ref (kk _ _ hob) (hz.1.symm ▸ z)
        have mt := PySem.W.exm_one (M := model X.prog X.w) (J3.kIn) ty hb
        have named : ∀ {Q : Value → Shared → Prop} {E : Value → Shared → Prop}, Q k.c { t with heap := g3 } → wpAny (model X.prog X.w) (X.A.mark (some (.ref ad))) (eval (.Name x q) X.env) Q E { t with heap := g3 } := fun {Q E} z => by
          obtain ⟨hg, hdb, hm | ⟨hm, hv, hn⟩⟩ := hc
          · exact ld_glob (X := X.suite ad ((ad, ob) :: (X.pn ++ pins))) S3 hg hm z hdb
          · exact ld_blt (X := X.suite ad ((ad, ob) :: (X.pn ++ pins))) S3 hg hm hv z hn hdb
        refine named (mt.here ?_)
        cases b with
        | false => exact ih (no rfl)
        | true =>
          refine codeAny_handlers_suite_as ?_
          refine HandSPX.lands_againZ fl fun g4 fl4 up4 => ?_
          have J4 : Inv X pins τ G { t with heap := g4 } := J.landed nb fl4.1 ((up.trans up3).trans up4) os ag
          obtain ⟨ob4, fs4, hob4, hz4, hd4⟩ := fl4.there
          have S4 := J4.suite hob4 hd4 na nL nF
          refine store_ok (X := X.suite ad ((ad, ob4) :: (X.pn ++ pins))) (v := .ref ad) S4 nd hi (.inl hl) rfl (fun t5 S5 => ?_) (.inr hl)
          refine wpAny_mono ((hu ad ob4 cl dd (X.pn ++ pins) hz4 ⟨_, hd4⟩).run [] t5 _ G _ S5 (yes rfl ad na)) (fun f t6 hsp => ?_) (fun _ _ z => z.elim)
          have wipes : ∀ {τ6 : L2.St} {G6 : Hp} {Q : Shared → Prop}, Inv (X.suite ad ((ad, ob4) :: (X.pn ++ pins))) [] τ6 G6 t6 → (∀ t7, Inv X pins (τ6.set k.i none) G6 t7 → Q t7) →
              wpAny (model X.prog X.w) X.A (do bindName X.env n .none; unbindBehindTheSuite X.env n q') (fun _ t7 => Q t7) X.xe t6 := fun {τ6 G6 Q} S6 z => gone_ok (S6.unsuite hok) nd hi hl z
          cases f with
          | next => obtain ⟨τ6, G6, S6, z⟩ := hsp; exact wipes S6 fun t7 J7 => ⟨_, _, J7, z⟩
          | brk => obtain ⟨τ6, G6, S6, z⟩ := hsp; exact wipes S6 fun t7 J7 => ⟨_, _, J7, z⟩
          | cont => obtain ⟨τ6, G6, S6, z⟩ := hsp; exact wipes S6 fun t7 J7 => ⟨_, _, J7, z⟩
          | ret u => obtain ⟨v6, τ6, G6, S6, r6, z⟩ := hsp; exact wipes S6 fun t7 J7 => ⟨_, _, _, J7, r6, z⟩
    exact each kh w
  refine wpAny_Try_except (wpAny_mono ((kb (wCls X.K D l) (X.pn ++ pins) XE1 caught PassesOwn.looking).run [] s σ H D (I.toTry _) h) (fun f t1 hsp => ?_) (fun u t1 z => z))
  cases f with
  | next => obtain ⟨τ, G, J, z⟩ := hsp; exact wpAny_execs_nil ⟨τ, G, J.ofTry hok, z⟩
  | brk => obtain ⟨τ, G, J, z⟩ := hsp; exact ⟨τ, G, J.ofTry hok, z⟩
  | cont => obtain ⟨τ, G, J, z⟩ := hsp; exact ⟨τ, G, J.ofTry hok, z⟩
  | ret u => obtain ⟨v, τ, G, J, r, z⟩ := hsp; exact ⟨v, τ, G, J.ofTry hok, r, z⟩
end
end Nm

set_option Elab.async false
set_option linter.all false
set_option maxRecDepth 100000
set_option maxHeartbeats 1000000
namespace Nm
open PySem PySem.Spec L2 PyProof.Rows
section
variable {X : Cx} {CX : CXT} {k : Nat} {C p g : Addr} {mc : Value} {sp : Sp} {E : L2.St → XK}
/-- a class method whose error is caught -/
def tCMethS (C : Addr) (sp : Sp) (E : L2.St → XK) (ta : TE) (t : TA) : TE := fun σ H Q => ClX.tCMeth C sp (E σ) ta t σ H Q
theorem pe_cmethS {fd : FuncData} {ps : List Str} {m : Str} {o e : Expr} {es : List Expr} {ta : TE} {t : TA} {ap pos : Pos} {pl : Sem Bool} (he : PE X o ta) (r : ClX.CRead X.K C mc) (c : ClX.CMet X.K C mc m p g) (G : FnOk X.prog X.w X.K X.mg X.base CX k g fd ps sp) (hb : Binds X.K fd ps []) (hr : Room k X.A) (hx : ∀ σ, PassesAt CX X σ (E σ)) (ha : PA X (e :: es) t)
    (hst : starEach (e :: es) X.env = (false, eval e X.env) :: starEach es X.env := by rfl) (hpl : (backTo pos (starEach es X.env)).any (·.1) = false := by rfl)
    (ht : eval (.Call (.Attribute o m ap) (e :: es) [] pos) X.env = (do
      let w ← eval o X.env
      standAt ap.atName
      let (f, fst) ← holding [w] (getMethod w m pl)
      callWith pos f fst (backTo pos (starEach (e :: es) X.env)) (backToKw pos (keywordEach [] X.env))) := by rfl) : PE X (.Call (.Attribute o m ap) (e :: es) [] pos) (tCMethS C sp E ta t) := by
  have R : FnR X.prog X.w X.K X.mg X.base CX k g sp := (G.raw hb .nil).imp fun vs H Q E h => by rw [List.append_nil]; exact h
  refine ⟨fun pins s σ H Q I h => ?_⟩
  refine PySem.W.methodCall_KW (pl := pl) (thn (he.run pins s σ H _ I h) fun u s1 hh => ?_) ht
  obtain ⟨x, H1, I1, rx, ex, q⟩ := hh
  subst ex
  obtain rfl : u = Value.ref C := rx
  refine ClX.getmethcm_ok I1 r c fun s2 I2 => ?_
  refine ClX.callwith_cm I2 (ClX.base_none I1 (Nat.le_refl _)) c.fi (thn (ha.run pos _ s2 σ H1 _ I2 q) fun us s3 hh => ?_) hst hpl
  obtain ⟨vs, H2, I3, rv, q2⟩ := hh
  refine ⟨⟨ClX.pin_at I3, I3.kIn⟩, ?_⟩
  exact thn (wpAny_call (PySem.W.method_call (ClX.pin_at I3) (run_fnRS (us := .ref C :: us) (vs := .ref C :: vs) R hr (hx σ) I3 (.cons rfl rv) q2))) fun _ _ y => ClX.unpinE y
end
end Nm

set_option Elab.async false
set_option linter.all false
set_option maxRecDepth 100000
set_option maxHeartbeats 1000000
/-! generator defs of the text; keyword-only arguments that are written. -/
namespace Nm
open PySem PySem.Spec L2 PyProof.Rows PySem.W
theorem hu10 {k : Nat} {A : Around} (hr : Room k A) : A.units + 10 < cLine := by have := hu4 hr; omega
theorem cells_ge : ∀ (names : List (Str × NameKind)) (n : Nat) (acc : List (Str × Addr)), (∀ p ∈ acc, n ≤ p.2 + names.length ∨ True) → ∀ p ∈ cellsFrom n names acc, p ∈ acc ∨ n ≤ p.2
  | [], n, acc, _, p, hp => .inl (by simpa [cellsFrom] using hp)
  | (x, k) :: names, n, acc, h, p, hp => by
    unfold cellsFrom at hp
    split at hp
    · rcases cells_ge names (n + 1) _ (fun _ _ => .inr trivial) p hp with q | q
      · rcases List.mem_cons.mp q with rfl | q
        · exact .inr (Nat.le_refl _)
        · exact .inl q
      · exact .inr (by omega)
    · exact cells_ge names n acc (fun _ _ => .inr trivial) p hp
theorem gok_gX {P : Program} {w : World} {K : PySem.W.Frag} {mg : Str → Option Value} {base : Heap} {N : List Str} {qual : Str} {scope : Scope} {f : Addr} {cd : Value} {A : Around} {outer : List Env} {s : Shared} {H : Hp} {pn : List (Addr × Obj)} :
    GOk (gX P w K mg base N qual scope f cd A outer s H pn) := by
  refine ⟨fun x c h => ?_, rfl, fun _ _ z => z⟩
  have h' : (cellsFrom (s.heap.objs.size + 1) scope.names []).lookup x = some c := h
  rcases cells_ge scope.names (s.heap.objs.size + 1) [] (fun _ _ => .inr trivial) (x, c) (PySem.mem_of_lookup h') with q | q
  · cases q
  · exact Nat.le_of_succ_le q
theorem Fun.gen {P : Program} {w : World} {K : PySem.W.Frag} {mg : Str → Option Value} {base : Heap} {x qual : Str} {st : Stmt} {f : Addr} {fd : FuncData} {N ps : List Str} {k : Nat} {sp : SpY} (F : Fun K x qual st f fd) (S : GScope N ps (defScope st))
    (hbody : ∀ (cdv : Value) (A : Around) (outer : List Env) (s : Shared) (H : Hp) (pn : List (Addr × Obj)) (T : Type), Room k (A.deeper (envOfC qual (defScope st) s.heap.objs.size f cdv)) →
      ∃ t : TGp T, GSs (gX P w K mg base N qual (defScope st) f cdv A outer s H pn) T (defBody st) t ∧ ∀ vs H2 n τ YP DN, sp T vs H2 n τ YP DN → t { nx := fun _ τ' _ H' => DN τ' H', rt := fun _ τ' v H' => v = .non ∧ DN τ' H', yp := YP } n τ (start N vs) H2) :
    GFy P w K mg base (k + 1) f fd ps sp := by
  obtain ⟨oc, od, kV, doc, pm, an, cdv, ct, osl, rfl, lk, hcd⟩ := F.ex
  exact gen_of lk hcd S fun A outer s H pn T hr => hbody cdv A outer s H pn T hr
/-- f(e, .., k = v, ..): all keyword-only parameters are written -/
theorem kbn_all {K : PySem.W.Frag} {fd : FuncData} {ps ks : List Str} {n : Nat} (h : ∀ (us ws : List Value), us.length = n → ws.length = ks.length → bindArgs fd ⟨us, ks.zip ws⟩ = pure (ps.zip (us ++ ws))) : KBn K fd ps n ks (fun us ws => us ++ ws) (fun vs zs => vs ++ zs) :=
  ⟨fun s us ws _ l1 l2 => .of_eq (h us ws l1 l2), fun r1 r2 => r1.append r2⟩
/-- f(e, .., k = v, ..) whose error is caught -/
def tCallNS (n m : Nat) (sp : Sp) (gV : List V → List V → List V) (E : L2.St → XK) (t tk : TA) : TE := fun σ H Q => tCallN n m sp gV (E σ) t tk σ H Q
theorem pe_callNS {X : Cx} {CX : CXT} {k n : Nat} {f : Addr} {fd : FuncData} {ps ks : List Str} {sp : Sp} {E : L2.St → XK} {x : Str} {p pos : Pos} {e : Expr} {es : List Expr} {kws : List Keyword} {t tk : TA} {g : List Value → List Value → List Value} {gV : List V → List V → List V}
    (F : FnOk X.prog X.w X.K X.mg X.base CX k f fd ps sp) (hr : Room k X.A) (hg : Gl X x) (hm : X.mg x = some (.ref f)) (hk : PySem.W.keepIn X.K (.ref f) = true) (hb : KBn X.K fd ps n ks g gV) (hx : ∀ σ, PassesAt CX X σ (E σ))
    (ha : PA X (e :: es) t) (hkw : PK X kws tk) (hall : (backToKw pos (keywordEach kws X.env)).all (·.1.isSome) = true := by rfl) (hks : (backToKw pos (keywordEach kws X.env)).filterMap (·.1) = ks := by rfl)
    (hdb : (x == ("__debug__" : Str)) = false := by decide) (he : starEach (e :: es) X.env = (false, eval e X.env) :: starEach es X.env := by rfl)
    (hpl : ((backTo pos (starEach (e :: es) X.env)).any (·.1) || (backToKw pos (keywordEach kws X.env)).any (·.1.isNone)) = false := by rfl) :
    PE X (.Call (.Name x p) (e :: es) kws pos) (tCallNS n ks.length sp gV E t tk) := by
  refine ⟨fun pins s σ H Q I h => ?_⟩
  refine wpAny_Call_Name_kw (ld_glob I hg hm ?_ hdb)
  refine PySem.W.callWith_KW (h₀ := X.base) I.ok.mod.kin hk hall (thn (ha.run pos pins s σ H _ I h) fun us s1 hh => ?_) hpl he
  obtain ⟨vs, H1, I1, r, q⟩ := hh
  refine thn (hkw.run pos pins s1 σ H1 _ I1 q) fun ws s2 hh => ?_
  obtain ⟨zs, H2, I2, rz, l1, l2, q2⟩ := hh
  refine ⟨I2.kIn, ?_⟩
  rw [hks]
  have r2 := hb.rel r rz
  refine wpAny_call (codeAny_mono (F.run X.A X.stack s2 H2 ⟨us, ks.zip ws⟩ (g us ws) (gV vs zs) Q (E σ) hr I2.env0 (hb.to s2 us ws I2.kIn (r.length.symm.trans l1) (rz.length.symm.trans l2)) r2 q2) fun r s' hq => ?_)
  cases r with
  | error e => exact hx σ pins H2 s2 e s' I2 hq
  | ok fl =>
    cases fl with
    | ret u => exact I2.after hq
    | next => exact False.elim hq
    | brk => exact False.elim hq
    | cont => exact False.elim hq
/-- a def of which nothing is promised -/
theorem fn_none {P : Program} {w : World} {K : PySem.W.Frag} {mg : Str → Option Value} {base : Heap} {CX : CXT} {k : Nat} {f : Addr} {fd : FuncData} {ps : List Str} : FnOk P w K mg base CX k f fd ps (fun _ _ _ _ => False) := ⟨fun _ _ _ _ h => h.elim, fun _ _ _ _ _ _ _ _ _ _ _ _ _ h => h.elim⟩
end Nm

set_option Elab.async false
set_option linter.all false
set_option maxRecDepth 100000
set_option maxHeartbeats 2000000
namespace Nm
open PySem PySem.Spec L2 PyProof.Rows GenW

section
variable {X : Cx}
/-- name = [.. for .. in gen(..)] on one line, the name a local -/
theorem ps_setLcYE {i : Nat} {y : Str} {py : Pos} {elt tg iter : Expr} {scope : Scope} {own : List (Str × Nat)} {pos spos : Pos} {k : Nat} {tge : TGe} {g : TG} {te : TE} (hr : Room (k + 1) X.A) (hN : X.N.Nodup) (hy : X.N[i]? = some y) (hyl : X.env.scope.names.lookup y = some .local)
    (hsw : swapsWith (.ListComp elt [⟨tg, iter, [], 0⟩] scope pos) (some (.Name y py)) spos.line X.env = pure true) (hi : PGnE X k iter tge) (ok : BlkOk X.N X.env.scope scope own) (hnc : ∀ (n : Nat) (cs : List (Str × Addr)), cellsFrom n scope.names (cloFrom cs scope.names []) = [])
    (hg : ∀ (s : Shared) (H : Hp) (C : Addr) (cl : List (Str × Addr)) (fp : List Addr), PG (X.blk s H scope (compEnvC scope cl C X.env) fp) tg g)
    (he : ∀ (s : Shared) (H : Hp) (C : Addr) (cl : List (Str × Addr)) (fp : List Addr), PE (X.blk s H scope (compEnvC scope cl C X.env) fp) elt te) (hs : ∀ x, foldedSetIterable iter X.env x = pure x := by intro _; rfl) :
    PS X (.Assign [.Name y py] (.ListComp elt [⟨tg, iter, [], 0⟩] scope pos) spos) (tAsg (tLcY tge g te (own.map (·.2))) (gName i)) := by
  refine ⟨fun pins s σ H D I h => ?_⟩
  rw [exec_Assign_Name_used _ _ _ _ hsw]
  refine wpAny_bind (wpAny_standAt (wpAny_bind ?_))
  show wpAny _ X.A (do let _ ← comprehension (.ListComp elt [⟨tg, iter, [], 0⟩] scope pos) scope X.env (firstIterPos [⟨tg, iter, [], 0⟩] pos) (newList []) false (eval iter X.env) (some (assign (.Name y py) X.env))) _ _ s
  have h : tLcY tge g te (own.map (·.2)) σ H (fun x H1 => gName i x σ H1 D.nx) := h
  refine wpAny_bind (thn (lcYE (Qf := fun _ s' => SP X pins D .next s') hr hN I hi ok hnc hg he hs h fun L C s' m H' I' q hn f => ?_) fun _ s' hq => wpAny_pure (wpAny_pure hq))
  show wpAny _ _ (assign (.Name y py) X.env (.ref L)) _ _ _
  refine wpAny_assign_Name (store_ok2 (v := V.ref L) I' hN hy (.inl hyl) rfl (fun s2 I2 ⟨a, sb, ha⟩ => ?_) (.inr hyl))
  obtain ⟨f0, f1, f2, f3, f4, f5⟩ := f
  have haC : C ≠ a := by
    rcases ha with z | z
    · rw [z]; exact f1
    · exact fun e => f4 y a z e.symm
  refine ⟨m, hn.sameBut sb haC, fun h3 sb3 => ?_⟩
  exact ⟨_, H', I2.turned (t' := s2.toks) (fun b o hb e => (sb3.2 b hb).trans e) f0 f1 f3 f4 f5, q⟩
end
/-! ### the def -/
theorem gssE_never {X : Cx} {T : Type} {sts : List Stmt} : GSsE X T sts (fun _ _ _ _ _ => False) := ⟨fun _ _ _ _ _ _ _ _ _ _ _ _ _ _ _ _ _ _ _ _ _ _ _ ht => ht.elim⟩
theorem Fun.genE {P : Program} {w : World} {K : PySem.W.Frag} {mg : Str → Option Value} {base : Heap} {x qual : Str} {st : Stmt} {f : Addr} {fd : FuncData} {N ps : List Str} {k : Nat} {sp : SpY} (F : Fun K x qual st f fd) (S : GScope N ps (defScope st))
    (hbody : ∀ (cdv : Value) (A : Around) (outer : List Env) (s : Shared) (H : Hp) (pn : List (Addr × Obj)) (T : Type), Room k (A.deeper (envOfC qual (defScope st) s.heap.objs.size f cdv)) →
      ∃ t : TGp T, GSsE (gX P w K mg base N qual (defScope st) f cdv A outer s H pn) T (defBody st) t ∧ ∀ vs H2 n τ YP DN, sp T vs H2 n τ YP DN → t { nx := fun _ τ' _ H' => DN τ' H', rt := fun _ τ' v H' => v = .non ∧ DN τ' H', yp := YP } n τ (start N vs) H2) :
    GFyE P w K mg base (k + 1) f fd ps sp := by
  obtain ⟨oc, od, kV, doc, pm, an, cdv, ct, osl, rfl, lk, hcd⟩ := F.ex
  exact gen_ofE lk hcd S fun A outer s H pn T hr => hbody cdv A outer s H pn T hr
end Nm

set_option Elab.async false
set_option linter.all false
set_option maxRecDepth 100000
set_option maxHeartbeats 2000000
/-! sorted(texts, key=f) where f gives (length, text): a def of the program, or a lambda -/
namespace Nm
open PySem PySem.Spec L2 PyProof.Rows
def keyD (w : List Nat) : D := .tup [.int (w.length : Nat), txt w]
def keyPy (w : List Nat) : PyData := .tuple [.int (w.length : Nat), .str ⟨w.toArray⟩]
/-- what a call of the key's function gives and keeps -/
def KeyTurn (X : Cx) (pins : List (Addr × Obj)) (σ : L2.St) (H0 : Hp) (s0 : Shared) (f : Value) (w : List Nat) : Prop := ∀ (s' : Shared) (F' H' : Hp) (u : Value), L2.Inv X pins σ H' s' → Same F' H' → Un (frs X.stack) [] H0 H' s0.heap s'.heap → Same H0 H' → RelV (tv w) u →
  wpAny (model X.prog X.w) X.A.in1.in1 (call f [u]) (fun r s'' => ∃ v F'' H'', s''.os = s'.os ∧ AllBare s''.gens ∧ Un (frs X.stack) [] H' H'' s'.heap s''.heap ∧ HOk X.prog X.w H'' s''.heap ∧ RelV v r ∧ Ext [] F' H' F'' H'' ∧ Den X.K F'' v (keyD w)) (fun _ _ => False) s'
/-- the state amid the sort -/
structure Mid (X : Cx) (F H : Hp) (s : Shared) (kS a : Addr) (e1 : Nat) (ws : List (List Nat)) (i : Nat) (s' : Shared) : Prop where
  ex : ∃ F' H' kA e vs, s'.os = s.os ∧ AllBare s'.gens ∧ Un (frs X.stack) [] H H' s.heap s'.heap ∧ HOk X.prog X.w H' s'.heap ∧ Ext [] F H F' H' ∧ s'.heap.get? kS = some (seqObj "list" kA e) ∧ s'.heap.get? a = some (seqObj "list" #[] e1) ∧ H' kS = none ∧ H' a = none ∧
    DenL X.K F' vs ((ws.take i).map keyD) ∧ Vals vs kA.toList
section
variable {X : Cx} {pins : List (Addr × Obj)} {σ : L2.St} {F H H' : Hp} {s s' : Shared} {kS a : Addr} {e e1 : Nat} {ws : List (List Nat)} {f : Value} {us : List Value}
theorem pair_get {α β : Type} {R : α → β → Prop} : ∀ {xs : List α} {ys : List β} {i : Nat} {x : α} {y : β}, Paired R xs ys → xs[i]? = some x → ys[i]? = some y → R x y
  | _, _, _, _, _, .nil, h, _ => by simp at h
  | _, _, 0, _, _, .cons r _, h, g => by simp at h g; subst h g; exact r
  | _, _, i + 1, _, _, .cons _ t, h, g => pair_get (i := i) t (by simpa using h) (by simpa using g)
theorem off_frs (I : L2.Inv X pins σ H s) {b : Addr} (h : s.heap.objs.size ≤ b) : b ∉ frs X.stack := fun hm => by
  rcases List.mem_cons.mp (I.stkSub b hm) with z | z
  · have := I.lt
    rw [← z] at this
    exact absurd (Nat.lt_of_lt_of_le this h) (Nat.lt_irrefl _)
  · exact I.nofs h z
theorem un_upd (u : Un (frs X.stack) [] H H' s.heap s'.heap) {g : Obj → Obj} {b : Addr} (hb : s.heap.objs.size ≤ b) : Un (frs X.stack) [] H H' s.heap (s'.heap.update b g) := by
  have st : ∀ c o, s.heap.get? c = some o → (s'.heap.update b g).get? c = s'.heap.get? c := fun c o z => Heap.get?_update_other _ _ (Nat.ne_of_gt (Nat.lt_of_lt_of_le (Heap.lt_size z) hb))
  exact { keep := fun c o z n hf hx => by rw [st c o z]; exact u.keep c o z n hf hx
          slot := fun c o z n hf hx => by rw [st c o z]; exact u.slot c o z n hf hx
          free := u.free
          there := fun c o z hx => by rw [st c o z]; exact u.there c o z hx
          tups := u.tups, frzs := u.frzs, tbls := u.tbls }
theorem hok_upd {P : Program} {w : World} {h : Heap} (k : HOk P w H h) {g : Obj → Obj} {b : Addr} (hb : H b = none) : HOk P w H (h.update b g) := fun c o z =>
  (k c o z).stay (fun d v hd zz => by
    have ne : d ≠ b := by
      rintro rfl
      rcases hd with hd | hd
      · rw [← hd, hb] at z; cases z
      · rw [hb] at hd; cases hd
    rw [Heap.get?_update_other _ _ (Ne.symm ne)]; exact zz) (fun _ q => q) fun _ _ q => q
theorem vals_each {h : Heap} (I : L2.Inv X pins σ H s) (S : Same F H) : ∀ {ws : List (List Nat)} {vs : List V} {us : List Value}, DenL X.K F vs (ws.map keyD) → Vals vs us → PySem.W.EachIs (fun v k => ∃ as, Reads s.heap v k as) us (ws.map keyPy)
  | [], _, _, l, r => by cases l; cases r; exact .nil
  | w :: ws, _, _, l, r => by
    cases l with
    | cons d t =>
      cases r with
      | cons r1 r2 =>
        refine .cons ?_ (vals_each (h := h) I S t r2)
        cases d with
        | tup q l2 =>
          cases (show _ = Value.ref _ from r1)
          obtain ⟨its, rv, ⟨o, h1, h2, n, h3⟩, _⟩ := I.tuple (same_t S q)
          cases l2 with
          | cons a1 t1 => cases t1 with
            | cons a2 t2 =>
              cases t2
              cases a1
              cases a2
              cases rv with
              | cons b1 u1 => cases u1 with
                | cons b2 u2 =>
                  cases u2
                  obtain ⟨t1, rfl⟩ := b1
                  obtain ⟨t2, rfl⟩ := b2
                  exact ⟨_, Reads.tuple h1 h2 h3 (.cons (.int _ _) (.cons (.str _ _) .nil))⟩
theorem sort_fold (I : L2.Inv X pins σ H s) (hus : Vals (ws.map tv) us) (turn : ∀ w ∈ ws, KeyTurn X pins σ H s f w) (hk : s.heap.objs.size ≤ kS) (ha : s.heap.objs.size ≤ a) (hka : kS ≠ a) (hz : ws.length ≤ sizeLine) (m : Mid X F H s kS a e1 ws 0 s')
    {P : PySem.Fin → Shared → Prop} {E : Value → Shared → Prop} (done : ∀ s3, Mid X F H s kS a e1 ws ws.length s3 → wpAny (model X.prog X.w) X.A.in1.in1 (do let keys ← Builtin.List.listItems (.ref kS); ksk_end a false us.toArray e1 (.ref kS) keys) P E s3) :
    wpAny (model X.prog X.w) X.A.in1.in1 (ksk_rest a f false us.toArray e1 (.ref kS)) P E s' := by
  have lus : us.length = ws.length := by rw [← Paired.length hus, List.length_map]
  unfold ksk_rest
  refine wpAny_bind (wpAny_rule ?_)
  rw [List.forIn_toArray]
  refine wpAny_bind (ksk_fold (fun i s2 => Mid X F H s kS a e1 ws i s2) us 0 s' m ?_ ?_)
  · rintro j x s2 hx ⟨F2, H2, kA, en, vs, os, bare, un, hok, ext, gk, ga, nk, na, dl, vl⟩
    rw [Nat.zero_add] at dl ⊢
    have hj : j < ws.length := by rw [← lus]; exact (List.getElem?_eq_some_iff.mp hx).1
    have hw : ws[j]? = some ws[j] := List.getElem?_eq_getElem hj
    obtain ⟨y, hy, ry⟩ : ∃ y, (ws.map tv)[j]? = some y ∧ RelV y x := by
      have hj2 : j < (ws.map tv).length := by rw [List.length_map]; exact hj
      exact ⟨_, List.getElem?_eq_getElem hj2, pair_get hus (List.getElem?_eq_getElem hj2) hx⟩
    rw [List.getElem?_map, hw] at hy
    cases hy
    have I2 : L2.Inv X pins σ H2 s2 := I.call' (ch := []) os un hok bare fun b z => absurd z (by simp)
    refine wpAny_bind (wpAny_attempt (wpAny_mono (turn _ (List.getElem_mem hj) s2 F2 H2 x I2 ext.s un ext.same ry) (fun r s3 h3 => ?_) fun _ _ z => z.elim))
    obtain ⟨v, F3, H3, os3, bare3, un3, hok3, rv, ext3, dv⟩ := h3
    have gk3 : s3.heap.get? kS = some (seqObj "list" kA en) := un3.keep kS _ gk nk (off_frs I hk) (by simp)
    have ga3 : s3.heap.get? a = some (seqObj "list" #[] e1) := un3.keep a _ ga na (off_frs I ha) (by simp)
    have nk3 : H3 kS = none := un3.free kS _ gk nk (by simp)
    have na3 : H3 a = none := un3.free a _ ga na (by simp)
    have kl : kA.size = j := by
      have h1 := Paired.length vl
      have h2 := dl.length
      rw [List.length_map, List.length_take] at h2
      have h3 : kA.toList.length = kA.size := Array.length_toList
      rw [Nat.min_eq_left (by omega)] at h2
      omega
    dsimp only
    refine wpAny_bind (listUpdate_at gk3 rfl ?_ (by omega) (by rw [Array.size_push]; omega))
    refine wpAny_pure ⟨rfl, ⟨F3, H3, kA.push r, _, vs ++ [v], os3.trans os, bare3, un_upd (un.trans un3) hk, hok_upd hok3 nk3, ext.tr ext3, get?_update_seq gk3 (·.push r), (Heap.get?_update_other _ _ hka).trans ga3, nk3, na3, ?_, ?_⟩⟩
    · rw [List.take_add_one, hw, List.map_append]
      exact (dl.up ext3.f).append (.cons dv .nil)
    · rw [Array.toList_push]
      exact vl.append (.cons rv .nil)
  · intro s3 m3
    rw [Nat.zero_add, lus] at m3
    exact done s3 m3
def sortW (ws : List (List Nat)) : List (List Nat) := ws.mergeSort (PySem.W.dataLe false keyPy)
theorem each_vals : ∀ {ws : List (List Nat)} {out : List Value}, PySem.W.EachIs (fun v w => RelV (tv w) v) out ws → Vals (ws.map tv) out
  | _, _, .nil => .nil
  | _, _, .cons r t => .cons r (each_vals t)
theorem vals_eachR : ∀ {ws : List (List Nat)} {out : List Value}, Vals (ws.map tv) out → PySem.W.EachIs (fun v w => RelV (tv w) v) out ws
  | [], _, .nil => .nil
  | _ :: _, _, .cons r t => .cons r (vals_eachR t)
theorem keys_alike (ws : List (List Nat)) : PySem.W.AllAlike (ws.map keyPy) := PySem.W.AllAlike.of fun _ _ => by simp [PySem.W.alike, PySem.W.alikeAll, keyPy]
theorem keys_sort (ws : List (List Nat)) : PySem.W.Sortable (ws.map keyPy) := PySem.W.Sortable.tuples fun _ => ⟨_, _, rfl⟩
theorem sort_run {l fa : Addr} (I : L2.Inv X pins σ H s) (S : Same F H) (hs : SqL X.K H l (ws.map tv)) (turn : ∀ w ∈ ws, KeyTurn X pins σ H s (.ref fa) w) (hu : X.A.units + 64 < cLine) {Q : VK}
    (q : ∀ p F' H', H p = none → Ext [] F H F' H' → H' p = none → Q (.ref p) (upd H' p (.lst ((sortW ws).map tv)))) : wpAny (model X.prog X.w) X.A (call (.builtin "sorted") [.ref l] [(Str.ofString "key", .ref fa)]) (EP X pins σ Q) X.xe s := by
  obtain ⟨its, rv, hl, hz⟩ := I.list hs
  have lits : its.length = ws.length := by rw [← Paired.length rv, List.length_map]
  have hz : ws.length ≤ sizeLine := by rw [List.length_map] at hz; exact hz
  refine PySem.W.sorted_of_sort hl.isList (by rw [lits]; exact hz) (ksk_s1 _ _) (fun _ => ksk_l1 _ _) fun E' => ?_
  rw [ksk_t1]
  generalize ea : s.heap.objs.size + 1 = a
  have ho : (PySem.W.copyHeap s.heap its).get? a = some (seqObj "list" its.toArray 0) := by rw [← ea]; exact PySem.W.copyHeap_at _ _
  have csz : (PySem.W.copyHeap s.heap its).objs.size = s.heap.objs.size + 2 := by unfold PySem.W.copyHeap; rw [size_push', Heap.size_update, size_push']
  generalize hc : PySem.W.copyHeap s.heap its = hC at ho csz ⊢
  have old : ∀ b o, s.heap.get? b = some o → hC.get? b = some o := fun b o z => by rw [← hc]; exact PySem.W.copyHeap_old z
  obtain ⟨e1, ho1⟩ : ∃ e1, (hC.update a (Obj.mapSeq fun _ => (#[] : Array Value))).get? a = some (seqObj "list" #[] e1) := ⟨_, get?_update_seq ho fun _ => #[]⟩
  have ksz : ((hC.update a (Obj.mapSeq fun _ => (#[] : Array Value))).push (seqObj "tuple" its.toArray 0)).objs.size = s.heap.objs.size + 3 := by rw [size_push', Heap.size_update, csz]
  unfold ksk_tree
  refine wpAny_bind (listItems_at ho rfl (wpAny_bind (listUpdate_at ho rfl ?_ (by rw [List.size_toArray, lits]; exact hz) (Nat.zero_le _))))
  refine wpAny_bind (seqEpoch_at ho1 rfl (wpAny_bind (wpAny_newTuple ?_ (by show its.length ≤ _; rw [lits]; exact hz))))
  refine wpAny_bind (wpAny_newList (wpAny_holding ?_) (Nat.zero_le _))
  have aS : s.heap.objs.size ≤ a := by rw [← ea]; exact Nat.le_succ _
  have old2 : ∀ b o, s.heap.get? b = some o → (((hC.update a (Obj.mapSeq fun _ => (#[] : Array Value))).push (seqObj "tuple" its.toArray 0)).push (seqObj "list" #[] 0)).get? b = some o := fun b o z => by
    refine Heap.get?_push_of_some _ (Heap.get?_push_of_some _ ?_)
    rw [Heap.get?_update_other _ _ (Nat.ne_of_gt (Nat.lt_of_lt_of_le (Heap.lt_size z) aS))]
    exact old b o z
  have fr : ∀ {b : Addr}, s.heap.objs.size ≤ b → H b = none := fun h => I.hok.fresh h
  have kSz : s.heap.objs.size ≤ ((hC.update a (Obj.mapSeq fun _ => (#[] : Array Value))).push (seqObj "tuple" its.toArray 0)).objs.size := by rw [ksz]; omega
  refine sort_fold (s := s) (s' := { s with heap := ((hC.update a (Obj.mapSeq fun _ => (#[] : Array Value))).push (seqObj "tuple" its.toArray 0)).push (seqObj "list" #[] 0) }) (F := F) (H := H) (e1 := e1) (kS := ((hC.update a (Obj.mapSeq fun _ => (#[] : Array Value))).push (seqObj "tuple" its.toArray 0)).objs.size) I rv turn kSz aS (by rw [ksz, ← ea]; exact Nat.ne_of_gt (Nat.lt_succ_of_lt (Nat.lt_succ_self _))) hz ⟨F, H, #[], 0, [], rfl, I.bare, Un.kept old2, I.hok.kept old2, Ext.refl S, Heap.get?_push_size _ rfl, Heap.get?_push_of_some _ (Heap.get?_push_of_some _ ho1), fr kSz, fr aS, .nil, .nil⟩ fun s3 m3 => ?_
  rw [ksz] at m3 ⊢
  obtain ⟨F3, H3, kA, en, vs, os, bare, un, hok, ext, gk, ga, nk, na, dl, vl⟩ := m3
  rw [List.take_length] at dl
  have I3 : L2.Inv X pins σ H3 s3 := I.call' (ch := []) os un hok bare fun b z => absurd z (by simp)
  refine wpAny_bind (listItems_at gk rfl ?_)
  have hk' := vals_each (h := s3.heap) I3 ext.s dl vl
  have ksl : kA.size = its.length := by
    have h1 := Paired.length vl
    have h2 := dl.length
    have h3 : kA.toList.length = kA.size := Array.length_toList
    rw [List.length_map] at h2
    omega
  have hka : s.heap.objs.size + 3 ≠ a := by omega
  obtain ⟨G, g1, g2⟩ := restrict s3.heap fun b => decide (b ≠ s.heap.objs.size + 3)
  have gkeep : ∀ b, b ≠ s.heap.objs.size + 3 → G.get? b = s3.heap.get? b := fun b hb => g1 b (decide_eq_true hb)
  refine PySem.W.keyH_end (κ := PySem.W.dataKind s3.heap (ws.map keyPy)) (h₁ := G) (s := s3) (fun b o hb z => ?_) (g2 _ (by simp)) gk ga hka (PySem.W.SortsAt.data (s := s3) hk' (keys_alike ws) (keys_sort ws) fun d hd => ?_) ksl (by rw [lits]; exact hz) fun h4 tk4 c keep4 got4 => ⟨rfl, ?_⟩
  · by_cases hb2 : b = s.heap.objs.size + 3
    · rw [hb2, g2 _ (by simp)] at z; cases z
    · rw [← gkeep b hb2]; exact z
  · obtain ⟨w, hw, rfl⟩ := List.mem_map.mp hd
    have : (keyPy w).depth = 1 := by simp [keyPy, PyData.depth, PyData.depthAll]
    rw [this]
    show X.A.units + 1 + 1 + 1 < cLine
    omega
  have rs := each_vals (PySem.W.keyedOut_each (rev := false) (R := fun v w => RelV (tv w) v) keyPy ⟨s3.heap, kA.toList, keys_alike ws, rfl, hk'⟩ (vals_eachR rv))
  have k4 : ∀ b o, b ≠ a → b ≠ s.heap.objs.size + 3 → s3.heap.get? b = some o → h4.get? b = some o := fun b o h1 h2 z => keep4 b o h1 ((gkeep b h2).trans z)
  have low : ∀ b o, s.heap.get? b = some o → b ≠ a ∧ b ≠ s.heap.objs.size + 3 := fun b o z => by
    have := Heap.lt_size z
    exact ⟨Nat.ne_of_lt (Nat.lt_of_lt_of_le this aS), Nat.ne_of_lt (Nat.lt_of_lt_of_le this (Nat.le_add_right _ _))⟩
  have un4 : Un (frs X.stack) [] H H3 s.heap h4 := {
    keep := fun b o z n hf hx => k4 b o (low b o z).1 (low b o z).2 (un.keep b o z n hf hx)
    slot := fun b o z n hf hx => by
      obtain ⟨sl, y⟩ := un.slot b o z n hf hx
      exact ⟨sl, k4 b _ (low b o z).1 (low b o z).2 y⟩
    free := un.free
    there := fun b o z hx => by
      obtain ⟨o', y⟩ := un.there b o z hx
      exact ⟨o', k4 b _ (low b o z).1 (low b o z).2 y⟩
    tups := un.tups, frzs := un.frzs, tbls := un.tbls }
  have hok4 : HOk X.prog X.w H3 h4 := fun b o z => (hok b o z).stay (fun d v hd zz => by
      have nn : ∀ y : Addr, H3 y = none → d ≠ y := fun y hy => by
        rintro rfl
        rcases hd with hd | hd
        · rw [← hd, hy] at z; cases z
        · rw [hy] at hd; cases hd
      exact k4 d v (nn a na) (nn _ nk) zz) (fun _ y => y) fun _ _ y => y
  have lo : ((sortW ws).map tv).length ≤ sizeLine := by unfold sortW; rw [List.length_map, List.length_mergeSort]; exact hz
  have fin := I.drained (s' := { s3 with heap := h4, toks := tk4 }) (S := a) (ex := []) aS lo got4 rs .nil os bare un4 hok4 na
  exact ⟨.ref a, _, fin, rfl, q a F3 H3 (fr aS) ext na⟩
end
end Nm

set_option Elab.async false
set_option linter.all false
set_option maxRecDepth 100000
set_option maxHeartbeats 2000000
/-! sorted(texts, key=a def of the program that gives (length, text)) -/
namespace Nm
open PySem PySem.Spec L2 PyProof.Rows
/-- a def that gives (length, text), whatever stands in the heap -/
def SpKey (K : PySem.W.Frag) (sp : Sp) (w : List Nat) : Prop := ∀ F' H', Same F' H' → ∀ Q' : VK, (∀ v F'' H'', Ext [] F' H' F'' H'' → Den K F'' v (keyD w) → Q' v H'') → sp [tv w] H' Q' E0
def rSortG (K : PySem.W.Frag) (sp : Sp) (fa : Addr) : List V → List V → Hp → VK → Prop := fun vs zs H Q => ∃ F l ws, vs = [V.ref l] ∧ zs = [V.ref fa] ∧ Same F H ∧ SqL K H l (ws.map tv) ∧ (∀ w ∈ ws, SpKey K sp w) ∧
  ∀ p F' H', H p = none → Ext [] F H F' H' → H' p = none → Q (.ref p) (upd H' p (.lst ((sortW ws).map tv)))
section
variable {X : Cx} {pins : List (Addr × Obj)} {σ : L2.St} {k : Nat} {g : Addr} {fd : FuncData} {x : Str} {sp : Sp}
theorem turn_fn {H0 : Hp} {s0 : Shared} (G : FnOk X.prog X.w X.K X.mg X.base CX0 k g fd [x] sp) (hb : Binds X.K fd [x] []) (hr : Room (k + 2) X.A) {w : List Nat} (hs : SpKey X.K sp w) : KeyTurn X pins σ H0 s0 (.ref g) w := fun s' F' H' u I S _ _ ru => by
  have hr2 : Room k X.A.in1.in1 := (show Room (k + 1) X.A.in1 from Room.in1 hr).in1
  refine wpAny_call (codeAny_mono (G.run X.A.in1.in1 X.stack s' H' ⟨[u], []⟩ [u] [tv w] (fun v H'' => ∃ F'', Ext [] F' H' F'' H'' ∧ Den X.K F'' v (keyD w)) E0 hr2 I.env0.in1.in1 (hb s' [u] I.kIn rfl) (.cons ru .nil) (hs F' H' S _ fun v F'' H'' x d => ⟨F'', x, d⟩)) fun res s'' hq => ?_)
  match res, hq with
  | .error e, hq => exact hq.elim
  | .ok (.ret r), ⟨v, H'', os, bare, un, hok, rv, F'', x, d⟩ => exact ⟨v, F'', H'', os, bare, un, hok, rv, x, d⟩
  | .ok .next, hq => exact hq.elim
  | .ok .brk, hq => exact hq.elim
  | .ok .cont, hq => exact hq.elim
theorem c_sortedG (G : FnOk X.prog X.w X.K X.mg X.base CX0 k g fd [x] sp) (hb : Binds X.K fd [x] []) (hr : Room (k + 2) X.A) : CallRK X (.builtin "sorted") [Str.ofString "key"] (rSortG X.K sp g) := by
  rintro pins s σ H xs zs us ws Q I rx rz ⟨F, l, ls, rfl, rfl, S, hs, ht, q⟩
  obtain ⟨u, rfl, ru⟩ := vals1 rx
  cases (show u = Value.ref l from ru)
  obtain ⟨z, rfl, rz'⟩ := vals1 rz
  cases (show z = Value.ref g from rz')
  exact sort_run I S hs (fun w hw => turn_fn G hb hr (ht w hw)) hr.units q
end
section
variable {K : PySem.W.Frag} {F H : Hp} {σ : L2.St} {te : TE} {sp : Sp} {g : Addr}
theorem dtxt_map {ws : List (List Nat)} {vs : List V} (h : DenL K F vs (ws.map txt)) : vs = ws.map tv := by
  induction ws generalizing vs with
  | nil => cases h; rfl
  | cons w ws ih =>
    cases h with
    | cons a b =>
      cases a
      rw [ih b]
      rfl
theorem den_map (ws : List (List Nat)) : DenL K F (ws.map tv) (ws.map txt) := by
  induction ws with
  | nil => exact .nil
  | cons w ws ih => exact .cons (.str _) ih
theorem el_sortG {ws : List (List Nat)} (h : EvD K te σ F (.lst (ws.map txt))) (ht : ∀ w ∈ ws, SpKey K sp w) : EvL K (tCKw (rSortG K sp g) (tCons te tNil) (tCons (tC (.ref g)) tNil)) σ F ((sortW ws).map txt) := fun H S Q q =>
  h H S _ fun v F1 H1 x1 d1 => by
    cases d1 with
    | lst e l =>
      rw [dtxt_map l] at e
      refine ⟨F1, _, ws, rfl, rfl, x1.s, SqL.of (x1.s _ _ e), ht, fun p F2 H2 n x2 n2 => ?_⟩
      exact q p _ F2 _ (x1.back n) ((x1.tr x2).tr (Ext.newM x2.s n2)) ⟨x2.s.free n2, upd_same⟩ (den_map _)
/-- of a list that is one's own -/
theorem sortW_perm (ws : List (List Nat)) : (sortW ws).Perm ws := List.mergeSort_perm ws _
end
end Nm

set_option Elab.async false
set_option linter.all false
set_option maxRecDepth 100000
set_option maxHeartbeats 2000000
/-! d.setdefault(k, []).append(x): a dict of lists, each one's own -/
namespace Nm
open PySem PySem.Spec L2
/-- one more value into its group -/
def addK : List (Str × List D) → Str → D → List (Str × List D)
  | [], k, d => [(k, [d])]
  | g :: r, k, d => if g.1 = k then (g.1, g.2 ++ [d]) :: r else g :: addK r k d
abbrev Row := Str × Addr × List V
def kvR (rows : List Row) : List (Key × V) := rows.map fun r => ((Sum.inr r.1 : Key), V.ref r.2.1)
structure RowOk (K : PySem.W.Frag) (H0 F H : Hp) (p : Addr) (r : Row) (g : Str × List D) : Prop where
  k : r.1 = g.1
  o : Own F H r.2.1 (.lst r.2.2)
  l : DenL K F r.2.2 g.2
  n : H0 r.2.1 = none
  p : r.2.1 ≠ p
structure GrpAt (K : PySem.W.Frag) (H0 F H : Hp) (p : Addr) (rows : List Row) (gs : List (Str × List D)) : Prop where
  o : Own F H p (.dK (kvR rows))
  n : H0 p = none
  r : Paired (RowOk K H0 F H p) rows gs
  d : (rows.map (·.2.1)).Nodup
section
variable {K : PySem.W.Frag} {H0 F0 F H F' H' : Hp} {σ : L2.St} {r : List Sl} {DE : Ends} {p : Addr} {rows : List Row} {gs : List (Str × List D)} {k : Str} {d : D}
theorem RowOk.ext {x : Row} {g : Str × List D} (w : RowOk K H0 F H p x g) (e : Ext [] F H F' H') : RowOk K H0 F' H' p x g := ⟨w.k, w.o.ext0 e, w.l.up e.f, w.n, w.p⟩
theorem GrpAt.ext (w : GrpAt K H0 F H p rows gs) (e : Ext [] F H F' H') : GrpAt K H0 F' H' p rows gs := ⟨w.o.ext0 e, w.n, Paired.mapP w.r fun _ _ q => RowOk.ext q e, w.d⟩
theorem RowOk.upd {x : Row} {g : Str × List D} {q : Addr} {o : HO} (w : RowOk K H0 F H p x g) (e : x.2.1 ≠ q) : RowOk K H0 F (upd H q o) p x g := ⟨w.k, ⟨w.o.f, by rw [upd_ne e]; exact w.o.h⟩, w.l, w.n, w.p⟩
theorem kv_find : ∀ {rows : List Row} {v : V}, valV (kvR rows) (Sum.inr k : Key) = some v → ∃ pre x post, rows = pre ++ x :: post ∧ x.1 = k ∧ v = .ref x.2.1 ∧ ∀ y ∈ pre, y.1 ≠ k
  | [], v, h => by simp [kvR, valV] at h
  | x :: rows, v, h => by
    by_cases e : x.1 = k
    · have : valV (kvR (x :: rows)) (Sum.inr k : Key) = some (.ref x.2.1) := valV_pos (by simp [e])
      rw [this] at h
      cases h
      exact ⟨[], x, rows, rfl, e, rfl, by simp⟩
    · have : valV (kvR (x :: rows)) (Sum.inr k : Key) = valV (kvR rows) (Sum.inr k : Key) := valV_neg (by simpa using e)
      rw [this] at h
      obtain ⟨pre, y, post, rfl, h2, h3, h4⟩ := kv_find h
      exact ⟨x :: pre, y, post, rfl, h2, h3, fun z hz => by
        rcases List.mem_cons.mp hz with rfl | hz
        · exact e
        · exact h4 z hz⟩
theorem kv_no : ∀ {rows : List Row}, valV (kvR rows) (Sum.inr k : Key) = none → ∀ y ∈ rows, y.1 ≠ k
  | [], _ => by simp
  | x :: rows, h => by
    by_cases e : x.1 = k
    · have : valV (kvR (x :: rows)) (Sum.inr k : Key) = some (.ref x.2.1) := valV_pos (by simp [e])
      rw [this] at h
      cases h
    · have : valV (kvR (x :: rows)) (Sum.inr k : Key) = valV (kvR rows) (Sum.inr k : Key) := valV_neg (by simpa using e)
      rw [this] at h
      intro y hy
      rcases List.mem_cons.mp hy with rfl | hy
      · exact e
      · exact kv_no h y hy
theorem pair_app {α β : Type} {R : α → β → Prop} : ∀ {xs : List α} {x : α} {ys : List α} {zs : List β}, Paired R (xs ++ x :: ys) zs → ∃ as b bs, zs = as ++ b :: bs ∧ Paired R xs as ∧ R x b ∧ Paired R ys bs
  | [], x, ys, _, .cons h t => ⟨[], _, _, rfl, .nil, h, t⟩
  | y :: xs, x, ys, _, .cons h t => by
    obtain ⟨as, b, bs, rfl, h1, h2, h3⟩ := pair_app t
    exact ⟨_ :: as, b, bs, rfl, .cons h h1, h2, h3⟩
theorem pair_join {α β : Type} {R : α → β → Prop} : ∀ {xs : List α} {ys : List α} {as bs : List β}, Paired R xs as → Paired R ys bs → Paired R (xs ++ ys) (as ++ bs)
  | _, _, _, _, .nil, s => s
  | _, _, _, _, .cons h t, s => .cons h (pair_join t s)
theorem addK_found {k : Str} {d : D} : ∀ {as bs : List (Str × List D)} {g : Str × List D}, (∀ y ∈ as, y.1 ≠ k) → g.1 = k → addK (as ++ g :: bs) k d = as ++ (g.1, g.2 ++ [d]) :: bs
  | [], bs, g, _, e => by simp [addK, e]
  | a :: as, bs, g, h, e => by
    have h1 : a.1 ≠ k := h a (by simp)
    have ih := addK_found (as := as) (bs := bs) (g := g) (k := k) (d := d) (fun y hy => h y (List.mem_cons_of_mem _ hy)) e
    simp [addK, h1, ih]
theorem addK_new {k : Str} {d : D} : ∀ {as : List (Str × List D)}, (∀ y ∈ as, y.1 ≠ k) → addK as k d = as ++ [(k, [d])]
  | [], _ => rfl
  | a :: as, h => by
    have h1 : a.1 ≠ k := h a (by simp)
    have ih := addK_new (as := as) (k := k) (d := d) (fun y hy => h y (List.mem_cons_of_mem _ hy))
    simp [addK, h1, ih]
theorem pair_keys {as : List (Str × List D)} (P : Paired (RowOk K H0 F H p) rows as) (h : ∀ y ∈ rows, y.1 ≠ k) : ∀ y ∈ as, y.1 ≠ k := by
  induction P with
  | nil => simp
  | cons a _ ih =>
    intro y hy
    rcases List.mem_cons.mp hy with rfl | hy
    · rw [← a.k]; exact h _ (by simp)
    · exact ih (fun y hy => h y (by simp [hy])) y hy
theorem pair_upd {q : Addr} {o : HO} (P : Paired (RowOk K H0 F H p) rows gs) (h : ∀ y ∈ rows, y.2.1 ≠ q) : Paired (RowOk K H0 F (upd H q o) p) rows gs := by
  induction P with
  | nil => exact .nil
  | cons a _ ih => exact .cons (a.upd (h _ (by simp))) (ih fun y hy => h y (by simp [hy]))
theorem pair_row {x : Row} (P : Paired (RowOk K H0 F H p) rows gs) (h : x ∈ rows) : ∃ g ∈ gs, RowOk K H0 F H p x g := by
  induction P with
  | nil => simp at h
  | cons a _ ih =>
    rcases List.mem_cons.mp h with rfl | h
    · exact ⟨_, by simp, a⟩
    · obtain ⟨g, h1, h2⟩ := ih h
      exact ⟨g, by simp [h1], h2⟩
/-- the group that exists grows -/
theorem GrpAt.grow {pre post : List Row} {x : Row} {v : V} (w : GrpAt K H0 F H p (pre ++ x :: post) gs) (hx : x.1 = k) (hp : ∀ y ∈ pre, y.1 ≠ k) (dv : Den K F v d) : GrpAt K H0 F (upd H x.2.1 (.lst (x.2.2 ++ [v]))) p (pre ++ (x.1, x.2.1, x.2.2 ++ [v]) :: post) (addK gs k d) := by
  obtain ⟨as, g, bs, rfl, h1, h2, h3⟩ := pair_app w.r
  have nd := w.d
  rw [List.map_append, List.map_cons, List.nodup_append, List.nodup_cons] at nd
  obtain ⟨_, ⟨n2, _⟩, n3⟩ := nd
  have e1 : ∀ y ∈ pre, y.2.1 ≠ x.2.1 := fun y hy => n3 _ (List.mem_map.mpr ⟨y, hy, rfl⟩) _ (by simp)
  have e2 : ∀ y ∈ post, y.2.1 ≠ x.2.1 := fun y hy z => n2 (z ▸ List.mem_map.mpr ⟨y, hy, rfl⟩)
  rw [addK_found (pair_keys h1 hp) (h2.k.symm.trans hx)]
  refine ⟨⟨w.o.f, ?_⟩, w.n, pair_join (pair_upd h1 e1) (.cons ⟨h2.k, ⟨h2.o.f, upd_same⟩, h2.l.append (.cons dv .nil), h2.n, h2.p⟩ (pair_upd h3 e2)), ?_⟩
  · rw [upd_ne (Ne.symm h2.p), w.o.h]
    simp [kvR]
  · have := w.d
    simpa using this
/-- a new group -/
theorem grp_add {q : Addr} {v : V} (wo : Own F H p (.dK (kvR rows ++ [((Sum.inr k : Key), V.ref q)]))) (wn : H0 p = none) (wr : Paired (RowOk K H0 F H p) rows gs) (wd : (rows.map (·.2.1)).Nodup) (hk : ∀ y ∈ rows, y.1 ≠ k) (dv : Den K F v d) (h0 : H0 q = none)
    (hq : ∀ y ∈ rows, y.2.1 ≠ q) (hp : q ≠ p) (oq : Own F H q (.lst [])) : GrpAt K H0 F (upd H q (.lst [v])) p (rows ++ [(k, q, [v])]) (addK gs k d) := by
  rw [addK_new (pair_keys wr hk)]
  refine ⟨⟨wo.f, ?_⟩, wn, pair_join (pair_upd wr hq) (.cons ⟨rfl, ⟨oq.f, upd_same⟩, .cons dv .nil, h0, hp⟩ .nil), ?_⟩
  · rw [upd_ne (Ne.symm hp), wo.h]
    simp [kvR]
  · rw [List.map_append, List.nodup_append]
    refine ⟨wd, by simp, fun a ha b hb => ?_⟩
    obtain ⟨y, hy, rfl⟩ := List.mem_map.mp ha
    simp at hb
    subst hb
    exact hq y hy
/-- d.setdefault(k, []).append(x) -/
theorem s_setd {M : List Addr} {i : Nat} {ty tn : TE} (S : Same F H) (E : EnvD K F r σ) (hi : r[i]? = some (.v (.ref p))) (x0 : Ext M F0 H0 F H) (w : GrpAt K H0 F H p rows gs) (hy : EvD K ty σ F (.str k)) (hn : EvD K tn σ F d)
    (hz : gs.length < 100000) (hz2 : ∀ g ∈ gs, g.2.length < 100000)
    (kk : ∀ rows' F' H', Ext M F0 H0 F' H' → Same F F' → GrpAt K H0 F' H' p rows' (addK gs k d) → (∀ c o, H c = some o → c ≠ p → (∀ y ∈ rows, y.2.1 ≠ c) → H' c = some o) → DE.nx σ H') : tDrop (tBM K "list" rAppend (tDSetd (tVar i) ty (tLst tNil)) (tCons tn tNil)) DE σ H := by
  have sz : (100000 : Nat) ≤ sizeLine := by rw [sizeLine_eq]; decide
  obtain ⟨o, h1, h2⟩ := E.get hi
  have h2 : o = some (.ref p) := h2
  subst h2
  refine ⟨.ref p, h1, p, rfl, .inl ⟨_, .inl w.o.h⟩, hy H S _ fun yv F1 H1 x1 d1 => ?_⟩
  cases d1
  refine ⟨Nat.zero_le _, fun q nq => ?_⟩
  have w1 := w.ext x1
  have x2 : Ext [] F1 H1 F1 (upd H1 q (.lst [])) := Ext.newM x1.s nq
  have w2 := w1.ext x2
  have x02 : Ext M F0 H0 F1 (upd H1 q (.lst [])) := (x0.tl x1).tl x2
  have nq0 : H0 q = none := (x0.tl x1).back nq
  have fq : F1 q = none := x1.s.free nq
  have rl : (kvR rows).length < sizeLine := by
    have := Paired.length w.r
    unfold kvR
    rw [List.length_map]
    omega
  refine ⟨kvR rows, Sum.inr k, w2.o.h, rfl, rl, fun v hv => ?_, fun hv => ?_⟩
  · obtain ⟨pre, x, post, rfl, h3, rfl, h4⟩ := kv_find hv
    obtain ⟨as, g, bs, eg, _, h5, _⟩ := pair_app w2.r
    refine ⟨.inl ⟨rfl, x.2.2, SqL.of h5.o.h⟩, (hn.up (x1.f.trans x2.f)) _ x2.s _ fun nv F3 H3 x3 d3 => ?_⟩
    have w3 := w2.ext x3
    obtain ⟨as', g', bs', eg', _, h5', _⟩ := pair_app w3.r
    have hl : x.2.2.length < 100000 := by
      rw [h5'.l.length]
      exact hz2 g' (by rw [eg']; simp)
    exact ⟨x.2.1, x.2.2, nv, rfl, rfl, h5'.o.h, Nat.lt_of_lt_of_le hl sz, kk _ F3 _ ((x02.tl x3).mutNew h5'.n h5'.o.f) ((x1.f.trans x2.f).trans x3.f) (w3.grow h3 h4 d3) fun c o z _ cr => by
      rw [upd_ne fun y => cr x (by simp) y.symm]
      exact x3.same _ _ (x2.same _ _ (x1.same _ _ z))⟩
  · have nk := kv_no hv
    have hqp : q ≠ p := fun z => by rw [z, w1.o.h] at nq; cases nq
    have e4 : upd (upd H1 q (.lst [])) p (.dK (putK (kvR rows) (Sum.inr k) (V.ref q))) q = some (.lst []) := by rw [upd_ne hqp, upd_same]
    have x04 : Ext M F0 H0 F1 (upd (upd H1 q (.lst [])) p (.dK (putK (kvR rows) (Sum.inr k) (V.ref q)))) := x02.mutNew w.n w2.o.f
    refine ⟨.inl ⟨rfl, [], SqL.of e4⟩, (hn.up (x1.f.trans x2.f)) _ x04.s _ fun nv F3 H3 x3 d3 => ?_⟩
    have nr : ∀ y ∈ rows, y.2.1 ≠ q := fun y hy z => by
      obtain ⟨g, _, h5⟩ := pair_row w1.r hy
      have := h5.o.h
      rw [z, nq] at this
      cases this
    have pk : putK (kvR rows) (Sum.inr k : Key) (V.ref q) = kvR rows ++ [((Sum.inr k : Key), V.ref q)] := putK_new fun y hy => by
      obtain ⟨z, hz, rfl⟩ := List.mem_map.mp hy
      simpa using nk z hz
    have r5 : Paired (RowOk K H0 F1 (upd (upd H1 q (.lst [])) p (.dK (putK (kvR rows) (Sum.inr k) (V.ref q)))) p) rows gs := pair_upd w2.r fun y hy => by
      obtain ⟨g, _, h5⟩ := pair_row w2.r hy
      exact h5.p
    have op : Own F1 (upd (upd H1 q (.lst [])) p (.dK (putK (kvR rows) (Sum.inr k) (V.ref q)))) p (.dK (kvR rows ++ [((Sum.inr k : Key), V.ref q)])) := ⟨w2.o.f, by rw [upd_same, pk]⟩
    have oq : Own F1 (upd (upd H1 q (.lst [])) p (.dK (putK (kvR rows) (Sum.inr k) (V.ref q)))) q (.lst []) := ⟨fq, e4⟩
    have fin := grp_add (op.ext0 x3) w.n (Paired.mapP r5 fun _ _ z => RowOk.ext z x3) w.d nk d3 nq0 nr hqp (oq.ext0 x3)
    exact ⟨q, [], nv, rfl, rfl, (oq.ext0 x3).h, Nat.lt_of_lt_of_le (by decide) sz, kk _ F3 _ ((x04.tl x3).mutNew nq0 (oq.ext0 x3).f) ((x1.f.trans x2.f).trans x3.f) fin fun c o z cp _ => by
      have z1 := x1.same _ _ z
      have cq : c ≠ q := fun y => by rw [y, nq] at z1; cases z1
      rw [upd_ne cq]
      refine x3.same _ _ ?_
      rw [upd_ne cp, upd_ne cq]
      exact z1⟩
end
end Nm

set_option Elab.async false
set_option linter.all false
set_option maxRecDepth 100000
set_option maxHeartbeats 3200000
/-! set(text), len(set). -/
namespace Nm
open PySem PySem.Spec L2 PyProof.Rows
section
variable {P : Program} {w : World} {A : Around} {E : Value → Shared → Prop} {s : Shared}
/-- set(text) -/
theorem run_set_str {x : Str} {t : Tok} {Q : Value → Shared → Prop} (hh : A.handled = none) (hb : x.cps.size + 1 < scanBound)
    (h : ∀ (h' : Heap) (tk : Nat) (ds : List Str), SetX P w h' s.heap.objs.size ds → (∀ z, z ∈ ds ↔ z ∈ sgns x) → (∀ b o, s.heap.get? b = some o → h'.get? b = some o) → Q (.ref s.heap.objs.size) { s with heap := h', toks := tk }) :
    wpAny (model P w) A (call (.type "set") [.str x t]) Q E s := by
  have sl : (sgns x).length = x.cps.size := by unfold sgns; rw [List.length_map, Array.length_toList]
  obtain ⟨c, tl, hmro⟩ := F.called_set.mro
  have m1 := F.called_set.made
  have m2 := F.called_set.sub
  refine wpAny_call (codeAny_of_tree ?_)
  show wpAny _ _ (callAny (.type "set") _) _ _ _
  refine wpAny_pure ⟨Code.quiet_builtin _ (by decide +kernel), codeAny_builtin F.entry_type_call ?_⟩
  rw [Around.under_plain (weight_type_call_type "set" [.str x t] []) rfl]
  have m3 := F.called_set.notType
  have m4 := F.called_set.canCreate
  have m5 := F.typeCall_set_1 (.str x t)
  repeat (any_goals (first | assumption | wp_step))
  refine codeAny_mono (code_set_led1 (.str x t) (E := E) (Q₁ := fun x s1 => x = .ref s.heap.objs.size ∧ s1 = { s with heap := s.heap.push (newSet w) }) ⟨rfl, rfl⟩) fun r s1 hr => ?_
  cases r with
  | error e => exact hr
  | ok fl =>
    cases fl with
    | ret x' =>
      obtain ⟨rfl, rfl⟩ := hr
      have at1 : (s.heap.push (newSet w)).get? s.heap.objs.size = some (newSet w) := Heap.get?_push_size _ rfl
      have ty1 : Shared.TypeIs { s with heap := s.heap.push (newSet w) } (.ref s.heap.objs.size) "set" := ⟨_, at1, rfl⟩
      have m6 := F.called_set.init.lookup
      have m7 := F.called_set.init.bind (.ref s.heap.objs.size)
      repeat (any_goals (first | assumption | wp_step))
      refine codeAny_mono (codeAny_call_builtin (R := wants (fun r s2 => r = .none ∧ ∃ h' tk ds, s2 = { s with heap := h', toks := tk } ∧ SetX P w h' s.heap.objs.size ds ∧ (∀ z, z ∈ ds ↔ z ∈ sgns x) ∧ (∀ b o, s.heap.get? b = some o → h'.get? b = some o)) E) F.called_set.init.plain F.entry_set_init (check_set_init_1 ty1 ?_)) fun r2 s2 hr2 => ?_
      · have m8 : isSubtype (.type "str") (.type "set") = pure false := by rw [isSubtype_type]; kernel_rfl
        have m9 : isSubtype (.type "str") (.type "frozenset") = pure false := by rw [isSubtype_type]; kernel_rfl
        have m10 : (Value.type "str" == Value.type "dict") = false := by decide
        unfold Builtin.«set.__init__» noKeywords Builtin.Frozenset.updateFrom
        generalize hPI : pyIter = PI
        wp_walk
        subst hPI
        have z1 : (s.heap.push (newSet w)).objs.size = s.heap.objs.size + 1 := Heap.size_push ..
        refine wpAny_pyIter_str fun o St W hst => (wpAny_bind (wpAny_runValue ?_))
        have h3 : A.in1.in1.in1.handled = none := by simp [hh]
        have nf : s.heap.objs.size ∉ [(s.heap.push (newSet w)).objs.size] := by
          rw [z1]
          simp only [List.mem_cons, List.not_mem_nil, or_false]
          exact Nat.ne_of_lt (Nat.lt_succ_self _)
        refine setX_loop ((W _ h3).toS) nf sl.symm (by rw [sl]; exact hb) (fun i v hv => ?_) (x.cps.size - 0) 0 _ [] (by omega) (Nat.zero_le _) hst (setX_new (Heap.get?_push_of_some _ at1)) (fun z => by simp) (Nat.le_refl _) fun s' ds mv hx hd => ?_
        · obtain ⟨c, u, h1, h2⟩ := hv
          exact ⟨⟨#[c]⟩, u, by unfold sgns; rw [List.getElem?_map, Array.getElem?_toList, h1]; rfl, h2⟩
        obtain ⟨h', g', d', tk', os'⟩ := s'
        have e1 : g' = s.gens := mv.gens
        have e2 : d' = s.drawn := mv.drawn
        have e3 : os' = s.os := mv.os
        subst e1; subst e2; subst e3
        show wpAny _ _ _ _ _ _
        refine wpAny_pure ?_
        show wpAny _ _ (ret Value.none) _ _ _
        refine wpAny_pure ⟨rfl, h', tk', ds, rfl, hx, hd, fun b o e => ?_⟩
        have lb : b < s.heap.objs.size := Heap.lt_size e
        refine mv.heap b o ?_ (Heap.get?_push_of_some _ (Heap.get?_push_of_some _ e))
        rw [z1]
        simp only [List.mem_cons, List.not_mem_nil, or_false, not_or]
        exact ⟨Nat.ne_of_lt lb, Nat.ne_of_lt (Nat.lt_succ_of_lt lb)⟩
      · cases r2 with
        | error e => exact hr2
        | ok fl2 =>
          cases fl2 with
          | ret r =>
            obtain ⟨rfl, h', tk, ds, rfl, hx, hd, hk'⟩ := hr2
            repeat (any_goals (first | assumption | wp_step))
            exact h _ _ _ hx hd hk'
          | _ => exact hr2.elim
    | _ => exact hr.elim
end
def rSetT (P : Program) (w : World) : List V → Hp → VK → Prop := fun xs H Q => ∃ x : Str, xs = [.str x] ∧ x.length + 1 < scanBound ∧
  ∀ p ds, ds.Nodup → (∀ z, z ∈ ds ↔ z ∈ sgns x) → H p = none → Q (.ref p) (upd H p (SetXO P w p ds))
theorem c_setT {X : Cx} (hc : X.calm = true) : CallR X (.type "set") (rSetT X.prog X.w) := by
  intro pins s σ H xs us Q I r h
  obtain ⟨x, rfl, hb, q⟩ := h
  obtain ⟨t, rfl⟩ : ∃ t, us = [.str x t] := by
    cases r with
    | cons a b => cases b; obtain ⟨t, rfl⟩ := a; exact ⟨_, rfl⟩
  refine run_set_str (I.ok.hd hc) hb fun h' tk ds hx hd hk => ?_
  exact ⟨.ref _, upd H s.heap.objs.size (SetXO X.prog X.w s.heap.objs.size ds), I.laid (t' := tk) hk (Nat.le_refl _) (setXO_new hx), rfl, q _ ds hx.nodup hd (I.hok.fresh (Nat.le_refl _))⟩
/-- len(set) -/
def rLenX (P : Program) (w : World) : List V → Hp → VK → Prop := fun xs H Q => ∃ (a : Addr) (l : List Str), xs = [.ref a] ∧ H a = some (SetXO P w a l) ∧ l.length < scanBound ∧ Q (.int (l.length : Nat)) H
theorem c_lenX {X : Cx} : CallR X (.builtin "len") (rLenX X.prog X.w) := by
  intro pins s σ H xs us Q I r h
  obtain ⟨a, l, rfl, ha, hb, q⟩ := h
  rw [Vals.ref1 r]
  obtain ⟨⟨es, ep, t⟩, ho, Fx, nd, _⟩ := setXO_get I ha
  have esz : es.size = l.length := Fx.sz
  have sb : scanBound = 4096 := rfl
  refine call_len_set (es := es) (ep := ep) (t := t) ho ⟨rfl, rfl, rfl⟩ rfl Fx.fit (by omega) ?_
  exact ⟨.int (l.length : Nat), H, I.kept (t' := s.toks + 1 + 1) fun b o e => e, ⟨_, by rw [esz]⟩, q⟩
section
variable {K : PySem.W.Frag} {F H : Hp} {σ : L2.St} {ta : TA} {P : Program} {w : World} {te : TE}
theorem denK_snd : ∀ {kvs : List (Key × V)} {es : List (Key × D)}, DenK K F kvs es → DenL K F (kvs.map (·.2)) (es.map (·.2))
  | _, _, .nil => .nil
  | _, _, .cons a t => .cons a (denK_snd t)
/-- list(d.values()) -/
theorem el_vals {es : List (Key × D)} (h : EvD K te σ F (.dic es)) : EvL K (tListVals te) σ F (es.map (·.2)) := fun H s Q q => h H s _ fun v F1 H1 x1 d1 => by
  cases d1 with
  | dic r l =>
    refine ⟨_, _, rfl, .inr ⟨_, x1.s _ _ r⟩, fun p hp => ?_⟩
    exact q p _ F1 _ (x1.back hp) (x1.tr (Ext.newM x1.s hp)) ⟨x1.s.free hp, upd_same⟩ (denK_snd l)
/-- sorted(set(text)) -/
theorem el_sortsetT {l : List Nat} (h : EvA K ta σ F [txt l]) (hb : l.length < 4000) : EvL K (tCB (rSortedX P w) (tCons (tCB (rSetT P w) ta) tNil)) σ F ((setS (sgns ⟨l.toArray⟩)).map D.str) := fun H s Q q => h H s _ fun vs F1 H1 x1 dl => by
  have sb : scanBound = 4096 := rfl
  cases dl with
  | cons a t =>
    cases t
    cases a
    refine ⟨_, rfl, by rw [txt_len]; omega, fun p ds nd hd hp => ?_⟩
    have len : ds.length ≤ l.length := by
      have := (nodup_perm nd (dd_nodup (sgns ⟨l.toArray⟩)) fun z => by rw [hd z, dd_mem]).length_eq
      have h2 := dd_len (sgns ⟨l.toArray⟩)
      have h3 : (sgns ⟨l.toArray⟩).length = l.length := by unfold sgns; simp
      omega
    refine ⟨p, ds, rfl, upd_same, by omega, fun ys p2 pm hs hp2 => ?_⟩
    have x2 := Ext.newM (o := SetXO P w p ds) x1.s hp
    have x3 := Ext.newM (o := .lst (ys.map V.str)) x2.s hp2
    rw [setS_is pm nd hd hs] at x3 ⊢
    exact q p2 _ F1 _ ((x1.tr x2).back hp2) ((x1.tr x2).tr x3) ⟨x2.s.free hp2, upd_same⟩ (DenL.strs _)
/-- len(set(xs)) -/
theorem ev_lenset {ks : List Str} {ds : List D} (h : EvA K ta σ F [.lst ds]) (e : ds = ks.map D.str) (hb : ks.length < 4000) : EvD K (tCB (rLenX P w) (tCons (tCB (rSetX P w K) ta) tNil)) σ F (.int ((dd ks).length : Nat)) := fun H s Q q => h H s _ fun vs F1 H1 x1 l => by
  subst e
  have sb : scanBound = 4096 := rfl
  cases l with
  | cons a t =>
    cases t
    cases a with
    | lst r l =>
      rw [denL_strs l] at r
      refine ⟨_, ks, rfl, SqL.of (x1.s _ _ r), by omega, fun p ds nd hd hp => ?_⟩
      have len : ds.length = (dd ks).length := (nodup_perm nd (dd_nodup ks) fun z => by rw [hd z, dd_mem]).length_eq
      have h2 := dd_len ks
      refine ⟨p, ds, rfl, upd_same, by omega, ?_⟩
      rw [len]
      exact q _ F1 _ (x1.tr (Ext.newM x1.s hp)) (.int _)
end
end Nm

set_option Elab.async false
set_option linter.all false
set_option maxRecDepth 100000
set_option maxHeartbeats 4000000
/-! an own error, directly under a built-in class other than ValueError, whose __init__ stores a field -/
namespace PySem
namespace NmOx
open PySem.W PySem.Calls PyProof.Rows PySem.HandSPX Builtin Builtin.ObjectAttr
structure EB (newId : String) (tl : List Value) : Prop where
  fact : ∃ B initId, ExcBaseFacts B newId initId tl
  pass : ∀ self, refuseLoop self "__setattr__" tl = pure ()
  ob : tl.contains (.type "object") = true
theorem eb_over : EB "OverflowError.__new__" [.type "OverflowError", .type "ArithmeticError", .type "Exception", .type "BaseException", .type "object"] := ⟨⟨_, _, F.excBase_OverflowError⟩, fun self => by kernel_rfl, by decide +kernel⟩
theorem osaB {prog : Program} {w : World} {A : Around} {R : Result → Shared → Prop} {h0 : Heap} {gn : Array GenState} {dr : Drawn} {tk0 : Nat} {ost : OsState} {K : W.Frag} {fn : Str} {tf : Tok} {val : Value} {ea Cl : Addr} {flds : Array Value} {cdt : ClassData} {newId : String} {tl : List Value}
    (KI : K.In h0) (eb : EB newId tl) (hget : h0.get? ea = some { cls := .ref Cl, data := .fields flds }) (hcl : W.clsIn K Cl = some cdt) (hmro : cdt.mro = .ref Cl :: tl) (hdict : cdt.hasDict = true) (hnone : W.findIn K (.ref Cl) fn = some none)
    (done : ∀ h1 tk1 dx, (∀ b o, b ≠ ea → h0.get? b = some o → h1.get? b = some o) → h0.objs.size ≤ dx → dx ≠ ea → h1.get? ea = some { cls := .ref Cl, dict := some dx, data := .fields flds } → h1.Ns1 dx (fun y => if y = fn then some val else none) → R (.ok (.ret .none)) ⟨h1, gn, dr, tk1, ost⟩) :
    codeAny (model prog w) A (.call (.builtin "object.__setattr__") ⟨[.ref ea, .str fn tf, val], []⟩) R ⟨h0, gn, dr, tk0, ost⟩ := by
  have inst : W.InstAt h0 ea { cls := .ref Cl, data := .fields flds } Cl none := ⟨hget, rfl, rfl, trivial⟩
  have fo := F.store_object
  have mob : cdt.mro.contains (.type "object") = true := by rw [hmro, List.contains_cons, eb.ob]; rfl
  have mne : cdt.mro.isEmpty = false := by rw [hmro]; rfl
  have apart : ea ≠ h0.objs.size := Nat.ne_of_lt (Heap.lt_size hget)
  have isob : W.Looks (model prog w) h0 (isInstance (.ref ea) (.type "object")) true := inst.type.andThen (W.looks_mroIn KI (by unfold W.mroIn; rw [hcl, Option.bind_some, if_neg (by rw [mne]; decide), mob]))
  refine codeAny_call_builtin fo.slot.plain fo.entry (@W.check_slot (model prog w) _ _ ⟨h0, gn, dr, tk0, ost⟩ "object.__setattr__" "object" "__setattr__" (.ref ea) [.str fn tf, val] [] _ fo.kind fo.split isob (fo.args (.ref ea) (.str fn tf) val) ?_)
  have lm : W.Looks (model prog w) h0 (mroOf (.ref Cl)) cdt.mro := (W.looks_clsIn KI hcl).andThen .now
  have lt3 : W.Looks (model prog w) h0 (storeTaker? none) none := .now
  have lcd : W.Looks (model prog w) h0 (classData Cl) cdt := W.looks_clsIn KI hcl
  rw [W.osa_eq, refuse_eq]
  refine wpAny_bind (wpAny_bind (inst.type.at (wpAny_bind (lm.at ?_))))
  rw [hmro, refuseLoop_ref, eb.pass]
  refine wpAny_pure (wpAny_bind (inst.type.at (wpAny_bind ((W.looks_findIn KI hnone).at (wpAny_bind (lt3.at ?_))))))
  show wpAny _ _ (storeInOwnDict (.ref ea) (.ref Cl) (.str fn tf) fn val false) _ _ _
  obtain ⟨c1, c2, c3, c4, c5, c6, c7, c8, c9, c10, c11⟩ := cdt
  dsimp only at hdict
  subst hdict
  unfold storeInOwnDict ownDictForStores
  repeat (first | with_reducible refine store_in_new ?_ ?_ | with_reducible refine wpAny_loadPart_at hget ?_ | with_reducible refine lcd.at ?_ | wp_step)
  · exact ⟨_, #[], _, (Heap.get?_update_ne _ _ _ _ apart.symm).trans (Heap.get?_push_at rfl rfl), rfl, fun e he => absurd he (by simp), fun _ => rfl⟩
  · intro h1 tk1 ns1 sb1
    have got : (h0.push { cls := .type "dict", data := .dict #[] }).get? ea = some { cls := .ref Cl, data := .fields flds } := Heap.get?_push_of_some _ hget
    refine done h1 tk1 h0.objs.size (fun b o hb ho => ?_) (Nat.le_refl _) apart.symm ?_ ns1
    · exact (sb1.2 b (Nat.ne_of_lt (Heap.lt_size ho))).trans ((Heap.get?_update_ne _ _ _ _ hb).trans (Heap.get?_push_of_some _ ho))
    · exact (sb1.2 ea apart).trans (Heap.get?_update_self _ got rfl)
end NmOx
end PySem
namespace Nm
open PySem PySem.Spec L2 PyProof.Rows
/-- what the written part says of such a class -/
structure OexG (K : PySem.W.Frag) (C : Addr) : Prop where
  cls : ∃ nm q N bs bm sn sub ab col dd k0 k1 k2 k3 k5 newId, K.lookup C = some (excClassObj nm q C N bs bm true sn sub ab col dd k0 k1 k2 k3 k5 newId) ∧ NmOx.EB newId bm
  sa : PySem.W.findIn K (.ref C) "__setattr__" = some (some (.builtin "object.__setattr__"))
  exC : PySem.W.subIn K (.ref C) (.type "BaseException") = some true
  tyC : PySem.W.typeIn K (.ref C) = some (.type "type")
  kC : PySem.W.keepIn K (.ref C) = true
section
variable {X : Cx} {pins : List (Addr × Obj)} {σ : L2.St} {H : Hp} {s : Shared} {a C : Addr} {f : Str} {y : V} {u : Value} {Q : Unit → Shared → Prop} {E : Value → Shared → Prop} {A : Around}
theorem ost_newG (T : OexG X.K C) (I : L2.Inv X pins σ H s) (e : H a = some (exo a C none)) (hno : PySem.W.findIn X.K (.ref C) f = some none) (ry : RelV y u)
    (k : ∀ dx s', H dx = none → dx ≠ a → L2.Inv X pins σ (upd (upd H dx (exd dx [(f, y)])) a (exo a C (some dx))) s' → Q () s') : wpAny (model X.prog X.w) A (setAttr (.ref a) f u) Q E s := by
  obtain ⟨n1, n2, n3, n4, n5, n6, n7, n8, n9, n10, m1, m2, m3, m4, m5, nid, lkC, eb⟩ := T.cls
  have cin : PySem.W.clsIn X.K C = some { name := n1, bases := n4, mro := .ref C :: n5, ns := n3, qualname := n2, hasDict := true, slotNames := n6, subclasses := n7, abstract := n8, collection := n9, hasDel := false } := by unfold PySem.W.clsIn; rw [lkC] <;> rfl
  obtain ⟨t1, at1⟩ := exo_at I.hok e
  obtain ⟨hp, gg, dw, tt, oo⟩ := s
  refine PySem.W.set_plain I.kIn (ox := { cls := .ref C, dict := none, data := .fields #[.ref t1, .none, .none, .none, .bool false, .none] }) (od := none) ⟨at1, rfl, rfl, trivial⟩ T.sa ?_
  refine NmOx.osaB I.kIn eb at1 cin rfl rfl hno (fun h1 tk1 dx keep fresh dne get1 ns1 => ?_)
  have dnone : H dx = none := I.hok.fresh fresh
  have off : ∀ {b : Addr} {o : Obj}, hp.get? b = some o → b ≠ dx := fun {b o} z => Nat.ne_of_lt (Nat.lt_of_lt_of_le (Heap.lt_size z) fresh)
  have offa : ∀ {b : Addr}, H b = none → b ≠ a := fun {b} z zz => by rw [zz, e] at z; cases z
  have un : Un X.fs [] H (upd (upd H dx (exd dx [(f, y)])) a (exo a C (some dx))) hp h1 := {
    keep := fun b o z n _ _ => keep b o (offa n) z
    slot := fun b o z n _ _ => ⟨o.slots, keep b o (offa n) z⟩
    free := fun b o z n _ => by rw [upd_ne (offa n), upd_ne (off z)]; exact n
    there := fun b o z _ => by
      by_cases hb : b = a
      · exact hb ▸ ⟨_, get1⟩
      · exact ⟨o, keep b o hb z⟩
    tups := fun b xs z => by rw [upd_ne (at_ne e z exo_tup), upd_ne (ne_of_none z dnone), z]
    frzs := fun b o v z => by rw [upd_ne (at_ne e z exo_frz), upd_ne (ne_of_none z dnone), z]
    tbls := fun b ps z => ⟨#[], by rw [upd_ne (at_ne e z exo_tbl), upd_ne (ne_of_none z dnone), z]; simp⟩ }
  refine k dx _ dnone dne (I.un (t' := tk1) un fun b o z => ?_)
  by_cases hb : b = a
  · subst hb; rw [upd_same] at z; cases z; exact exo_ok get1
  rw [upd_ne hb] at z
  by_cases hd : b = dx
  · subst hd; rw [upd_same] at z; cases z; exact exd_ok ns1 (relO_put (fs := []) ry fun g => True.intro)
  rw [upd_ne hd] at z
  refine (I.hok b o z).stay (fun c v hc zz => keep c v ?_ zz) (fun c hc => by rw [upd_ne (at_ne e hc exo_own), upd_ne (ne_of_none hc dnone), hc]) fun c xs hc => by rw [upd_ne (at_ne e hc exo_tup), upd_ne (ne_of_none hc dnone), hc]
  rcases hc with hc | hc
  · rw [hc]; exact hb
  · exact at_ne e hc exo_own
/-- self.f = e, the only field -/
def tOstG (K : PySem.W.Frag) (f : Str) (to te : TE) : TS := fun D σ H => te σ H fun y H1 => to σ H1 fun x H2 => ∃ a C : Addr, x = .ref a ∧ OexG K C ∧ PySem.W.findIn K (.ref C) f = some none ∧
  H2 a = some (exo a C none) ∧ ∀ dx, H2 dx = none → dx ≠ a → D.nx σ (upd (upd H2 dx (exd dx [(f, y)])) a (exo a C (some dx)))
theorem ps_ostG {o ex : Expr} {to te : TE} {p' pos : Pos} (ho : PE X o to) (he : PE X ex te) (hs : swapsWith ex (some (.Attribute o f p')) pos.line X.env = pure false := by rfl) : PS X (.Assign [.Attribute o f p'] ex pos) (tOstG X.K f to te) := by
  refine ⟨fun pins s σ H D I h => ?_⟩
  refine plainObj_wpAny_Assign_Attribute (thn (he.run pins s σ H _ I h) fun v s1 ⟨yy, H1, I1, r1, q1⟩ => thn (ho.run pins s1 σ H1 _ I1 q1) fun uu s2 ⟨xx, H2, I2, r2, aa, CC, exx, T, no, hat, q⟩ => ?_) hs
  subst exx
  cases (show uu = Value.ref aa from r2)
  exact ost_newG T I2 hat no r1 fun dx s' n ne J => ⟨σ, _, J, q dx n ne⟩
theorem pmk_oexG {CX : CXT} {x : Str} {fI : Addr} {k : Nat} {fd : FuncData} {ps : List Str} {sp : Sp} {ds : List Value} {dvs : List V} {e : Expr} {es : List Expr} {ta : TA} {p pos : Pos} (T : OexG X.K C) (iC : PySem.W.findIn X.K (.ref C) "__init__" = some (some (.ref fI))) (tI : PySem.W.typeIn X.K (.ref fI) = some (.type "function"))
    (F1 : FnOk X.prog X.w X.K X.mg X.base CX k fI fd ps sp) (hr : Room (k + 1) X.A) (hb : Binds X.K fd ps ds) (hd : Vals dvs ds) (hx : Passes CX X (fun _ _ _ => False)) (hg : Gl X x) (hm : X.mg x = some (.ref C)) (ha : PA X (e :: es) ta)
    (hdb : (x == ("__debug__" : Str)) = false := by decide) (he : starEach (e :: es) X.env = (false, eval e X.env) :: starEach es X.env := by rfl) (hpl : (backTo pos (starEach es X.env)).any (·.1) = false := by rfl) : PMk X (.Call (.Name x p) (e :: es) [] pos) (tMkO C sp dvs ta) := by
  intro pins s σ H Q I hh
  obtain ⟨n1, n2, n3, n4, n5, n6, n7, n8, n9, n10, m1, m2, m3, m4, m5, nid, lkC, eb⟩ := T.cls
  obtain ⟨B, iid, fact⟩ := eb.fact
  refine wpAny_Call_Name_kw (ld_glob I hg hm ?_ hdb)
  refine PySem.W.callWith_K (h₀ := X.base) I.ok.mod.kin T.kC (thn (ha.run pos pins s σ H _ I hh) fun us s1 ⟨vs, H1, I1, rv1, lz, q1⟩ => ⟨I1.kIn, ?_⟩) he hpl
  show wpAny _ _ (call (.ref C) us) _ _ _
  obtain ⟨hp, gg, dw, tt, oo⟩ := s1
  have up1 : hp.objs.size ≤ hp.objs.size + 1 := Nat.le_succ _
  have fr1 : H1 (hp.objs.size + 1) = none := I1.hok.fresh up1
  have hq := q1 (hp.objs.size + 1) fr1
  have stays : ∀ b o, hp.get? b = some o → ((hp.push (PySem.W.kdv_tup us)).push (PySem.HandSPX.excO C hp.objs.size)).get? b = some o := fun b o z => Heap.get?_push_of_some _ (Heap.get?_push_of_some _ z)
  have born : ((hp.push (PySem.W.kdv_tup us)).push (PySem.HandSPX.excO C hp.objs.size)).get? (hp.objs.size + 1) = some (PySem.HandSPX.excO C hp.objs.size) := by heap_get
  have I2 : L2.Inv X pins σ (upd H1 (hp.objs.size + 1) (exo (hp.objs.size + 1) C none)) ⟨(hp.push (PySem.W.kdv_tup us)).push (PySem.HandSPX.excO C hp.objs.size), gg, dw, tt, oo⟩ :=
    I1.laid (t' := tt) (a := hp.objs.size + 1) (o := exo (hp.objs.size + 1) C none) (h' := (hp.push (PySem.W.kdv_tup us)).push (PySem.HandSPX.excO C hp.objs.size)) stays up1 (exo_ok born)
  have rv2 : Vals (V.ref (hp.objs.size + 1) :: (vs ++ dvs)) (Value.ref (hp.objs.size + 1) :: (us ++ ds)) := .cons rfl (rv1.append hd)
  have many : (Value.ref (hp.objs.size + 1) :: us ++ ds).length = ps.length := (rv2.length.symm.trans (F1.len _ _ _ _ hq))
  have short : us.length ≤ sizeLine := by rw [← Paired.length rv1, sizeLine_eq]; omega
  refine wpAny_call (PySem.HandSPX.call_own fact (fun Y => rfl) (I1.kIn _ _ lkC) (PySem.W.looks_findIn I1.kIn iC) (fun self => PySem.W.bind_fn I1.kIn self tI) short
    (codeAny_mono (F1.run _ X.stack _ _ ⟨Value.ref (hp.objs.size + 1) :: us, []⟩ (Value.ref (hp.objs.size + 1) :: (us ++ ds)) _ _ (fun _ _ _ => False) (hr.make C us []) (I2.env0.make C us []) (hb _ (Value.ref (hp.objs.size + 1) :: us) I2.kIn many) rv2 hq) fun res s' hres => ?_))
  match res, hres with
  | .error er, hres => exact hx pins σ _ _ er s' I2 hres
  | .ok .next, hres => exact hres.elim
  | .ok .brk, hres => exact hres.elim
  | .ok .cont, hres => exact hres.elim
  | .ok (.ret u), ⟨v, H2, o2, bare, un2, hok2, rvv, ev, d, fs, exa, exdd, dn, q2⟩ =>
    subst ev
    obtain ⟨h2, g2, d2, t2, os'⟩ := s'
    exact ⟨rvv, mk_end (raises_own T.exC T.tyC) I1 up1 stays un2 hok2 o2 bare exa exdd dn q2⟩
end
end Nm

set_option Elab.async false
set_option linter.all false
set_option maxRecDepth 100000
set_option maxHeartbeats 1000000
/-! Expressions that change an object of one's own whose state is told by J; S: where it lives, M: what of it changes. -/
namespace Nm
open PySem PySem.Spec L2
structure JOk (S M : List Addr) (J : Hp → Hp → Prop) : Prop where
  mem : ∀ F H, J F H → ∀ a ∈ S, F a = none ∧ H a ≠ none
  mv : ∀ F H F' H', J F H → Same F F' → Same F' H' → (∀ a ∈ S, H' a = H a) → (∀ a ∈ S, F' a = none) → J F' H'
  sub : ∀ a ∈ M, a ∈ S
section
variable {S M : List Addr} {J : Hp → Hp → Prop} {F F' F1 F2 H H' H1 H2 : Hp}
theorem JOk.ext (j : JOk S M J) {M' : List Addr} (h : J F H) (x : Ext M' F H F' H') (d : ∀ a ∈ S, a ∉ M') : J F' H' :=
  j.mv F H F' H' h x.f x.s (fun a ha => by
    obtain ⟨_, n⟩ := j.mem F H h a ha
    cases e : H a with
    | none => exact absurd e n
    | some o => exact x.h a o (d a ha) e) fun a ha => x.n a (j.mem F H h a ha).1 (j.mem F H h a ha).2
theorem JOk.ext0 (j : JOk S M J) (h : J F H) (x : Ext [] F H F' H') : J F' H' := j.ext h x fun a _ => by simp
theorem JOk.put (j : JOk S M J) {p : Addr} {o : HO} (h : J F H) (s : Same F H) (hp : p ∉ S) (hf : F p = none) : J F (upd H p o) :=
  j.mv F H F _ h (Same.refl _) (same_upd s hf) (fun a ha => upd_ne fun z => hp (z ▸ ha)) fun a ha => (j.mem F H h a ha).1
theorem JOk.fz (j : JOk S M J) {p : Addr} {o : HO} (h : J F H) (s : Same F H) (hp : H p = some o) (hf : F p = none) (hs : p ∉ S) : J (upd F p o) H :=
  j.mv F H _ H h (same_new hf) (fun a u e => by
    by_cases z : a = p
    · subst z; rw [upd_same] at e; rw [← e]; exact hp
    · rw [upd_ne z] at e; exact s a u e) (fun _ _ => rfl) fun a ha => (by rw [upd_ne (fun z : a = p => hs (z ▸ ha))]; exact (j.mem F H h a ha).1)
theorem JOk.out (j : JOk S M J) (h : J F H) {p : Addr} (hp : H p = none) : p ∉ S := fun z => (j.mem F H h p z).2 hp
theorem JOk.outM (j : JOk S M J) (h : J F H) {p : Addr} (hp : H p = none) : p ∉ M := fun z => j.out h hp (j.sub p z)
/-- what is put beside: the frozen part is larger -/
theorem Ext.uniM {G : Hp} (e : Same G F1) (x : Ext M F1 H1 F2 H2) : Ext M F1 H1 F2 H2 := x
end
def EwJ (K : PySem.W.Frag) (M : List Addr) (J : Hp → Hp → Prop) (te : TE) (σ : L2.St) (F : Hp) (d : D) : Prop :=
  ∀ F1 H, Same F F1 → Same F1 H → J F1 H → ∀ Q : VK, (∀ v F' H', Ext M F1 H F' H' → J F' H' → Den K F' v d → Q v H') → te σ H Q
def EwA (K : PySem.W.Frag) (M : List Addr) (J : Hp → Hp → Prop) (ta : TA) (σ : L2.St) (F : Hp) (ds : List D) : Prop :=
  ∀ F1 H, Same F F1 → Same F1 H → J F1 H → ∀ Q : List V → Hp → Prop, (∀ vs F' H', Ext M F1 H F' H' → J F' H' → DenL K F' vs ds → Q vs H') → ta σ H Q
def EwT (K : PySem.W.Frag) (M : List Addr) (J : Hp → Hp → Prop) (tt : TT) (σ : L2.St) (F : Hp) (b : Bool) : Prop :=
  ∀ F1 H, Same F F1 → Same F1 H → J F1 H → ∀ Q : Bool → Hp → Prop, (∀ F' H', Ext M F1 H F' H' → J F' H' → Q b H') → tt σ H Q
def EwI (K : PySem.W.Frag) (M : List Addr) (J : Hp → Hp → Prop) (wi : TI) (σ : L2.St) (F : Hp) (items : List D) : Prop :=
  ∀ F1 H, Same F F1 → Same F1 H → J F1 H → ∀ R : It → Hp → Prop, (∀ I F' H', Ext M F1 H F' H' → J F' H' → WalkD K F' I items → R I H') → wi σ H R
section
variable {K : PySem.W.Frag} {S M : List Addr} {J : Hp → Hp → Prop} {F F' H : Hp} {σ : L2.St} {te ta tb : TE} {d e z : D} {ds : List D}
theorem EwJ.up (h : EwJ K M J te σ F d) (e : Same F F') : EwJ K M J te σ F' d := fun F1 H s => h F1 H (e.trans s)
theorem EwT.up {tt : TT} {b : Bool} (h : EwT K M J tt σ F b) (e : Same F F') : EwT K M J tt σ F' b := fun F1 H s => h F1 H (e.trans s)
theorem EwA.up {ta : TA} (h : EwA K M J ta σ F ds) (e : Same F F') : EwA K M J ta σ F' ds := fun F1 H s => h F1 H (e.trans s)
theorem EwI.up {wi : TI} (h : EwI K M J wi σ F ds) (e : Same F F') : EwI K M J wi σ F' ds := fun F1 H s => h F1 H (e.trans s)
theorem ej_of (j : JOk S M J) (h : EvD K te σ F d) : EwJ K M J te σ F d := fun F1 H s s1 jj Q q => h.up s H s1 Q fun v F2 H2 x dv => q v F2 H2 (x.wide (by simp)) (j.ext0 jj x) dv
theorem eja_of {ta : TA} (j : JOk S M J) (h : EvA K ta σ F ds) : EwA K M J ta σ F ds := fun F1 H s s1 jj Q q => h H (s.trans s1) Q fun vs F2 H2 x dv =>
  have x' := Ext.uni s s1 x
  q vs _ H2 (x'.wide (by simp)) (j.ext0 jj x') (dv.up (uni_r (s1.trans x'.same) x.s))
theorem ejt_of {tt : TT} {b : Bool} (j : JOk S M J) (h : EvT K tt σ F b) : EwT K M J tt σ F b := fun F1 H s s1 jj Q q => h.up s H s1 Q fun F2 H2 x => q F2 H2 (x.wide (by simp)) (j.ext0 jj x)
theorem eji_of {wi : TI} (j : JOk S M J) (h : EvI K wi σ F ds) : EwI K M J wi σ F ds := fun F1 H s s1 jj R q => h H (s.trans s1) R fun I F2 H2 x w =>
  have x' := Ext.uni s s1 x
  q I _ H2 (x'.wide (by simp)) (j.ext0 jj x') (walkD_up w (uni_r (s1.trans x'.same) x.s))
theorem ej_op {r : R2} (j : JOk S M J) (ha : EwJ K M J ta σ F d) (hb : EwJ K M J tb σ F e) (hr : RvD K r d e z) : EwJ K M J (tOp r ta tb) σ F z := fun F1 H s s1 jj Q q =>
  ha F1 H s s1 jj _ fun v F2 H2 x2 j2 d2 => hb F2 H2 (s.trans x2.f) x2.s j2 _ fun u F3 H3 x3 j3 d3 => hr F3 H3 v u x3.s (d2.up x3.f) d3 Q fun y F4 H4 x4 d4 => q y F4 H4 ((x2.trans x3).tl x4) (j.ext0 j3 x4) d4
theorem eja_nil : EwA K M J tNil σ F [] := fun F1 H s s1 jj Q q => q [] F1 H (Ext.refl s1) jj .nil
theorem eja_cons {tr : TA} (ha : EwJ K M J ta σ F d) (hr : EwA K M J tr σ F ds) : EwA K M J (tCons ta tr) σ F (d :: ds) := fun F1 H s s1 jj Q q =>
  ha F1 H s s1 jj _ fun v F2 H2 x2 j2 d2 => hr F2 H2 (s.trans x2.f) x2.s j2 _ fun vs F3 H3 x3 j3 l3 => q _ F3 H3 (x2.trans x3) j3 (.cons (d2.up x3.f) l3)
theorem ej_tup {tr : TA} (j : JOk S M J) (h : EwA K M J tr σ F ds) (hl : ds.length ≤ sizeLine) : EwJ K M J (tTup tr) σ F (.tup ds) := fun F1 H s s1 jj Q q =>
  h F1 H s s1 jj _ fun vs F2 H2 x2 j2 l2 => ⟨by rw [l2.length]; exact hl, fun p hp => q _ _ _ (x2.tl (Ext.new x2.s hp)) (j.ext0 j2 (Ext.new x2.s hp)) (.tup (SqT.of upd_same) (l2.up (Ext.new (o := .tup _) x2.s hp).f))⟩
theorem ej_cb {r : List V → Hp → VK → Prop} {tr : TA} (j : JOk S M J) (h : EwA K M J tr σ F ds) (hr : RcD K r ds d) : EwJ K M J (tCB r tr) σ F d := fun F1 H s s1 jj Q q =>
  h F1 H s s1 jj _ fun vs F2 H2 x2 j2 l2 => hr F2 H2 vs x2.s l2 Q fun y F4 H4 x4 d4 => q y F4 H4 (x2.tl x4) (j.ext0 j2 x4) d4
theorem ejt_B {b : Bool} (h : EwJ K M J te σ F (.bl b)) : EwT K M J (tB te) σ F b := fun F1 H s s1 jj Q q => h F1 H s s1 jj _ fun v F2 H2 x2 j2 d2 => by
  cases d2
  exact ⟨b, rfl, q F2 H2 x2 j2⟩
theorem eji_lst (h : EwJ K M J te σ F (.lst ds)) : EwI K M J (iSeq K te) σ F ds := fun F1 H s s1 jj R q => .inl (h F1 H s s1 jj _ fun v F2 H2 x2 j2 d1 => by
  cases d1 with
  | lst h l =>
    rename_i a xs
    refine ⟨a, rfl, ⟨xs, SqL.of (x2.s _ _ h)⟩, q _ F2 H2 x2 j2 ⟨fun H => SqL K H a xs, YAt xs, ?_, fun H s => SqL.of (s _ _ h), fun i H x H' hi s y => ?_⟩⟩
    · rw [← l.length]; exact walk_list
    · obtain ⟨rfl, y⟩ := y
      obtain ⟨d, h1, h2⟩ := l.getV y
      exact ⟨d, F2, h1, Ext.refl s, h2⟩)
/-- [f(x) for target in items if p(x)], where p and f may change what J tells of -/
theorem ew_lcG {r : List Sl} {items : List D} {f : D → D} {pp : D → Bool} {vs : List Nat} {tt : TT} {wi : TI} {g : TG} (j : JOk S M J) (u : D → List Sl → List Sl) (E : EnvD K F r σ) (hi : EwI K M J wi σ F items) (hn : items.length < sizeLine) (hg : ∀ d, d ∈ items → TgW K g d (u d) vs)
    (ht : ∀ d F' σ', d ∈ items → Same F F' → EnvD K F' (u d (wipeR r vs)) σ' → EwT K M J tt σ' F' (pp d))
    (he : ∀ d F' σ', d ∈ items → Same F F' → EnvD K F' (u d (wipeR r vs)) σ' → pp d = true → EwJ K M J te σ' F' (f d)) :
    EwJ K M J (tLc wi g tt te vs) σ F (.lst ((items.filter pp).map f)) := fun F0 H s s0 jj Q q => hi F0 H s s0 jj _ fun I F1 H1 x1 j1 W1 Dl hD => by
  obtain ⟨G, Y, w, hG, hy⟩ := W1
  have oM := j.outM j1 hD
  have oS := j.out j1 hD
  refine lc_it w (fun i H' => ∃ F' acc, Ext M F1 H1 F' H' ∧ J F' H' ∧ F' Dl = none ∧ H' Dl = some (.lst acc) ∧ DenL K F' acc (((items.take i).filter pp).map f)) ?_ ?_ ?_ ?_
  · exact ⟨F1, [], (Ext.newM x1.s hD).wide (by simp), j.ext0 j1 (Ext.newM x1.s hD), x1.s.free hD, upd_same, .nil⟩
  · rintro i H' _ ⟨F', acc, x, _⟩
    exact hG H' (x.f.trans x.s)
  · rintro i v H' H'' hlt ⟨F', acc, x, j', fD, eD, l⟩ y
    obtain ⟨d, F2, h1, h2, h3⟩ := hy i H' v H'' hlt (x.f.trans x.s) y
    have hd : d ∈ items := List.mem_of_getElem? h1
    have x2 := Ext.uni x.f x.s h2
    have j2 := j.ext0 j' x2
    have h3' : Den K (uni F' F2) v d := h3.up (uni_r (x.s.trans h2.same) h2.s)
    have fD2 : uni F' F2 Dl = none := x2.n Dl fD (by rw [eD]; simp)
    have eD2 : H'' Dl = some (.lst acc) := x2.same _ _ eD
    have sF : Same F (uni F' F2) := ((s.trans x1.f).trans x.f).trans x2.f
    refine hg d hd _ H'' _ _ v _ x2.s ((EnvD.wipe E vs).up sF) h3' fun σ2 E2 hw2 => ⟨by rw [hw2, wipe_wipe], ?_⟩
    refine ht d _ _ hd sF E2 _ H'' (Same.refl _) x2.s j2 _ fun F3 H3 x3 j3 => ?_
    have fD3 : F3 Dl = none := x3.n Dl fD2 (by rw [eD2]; simp)
    have eD3 : H3 Dl = some (.lst acc) := x3.h _ _ oM eD2
    cases hp : pp d with
    | true =>
      rw [if_pos rfl]
      refine (he d _ _ hd sF E2 hp) F3 H3 x3.f x3.s j3 _ fun z F4 H4 x4 j4 d4 => ?_
      have fD4 : F4 Dl = none := x4.n Dl fD3 (by rw [eD3]; simp)
      have eD4 : H4 Dl = some (.lst acc) := x4.h _ _ oM eD3
      refine ⟨acc, eD4, ?_, F4, acc ++ [z], Ext.mutNew (((x.tl x2).trans x3).trans x4) hD fD4, j.put j4 x4.s oS fD4, fD4, upd_same, ?_⟩
      · have := l.length
        rw [List.length_map] at this
        have h5 := List.length_filter_le pp (items.take i)
        have h6 := List.length_take_le i items
        omega
      · rw [take_succ' h1, List.filter_append, List.map_append, List.filter_cons, if_pos hp]
        exact (l.up ((x2.f.trans x3.f).trans x4.f)).append (.cons d4 .nil)
    | false =>
      rw [if_neg (by decide)]
      refine ⟨F3, acc, (x.tl x2).trans x3, j3, fD3, eD3, ?_⟩
      rw [take_succ' h1, List.filter_append, List.map_append, List.filter_cons, if_neg (by rw [hp]; decide)]
      show DenL K F3 acc (_ ++ [])
      rw [List.append_nil]
      exact l.up (x2.f.trans x3.f)
  · rintro H' ⟨F', acc, x, j', fD, eD, l⟩
    rw [List.take_length] at l
    exact q _ _ _ (x1.trans (Ext.freeze x hD eD fD)) (j.fz j' x.s eD fD oS) (.lst upd_same (l.up (same_new fD)))
theorem ewt_yes (j : JOk S M J) : EwT K M J tYes σ F true := ejt_of j et_yes
theorem ew_lcY {r : List Sl} {items : List D} {f : D → D} {vs : List Nat} {wi : TI} {g : TG} (j : JOk S M J) (u : D → List Sl → List Sl) (E : EnvD K F r σ) (hi : EwI K M J wi σ F items) (hn : items.length < sizeLine) (hg : ∀ d, d ∈ items → TgW K g d (u d) vs)
    (he : ∀ d F' σ', d ∈ items → Same F F' → EnvD K F' (u d (wipeR r vs)) σ' → EwJ K M J te σ' F' (f d)) : EwJ K M J (tLc wi g tYes te vs) σ F (.lst (items.map f)) := by
  have h := ew_lcG (pp := fun _ => true) j u E hi hn hg (fun _ _ _ _ _ _ => ewt_yes j) fun d F' σ' h1 h2 h3 _ => he d F' σ' h1 h2 h3
  rwa [List.filter_eq_self.mpr (fun _ _ => rfl)] at h
/-! ### statements -/
variable {r : List Sl} {DE : Ends} {tz tb tu tw : TS} {tt : TT} {b : Bool}
theorem q_asgJ {g : TG} {u : List Sl → List Sl} (S0 : Same F H) (jj : J F H) (E : EnvD K F r σ) (h : EwJ K M J te σ F d) (t : TgD K g d u) (k : ∀ F' H' σ', Ext M F H F' H' → J F' H' → EnvD K F' (u r) σ' → tz DE σ' H') : tSeq (tAsg te g) tz DE σ H :=
  h F H (Same.refl _) S0 jj _ fun v F' H' x j' dv => t F' H' r σ v _ x.s (E.up x.f) dv fun σ' E' => k F' H' σ' x j' E'
theorem s_asgJ {g : TG} {u : List Sl → List Sl} (S0 : Same F H) (jj : J F H) (E : EnvD K F r σ) (h : EwJ K M J te σ F d) (t : TgD K g d u) (k : ∀ F' H' σ', Ext M F H F' H' → J F' H' → EnvD K F' (u r) σ' → DE.nx σ' H') : tAsg te g DE σ H :=
  h F H (Same.refl _) S0 jj _ fun v F' H' x j' dv => t F' H' r σ v _ x.s (E.up x.f) dv fun σ' E' => k F' H' σ' x j' E'
theorem s_retJ (S0 : Same F H) (jj : J F H) (h : EwJ K M J te σ F d) (k : ∀ v F' H', Ext M F H F' H' → J F' H' → Den K F' v d → DE.rt v H') : tRet te DE σ H := h F H (Same.refl _) S0 jj _ k
theorem q_ifJJ (S0 : Same F H) (jj : J F H) (h : EwT K M J tt σ F b) (h1 : b = true → ∀ F' H', Ext M F H F' H' → J F' H' → tu { DE with nx := tz DE } σ H') (h2 : b = false → ∀ F' H', Ext M F H F' H' → J F' H' → tw { DE with nx := tz DE } σ H') :
    tSeq (tIfS tt tu tw) tz DE σ H := h F H (Same.refl _) S0 jj _ fun F' H' x j' => by
  cases b with
  | true => exact h1 rfl F' H' x j'
  | false => exact h2 rfl F' H' x j'
/-- a for over what is walked; Pv: turn, frozen part, heap, frame (J stands in it, if need be) -/
theorem s_forJ (M' : List Addr) (Pv : Nat → Hp → Hp → List Sl → Prop) {items : List D} {wi : TI} {g : TG} (u : D → List Sl → List Sl) (S0 : Same F H) (E : EnvD K F r σ) (hi : ∀ R : It → Hp → Prop, (∀ I F' H', Ext M' F H F' H' → Pv 0 F' H' r → WalkD K F' I items → R I H') → wi σ H R) (hg : ∀ d, d ∈ items → TgD K g d (u d))
    (hs : ∀ i d F1 H1 F2 H2 r' σ' (N : L2.St → Hp → Prop), items[i]? = some d → Ext M' F H F1 H1 → Pv i F1 H1 r' → Ext [] F1 H1 F2 H2 → EnvD K F2 (u d r') σ' →
      (∀ F3 H3 r3 σ3, Ext M' F2 H2 F3 H3 → EnvD K F3 r3 σ3 → Pv (i + 1) F3 H3 r3 → N σ3 H3) → tb { DE with nx := N, ct := N, bk := DE.nx } σ' H2)
    (hd : ∀ F' H' r' σ', Ext M' F H F' H' → EnvD K F' r' σ' → Pv items.length F' H' r' → DE.nx σ' H') : tFor wi g tb DE σ H :=
  hi _ fun I F1 H1 x1 p0 W1 => by
    obtain ⟨G, Y, w, hG, hy⟩ := W1
    refine ⟨fun i m σ3 H3 => m = items.length - i ∧ i ≤ items.length ∧ ∃ F3 r3, Ext M' F H F3 H3 ∧ Same F1 F3 ∧ EnvD K F3 r3 σ3 ∧ Pv i F3 H3 r3, ⟨items.length, by simp, Nat.zero_le _, F1, r, x1, Same.refl _, E.up x1.f, p0⟩, ?_⟩
    rintro i m σ3 H3 ⟨rfl, hle, F3, r3, x, e, E3, p⟩
    have hG' := hG H3 (e.trans x.s)
    by_cases hlt : i < items.length
    · refine .inr ⟨w.goes i H3 hlt hG', fun σ' H' => ∃ F4 r4, Ext M' F H F4 H' ∧ Same F1 F4 ∧ EnvD K F4 r4 σ' ∧ Pv (i + 1) F4 H' r4, fun σ' H' q => ⟨items.length - (i + 1), by omega, rfl, hlt, q⟩, fun v H4 y => ?_⟩
      obtain ⟨d, F2, h1, h2, h3⟩ := hy i H3 v H4 hlt (e.trans x.s) (w.yields i H3 v H4 hlt hG' y)
      have x2 := Ext.uni e x.s h2
      have h3' : Den K (uni F3 F2) v d := h3.up (uni_r (x.s.trans h2.same) h2.s)
      refine hg d (List.mem_of_getElem? h1) _ _ _ _ _ _ x2.s (E3.up x2.f) h3' fun σ' E' => ?_
      exact hs i d F3 H3 _ H4 r3 σ' _ h1 x p x2 E' fun F5 H5 r5 σ5 x5 E5 p5 => ⟨F5, r5, (x.tl x2).trans x5, (e.trans x2.f).trans x5.f, E5, p5⟩
    · have ei : i = items.length := by omega
      subst ei
      exact .inl ⟨w.stops H3 hG', hd F3 H3 r3 σ3 x E3 p⟩
end
end Nm

set_option Elab.async false
set_option linter.all false
set_option maxRecDepth 100000
set_option maxHeartbeats 1000000
/-! Dicts with tuple keys whose values are data; the object of class Taking. -/
namespace Nm
open PySem PySem.Spec L2
abbrev NdR (K : PySem.W.Frag) (F : Hp) : (NestedKey × V) → (NestedKey × D) → Prop := fun p q => p.1 = q.1 ∧ Den K F p.2 q.2
def NDd (P : Program) (w : World) (K : PySem.W.Frag) (F H : Hp) (d : Addr) (m : List (NestedKey × D)) : Prop := ∃ mv, NDo P w K F H d mv ∧ Paired (NdR K F) mv m
section
variable {P : Program} {w : World} {K : PySem.W.Frag} {F F' H H' : Hp} {d : Addr} {m : List (NestedKey × D)} {mv : List (NestedKey × V)} {k : NestedKey} {v : V} {e : D} {σ : L2.St} {ta tb tc : TE}
theorem ndr_lk : ∀ {mv : List (NestedKey × V)} {m : List (NestedKey × D)}, Paired (NdR K F) mv m → ∀ k, (lkN mv k = none ∧ lkN m k = none) ∨ ∃ v e, lkN mv k = some v ∧ lkN m k = some e ∧ Den K F v e
  | _, _, .nil, k => .inl ⟨rfl, rfl⟩
  | p :: mv, q :: m, .cons a t, k => by
    by_cases z : p.1 = k
    · refine .inr ⟨p.2, q.2, ?_, ?_, a.2⟩
      · unfold lkN; rw [List.find?_cons, decide_eq_true z]; rfl
      · unfold lkN; rw [List.find?_cons, decide_eq_true (a.1 ▸ z)]; rfl
    · have z' : ¬ q.1 = k := fun y => z (a.1.trans y)
      have e1 : lkN (p :: mv) k = lkN mv k := by unfold lkN; rw [List.find?_cons, decide_eq_false z]
      have e2 : lkN (q :: m) k = lkN m k := by unfold lkN; rw [List.find?_cons, decide_eq_false z']
      rw [e1, e2]
      exact ndr_lk t k
theorem ndr_map {v : V} {e : D} (dv : Den K F v e) : ∀ {mv : List (NestedKey × V)} {m : List (NestedKey × D)}, Paired (NdR K F) mv m → Paired (NdR K F) (mv.map fun p => if p.1 = k then (p.1, v) else p) (m.map fun p => if p.1 = k then (p.1, e) else p)
  | _, _, .nil => .nil
  | p :: mv, q :: m, .cons a t => by
    refine .cons ?_ (ndr_map dv t)
    by_cases z : p.1 = k
    · have z' : q.1 = k := a.1 ▸ z
      dsimp only
      rw [if_pos z, if_pos z']; exact ⟨a.1, dv⟩
    · have z' : ¬ q.1 = k := fun y => z (a.1.trans y)
      dsimp only
      rw [if_neg z, if_neg z']; exact a
theorem ndr_put {mv : List (NestedKey × V)} {m : List (NestedKey × D)} (r : Paired (NdR K F) mv m) (dv : Den K F v e) : Paired (NdR K F) (putN mv k v) (putN m k e) := by
  unfold putN
  rcases ndr_lk r k with ⟨h1, h2⟩ | ⟨v', e', h1, h2, _⟩
  · rw [h1, h2]
    have app : ∀ {mv : List (NestedKey × V)} {m : List (NestedKey × D)}, Paired (NdR K F) mv m → Paired (NdR K F) (mv ++ [(k, v)]) (m ++ [(k, e)]) := by
      intro mv m r
      induction r with
      | nil => exact .cons ⟨rfl, dv⟩ .nil
      | cons a t ih => exact .cons a ih
    exact app r
  · rw [h1, h2]
    exact ndr_map dv r
theorem paired_len {α β : Type} {R : α → β → Prop} {a : List α} {b : List β} (h : Paired R a b) : a.length = b.length := Paired.length h
theorem NDd.same (g : NDd P w K F H d m) : Same F H := let ⟨_, g, _⟩ := g; ndo_sg g
theorem NDd.out (g : NDd P w K F H d m) : F d = none ∧ H d ≠ none := by
  obtain ⟨_, ⟨_, _, _, _, _, _, e⟩, _⟩ := g
  exact ⟨e.gd, by rw [e.at_]; simp⟩
theorem NDd.len (g : NDd P w K F H d m) : m.length ≤ sizeLine := by
  obtain ⟨_, ⟨_, h, _⟩, r⟩ := g
  rw [← paired_len r]; exact h
theorem keys_eq : ∀ {mv : List (NestedKey × V)} {m : List (NestedKey × D)}, Paired (NdR K F) mv m → mv.map (·.1) = m.map (·.1)
  | _, _, .nil => rfl
  | _, _, .cons a t => by rw [List.map_cons, List.map_cons, a.1, keys_eq t]
theorem nde_keys {G : Hp} {o : Obj} {es : Array DictEntry} {ep : Nat} {xs : List (NestedKey × Addr × Value)} (e : NDe P w K G H d mv o es ep xs) : (mv.map (·.1)).Nodup := by
  have : mv.map (·.1) = xs.map (·.1) := by
    have r := e.rel
    clear e
    induction r with
    | nil => rfl
    | cons a t ih => rw [List.map_cons, List.map_cons, a.1, ih]
  rw [this]; exact e.nd
theorem NDd.nodup (g : NDd P w K F H d m) : (m.map (·.1)).Nodup := by
  obtain ⟨mv, ⟨_, _, _, _, _, _, e⟩, r⟩ := g
  rw [← keys_eq r]; exact nde_keys e
theorem NDd.move (g : NDd P w K F H d m) (f : Same F F') (s : Same F' H') (e : H' d = H d) (n : F' d = none) : NDd P w K F' H' d m := by
  obtain ⟨mv, ⟨h1, h2, o, es, ep, xs, z⟩, r⟩ := g
  exact ⟨mv, ⟨h1, h2, o, es, ep, xs, ⟨e.trans z.at_, s, n, z.ex, z.dat, z.ent, z.nd, Paired.mapP z.rel fun p q a => ⟨a.1, a.2.1.up f, a.2.2⟩, z.dep⟩⟩, Paired.mapP r fun p q a => ⟨a.1, a.2.up f⟩⟩
theorem NDd.ext {M : List Addr} (g : NDd P w K F H d m) (x : Ext M F H F' H') (hd : d ∉ M) : NDd P w K F' H' d m := by
  obtain ⟨h1, h2⟩ := g.out
  refine g.move x.f x.s ?_ (x.n d h1 h2)
  cases e : H d with
  | none => exact absurd e h2
  | some o => exact x.h d o hd e
variable {tu tw tz : TS} {DE : Ends}
/-- if k not in d: .. -/
theorem q_notinN (g : NDd P w K F H d m) (ha : EvD K ta σ F (keyN k)) (hk : ∃ ks, k = .tup ks) (hd : k.depth ≤ 8) (hb : ∀ H', Same H H' → At tb σ H' (.ref d))
    (h1 : ∀ F' H', Ext [] F H F' H' → lkN m k = none → tu { DE with nx := tz DE } σ H') (h2 : ∀ F' H' e, Ext [] F H F' H' → lkN m k = some e → tw { DE with nx := tz DE } σ H') :
    tSeq (tIfS (tTest (tOp (rNotInN P w K) ta tb)) tu tw) tz DE σ H := ha H g.same _ fun x F1 H1 x1 dx => hb H1 x1.same _ (by
  obtain ⟨mv, go, r⟩ := g.ext x1 (by simp)
  refine ⟨F1, d, mv, k, rfl, go, dx, hk, hd, _, rfl, ?_⟩
  rcases ndr_lk r k with ⟨q1, q2⟩ | ⟨v, e, q1, q2, _⟩
  · rw [q1]; exact h1 F1 H1 x1 q2
  · rw [q1]; exact h2 F1 H1 e x1 q2)
/-- return d[k] -/
theorem s_retIxN (g : NDd P w K F H d m) (ha : EvD K ta σ F (keyN k)) (hk : ∃ ks, k = .tup ks) (hd : k.depth ≤ 8) (hb : At tb σ H (.ref d)) (hl : lkN m k = some e) (h : ∀ v F' H', Ext [] F H F' H' → Den K F' v e → DE.rt v H') :
    tRet (tOp (rIxN P w K) tb ta) DE σ H := hb _ (ha H g.same _ fun x F1 H1 x1 dx => by
  obtain ⟨mv, go, r⟩ := g.ext x1 (by simp)
  rcases ndr_lk r k with ⟨q1, q2⟩ | ⟨v, e', q1, q2, dv⟩
  · rw [hl] at q2; cases q2
  · rw [hl] at q2; cases q2
    exact ⟨F1, d, mv, k, v, rfl, go, dx, hk, hd, q1, h v F1 H1 x1 dv⟩)
/-- d[k] = e -/
theorem nput_rest {Q : Hp → Prop} (g : NDd P w K F H d m) (hn : m.length < sizeLine) (dv : Den K F v e) (hd : At tb σ H (.ref d)) (ha : EvD K ta σ F (keyN k)) (hk : ∃ ks, k = .tup ks) (hdp : k.depth ≤ 8)
    (q : ∀ F' H', Ext [d] F H F' H' → NDd P w K F' H' d (putN m k e) → Q H') :
    tb σ H fun x H2 => ta σ H2 fun y H3 => ∃ G d m k, x = .ref d ∧ NDo P w K G H3 d m ∧ m.length < sizeLine ∧ Den K G y (keyN k) ∧ (∃ ks, k = .tup ks) ∧ k.depth ≤ 8 ∧ ∀ o, NDo P w K G (upd H3 d (exO (d, o))) d (putN m k v) → Q (upd H3 d (exO (d, o))) :=
  hd _ (ha H g.same _ fun y F1 H1 x1 dy => by
    obtain ⟨mv, go, r⟩ := g.ext x1 (by simp)
    refine ⟨F1, d, mv, k, rfl, go, by rw [paired_len r]; exact hn, dy, hk, hdp, fun o go' => q F1 _ ?_ ⟨_, go', ndr_put r (dv.up x1.f)⟩⟩
    obtain ⟨_, _, o1, _, _, _, z⟩ := go
    exact (x1.wide (by simp)).trans (Own.set ⟨z.gd, z.at_⟩ x1.s))
theorem s_nput {M : List Addr} {J : Hp → Hp → Prop} {tv : TE} (S0 : Same F H) (jj : J F H) (hv : EwJ K M J tv σ F e)
    (h : ∀ v F1 H1, Ext M F H F1 H1 → J F1 H1 → Den K F1 v e → tb σ H1 fun x H2 => ta σ H2 fun y H3 => ∃ G d m k, x = .ref d ∧ NDo P w K G H3 d m ∧ m.length < sizeLine ∧ Den K G y (keyN k) ∧ (∃ ks, k = .tup ks) ∧ k.depth ≤ 8 ∧ ∀ o, NDo P w K G (upd H3 d (exO (d, o))) d (putN m k v) → DE.nx σ (upd H3 d (exO (d, o)))) :
    sNPut P w K tb ta tv DE σ H := hv F H (Same.refl _) S0 jj _ fun v F1 H1 x1 j1 dv => h v F1 H1 x1 j1 dv
theorem lkN_put {α : Type} {m : List (NestedKey × α)} {k k' : NestedKey} {a : α} : lkN (putN m k a) k' = if k' = k then some a else lkN m k' := by
  unfold putN
  have hm : ∀ m : List (NestedKey × α), lkN (m.map fun p => if p.1 = k then (p.1, a) else p) k' = if k' = k then (lkN m k).map fun _ => a else lkN m k' := by
    intro m
    induction m with
    | nil => unfold lkN; simp
    | cons p m ih =>
      have st : ∀ (q : NestedKey × α) (l : List (NestedKey × α)) (k0 : NestedKey), lkN (q :: l) k0 = if q.1 = k0 then some q.2 else lkN l k0 := fun q l k0 => by
        unfold lkN; rw [List.find?_cons]
        by_cases z : q.1 = k0
        · rw [decide_eq_true z, if_pos z]; rfl
        · rw [decide_eq_false z, if_neg z]
      rw [List.map_cons, st, ih, st p m k, st p m k']
      by_cases z : p.1 = k
      · rw [if_pos z, if_pos z]
        show (if p.1 = k' then some a else _) = _
        by_cases y : p.1 = k'
        · rw [if_pos y, if_pos (y.symm.trans z), Option.map_some]
        · rw [if_neg y, if_neg y]
          have : ¬ k' = k := fun x => y (z.trans x.symm)
          rw [if_neg this, if_neg this]
      · rw [if_neg z, if_neg z]
        by_cases y : p.1 = k'
        · rw [if_pos y, if_pos y]
          have : ¬ k' = k := fun x => z (y.trans x)
          rw [if_neg this]
        · rw [if_neg y, if_neg y]
  have ha : ∀ m : List (NestedKey × α), lkN m k = none → lkN (m ++ [(k, a)]) k' = if k' = k then some a else lkN m k' := by
    intro m hn
    unfold lkN at hn ⊢
    rw [List.find?_append]
    by_cases z : k' = k
    · subst z
      have : m.find? (fun p => decide (p.1 = k')) = none := by
        cases e : m.find? (fun p => decide (p.1 = k')) with
        | none => rfl
        | some q => rw [e] at hn; cases hn
      rw [this, if_pos rfl]
      simp
    · rw [if_neg z]
      cases e : m.find? (fun p => decide (p.1 = k')) with
      | some q => rfl
      | none =>
        have z2 : ¬ k = k' := fun y => z y.symm
        simp [z2]
  by_cases h : (lkN m k).isSome
  · rw [if_pos h, hm]
    obtain ⟨b, hb⟩ := Option.isSome_iff_exists.mp h
    rw [hb]; rfl
  · rw [if_neg h]
    exact ha m (by cases e : lkN m k with
      | none => rfl
      | some b => rw [e] at h; exact absurd rfl h)
theorem lkN_mem {α : Type} {m : List (NestedKey × α)} {k : NestedKey} {a : α} (h : lkN m k = some a) : (k, a) ∈ m := by
  unfold lkN at h
  obtain ⟨q, h1, h2⟩ := Option.map_eq_some_iff.mp h
  have := List.find?_some h1
  have e : q.1 = k := by simpa using this
  have := List.mem_of_find?_eq_some h1
  rw [← e, ← h2]; exact this
theorem putN_mem {α : Type} {m : List (NestedKey × α)} {k : NestedKey} {a : α} {p : NestedKey × α} (h : p ∈ putN m k a) : p = (k, a) ∨ p ∈ m := by
  unfold putN at h
  split at h
  · obtain ⟨q, hq, e⟩ := List.mem_map.mp h
    split at e
    · rename_i z; rw [← e, z]; exact .inl rfl
    · rw [← e]; exact .inr hq
  · rcases List.mem_append.mp h with h | h
    · exact .inr h
    · exact .inl (List.mem_singleton.mp h)
end
end Nm

set_option Elab.async false
set_option linter.all false
set_option maxRecDepth 100000
set_option maxHeartbeats 1000000
/-! What an object of class Taking holds; what its methods are to give. -/
namespace Nm
open PySem PySem.Spec L2
abbrev Sta := Nat × Nat × Nat × Nat
def stN : Sta → NestedKey := fun s => .tup [.num (s.1 : Nat), .num (s.2.1 : Nat), .num (s.2.2.1 : Nat), .num (s.2.2.2 : Nat)]
def stD (s : Sta) : D := .tup [.int (s.1 : Nat), .int (s.2.1 : Nat), .int (s.2.2.1 : Nat), .int (s.2.2.2 : Nat)]
theorem stD_key (s : Sta) : keyN (stN s) = stD s := by simp [stN, stD, keyN, keyN.keyDs]
theorem stN_inj {a b : Sta} (h : stN a = stN b) : a = b := by
  obtain ⟨a1, a2, a3, a4⟩ := a
  obtain ⟨b1, b2, b3, b4⟩ := b
  simp [stN] at h
  obtain ⟨h1, h2, h3, h4⟩ := h
  have e1 : a1 = b1 := by omega
  have e2 : a2 = b2 := by omega
  have e3 : a3 = b3 := by omega
  have e4 : a4 = b4 := by omega
  rw [e1, e2, e3, e4]
/-- the run of marks at an index of a key -/
def runF (ma : Ma) (key : List Nat) (at_ : Nat) : List Nat := (key.drop at_).takeWhile fun c => (lk ma c).isSome
def queuesF (ma : Ma) (key : List Nat) (at_ : Nat) : List (List Nat) := [1, 2, 3].map fun k => (runF ma key at_).filter fun m => decide (lk ma m = some k)
/-- after_sign -/
def afterF (ma : Ma) (key : List Nat) (s : Sta) (c : Nat) : Option Sta :=
  match lk ma c with
  | none => if (s.2.1 = 0 ∧ s.2.2.1 = 0 ∧ s.2.2.2 = 0) ∧ key[s.1]? = some c then some (s.1 + 1, 0, 0, 0) else none
  | some k =>
    let qs := queuesF ma key s.1
    let tk := [s.2.1, s.2.2.1, s.2.2.2]
    if (qs.getD (k - 1) [])[tk.getD (k - 1) 0]? = some c then
      let tk' := tk.set (k - 1) (tk.getD (k - 1) 0 + 1)
      if tk'.sum = (qs.map (·.length)).sum then some (s.1 + tk'.sum, 0, 0, 0) else some (s.1, tk'.getD 0 0, tk'.getD 1 0, tk'.getD 2 0)
    else none
structure TkP where
  dk : Addr
  de : Addr
  fo : Fo
  ma : Ma
  key : List Nat
  sts : List Sta
def awW (ma : Ma) (key : List Nat) (o : Option Sta) (l : List Nat) : Option Sta := l.foldl (fun o c => o.bind fun s => afterF ma key s c) o
def one1 (c : Nat) : Str := ⟨#[c]⟩
def sgs (fo : Fo) (key : List Nat) : List Nat := (setS ((key ++ fo.map (·.1)).map one1)).map fun s => s.cps.toList.headD 0
theorem sgs_str (fo : Fo) (key : List Nat) : (setS ((key ++ fo.map (·.1)).map one1)).map D.str = chs (sgs fo key) := by
  unfold sgs chs
  rw [List.map_map]
  refine List.map_congr_left fun s hs => ?_
  rw [setS_mem] at hs
  obtain ⟨c, _, rfl⟩ := List.mem_map.mp hs
  rfl
theorem sgs_mem {fo : Fo} {key : List Nat} {c : Nat} : c ∈ sgs fo key ↔ c ∈ key ∨ c ∈ fo.map (·.1) := by
  unfold sgs
  rw [List.mem_map]
  constructor
  · rintro ⟨s, hs, rfl⟩
    rw [setS_mem] at hs
    obtain ⟨c, hc, rfl⟩ := List.mem_map.mp hs
    exact List.mem_append.mp hc
  · intro h
    refine ⟨one1 c, ?_, rfl⟩
    rw [setS_mem]
    exact List.mem_map.mpr ⟨c, List.mem_append.mpr h, rfl⟩
/-- the states behind a sign, each by itself -/
def stpO (fo : Fo) (ma : Ma) (key : List Nat) (s : Sta) : List (Nat × Option Sta) := (sgs fo key).map fun c => (c, awW ma key (some s) ((lk fo c).getD [c]))
def stp (fo : Fo) (ma : Ma) (key : List Nat) (s : Sta) : List (Nat × Sta) := (stpO fo ma key s).filterMap fun p => p.2.map fun t => (p.1, t)
def finF (key : List Nat) (s : Sta) : Bool := decide (s = (key.length, 0, 0, 0))
def ceF (fo : Fo) (ma : Ma) (key : List Nat) : Nat → Sta → Bool
  | 0, s => finF key s
  | n + 1, s => (stp fo ma key s).any fun p => ceF fo ma key n p.2
def oD : Option Sta → D
  | none => .non
  | some s => stD s
def prD (p : Nat × Sta) : D := .tup [.str (one1 p.1), stD p.2]
def stpD (l : List (Nat × Sta)) : D := .lst (l.map prD)
structure TkOk (T : TkP) : Prop where
  kz : T.key.length ≤ 1000
  fz : T.key.length + T.fo.length < 4000
  wz : ∀ p ∈ T.fo, p.2.length ≤ 1000
  sz : T.sts.length * 50 ≤ 16000000
  cl : ∀ s ∈ T.sts, ∀ c t, afterF T.ma T.key s c = some t → t ∈ T.sts
  b0 : (0, 0, 0, 0) ∈ T.sts
/-- the object itself never changes: it is a datum, its two dicts are told by their places -/
def tkD (C : Addr) (T : TkP) : D := .obj C [("fold_words", foD T.fo), ("mark_classes", maD T.ma), ("key", txt T.key), ("known", .cls T.dk), ("ends", .cls T.de)]
section
variable {P : Program} {w : World} {K : PySem.W.Frag}
structure TakAt (P : Program) (w : World) (K : PySem.W.Frag) (T : TkP) (F H : Hp) : Prop where
  ok : TkOk T
  kn : ∃ m, NDd P w K F H T.dk m ∧ ∀ p ∈ m, ∃ s ∈ T.sts, p.1 = stN s ∧ p.2 = stpD (stp T.fo T.ma T.key s)
  en : ∃ m, NDd P w K F H T.de m ∧ ∀ p ∈ m, ∃ s ∈ T.sts, ∃ n : Nat, n < 45 ∧ p.1 = .tup [stN s, .num (n : Nat)] ∧ p.2 = .bl (ceF T.fo T.ma T.key n s)
  ne : T.dk ≠ T.de
variable {C : Addr} {T : TkP} {F H F' H' : Hp} {σ : L2.St} {r : List Sl} {i : Nat}
theorem TakAt.same (t : TakAt P w K T F H) : Same F H := by obtain ⟨_, g, _⟩ := t.kn; exact g.same
def tkS (T : TkP) : List Addr := [T.dk, T.de]
theorem takJ {M : List Addr} (hM : ∀ a ∈ M, a ∈ tkS T) : JOk (tkS T) M (TakAt P w K T) where
  mem := fun F H t a ha => by
    rcases List.mem_cons.mp ha with rfl | ha
    · obtain ⟨_, g, _⟩ := t.kn; exact g.out
    · rcases List.mem_cons.mp ha with rfl | ha
      · obtain ⟨_, g, _⟩ := t.en; exact g.out
      · cases ha
  mv := fun F H F' H' t f s e n => by
    obtain ⟨m, g, p⟩ := t.kn
    obtain ⟨m', g', p'⟩ := t.en
    have hk : T.dk ∈ tkS T := List.mem_cons_self
    have he : T.de ∈ tkS T := List.mem_cons_of_mem _ List.mem_cons_self
    exact ⟨t.ok, ⟨m, g.move f s (e _ hk) (n _ hk), p⟩, ⟨m', g'.move f s (e _ he) (n _ he), p'⟩, t.ne⟩
  sub := hM
theorem takJ0 : JOk (tkS T) [] (TakAt P w K T) := takJ (fun a h => by cases h)
theorem takJk : JOk (tkS T) [T.dk] (TakAt P w K T) := takJ (fun a h => by rw [List.mem_singleton.mp h]; simp [tkS])
theorem takJe : JOk (tkS T) [T.dk, T.de] (TakAt P w K T) := takJ (fun a h => h)
/-- its fields -/
theorem ev_self {f : Str} {d : D} (c : Cls K C) (n : NoAttr K C f) (E : EnvD K F r σ) (hi : r[i]? = some (.d (tkD C T))) (hl : List.lookup f [(("fold_words" : Str), foD T.fo), ("mark_classes", maD T.ma), ("key", txt T.key), ("known", .cls T.dk), ("ends", .cls T.de)] = some d) : EvD K (tFld K (tVar i) f) σ F d :=
  ev_fld c n (ev_var E hi) hl
theorem DenF.lookN : ∀ {fs : List (Str × V)} {gs : List (Str × D)} {f : Str}, DenF K F fs gs → gs.lookup f = none → fs.lookup f = none
  | _, _, _, .nil, _ => rfl
  | _, _, f, .cons (k := k) h t, hl => by
    by_cases z : f = k
    · subst z
      simp [List.lookup] at hl
    · have zb : (f == k) = false := by simpa using z
      simp only [List.lookup, zb] at hl ⊢
      exact DenF.lookN t hl
theorem at_fldC {f : Str} {a : Addr} (c : Cls K C) (n : NoAttr K C f) (E : EnvD K F r σ) (hi : r[i]? = some (.d (tkD C T))) (hl : List.lookup f [(("fold_words" : Str), foD T.fo), ("mark_classes", maD T.ma), ("key", txt T.key), ("known", .cls T.dk), ("ends", .cls T.de)] = some (.cls a)) (s : Same F H) : At (tFld K (tVar i) f) σ H (.ref a) := fun Q q => by
  obtain ⟨o, h1, v, rfl, dv⟩ := E.get hi
  refine ⟨v, h1, ?_⟩
  cases dv with
  | obj a l =>
    obtain ⟨w, h1, h2⟩ := l.look hl
    cases h2
    exact ⟨_, C, _, _, _, rfl, s _ _ a, c, n, h1, q⟩
theorem at_known (c : Cls K C) (n : NoAttr K C "known") (E : EnvD K F r σ) (hi : r[i]? = some (.d (tkD C T))) (s : Same F H) : At (tFld K (tVar i) "known") σ H (.ref T.dk) := at_fldC c n E hi rfl s
theorem at_ends (c : Cls K C) (n : NoAttr K C "ends") (E : EnvD K F r σ) (hi : r[i]? = some (.d (tkD C T))) (s : Same F H) : At (tFld K (tVar i) "ends") σ H (.ref T.de) := at_fldC c n E hi rfl s
theorem no_meth {m : Str} {vf vm vk va vb : D} (h : m ∈ (["after_sign", "after_word", "steps", "is_end", "counts", "can_end", "words"] : List Str)) : List.lookup m [(("fold_words" : Str), vf), ("mark_classes", vm), ("key", vk), ("known", va), ("ends", vb)] = none := by
  have hh : ∀ m ∈ (["after_sign", "after_word", "steps", "is_end", "counts", "can_end", "words"] : List Str), (m == ("fold_words" : Str)) = false ∧ (m == ("mark_classes" : Str)) = false ∧ (m == ("key" : Str)) = false ∧ (m == ("known" : Str)) = false ∧ (m == ("ends" : Str)) = false := by decide +kernel
  obtain ⟨h1, h2, h3, h4, h5⟩ := hh m h
  simp only [List.lookup, h1, h2, h3, h4, h5]
/-- o.m(..), a pure method -/
theorem ev_meth {n : Nat} {m : Str} {R : List D → D → Prop} {E0' : XK} {te : TE} {ta : TA} {ds : List D} {d : D} {gs : List (Str × D)} (ho : EvD K te σ F (.obj C gs)) (hm : gs.lookup m = none) (ha : EvA K ta σ F ds) (hR : R (.obj C gs :: ds) d) (hn : ds.length + 1 = n) : EvD K (tMeth C m (spR K n R) [] E0' te ta) σ F d := fun H s Q q =>
  ho H s _ fun v F1 H1 x1 dv => by
    cases dv with
    | obj a l =>
      refine ⟨_, _, _, rfl, x1.s _ _ a, l.lookN hm, ha.up x1.f H1 x1.s _ fun vs F2 H2 x2 l2 => ?_⟩
      rw [List.append_nil]
      exact ⟨F2, _, d, x2.s, .cons (.obj (x2.f _ _ a) (DenF.mono x2.f _ l)) l2, hR, hn, fun v F3 H3 x3 d3 => q v F3 H3 ((x1.tr x2).tr x3) d3⟩
/-- what a method promises that fills the dicts -/
def spTk (P : Program) (w : World) (K : PySem.W.Frag) (C : Addr) (n : Nat) (M : TkP → List Addr) (R : TkP → List D → D → Prop) : Sp := fun vs H Q _ => ∃ T F ds d, TakAt P w K T F H ∧ DenL K F vs (tkD C T :: ds) ∧ R T ds d ∧ ds.length = n ∧
  ∀ v F' H', Ext (M T) F H F' H' → TakAt P w K T F' H' → Den K F' v d → Q v H'
theorem spTk_len {n : Nat} {M : TkP → List Addr} {R : TkP → List D → D → Prop} {vs : List V} {Q : VK} {E : XK} (h : spTk P w K C n M R vs H Q E) : vs.length = n + 1 := by
  obtain ⟨T, F, ds, d, _, l, _, e, _⟩ := h
  rw [l.length, List.length_cons, e]
theorem ej_meth {n : Nat} {m : Str} {M : List Addr} {Mf : TkP → List Addr} {R : TkP → List D → D → Prop} {E0' : XK} {te : TE} {ta : TA} {ds : List D} {d : D} (hm : m ∈ (["after_sign", "after_word", "steps", "is_end", "counts", "can_end", "words"] : List Str)) (hM : ∀ a ∈ Mf T, a ∈ M)
    (ho : EvD K te σ F (tkD C T)) (j : JOk (tkS T) M (TakAt P w K T)) (ha : EwA K M (TakAt P w K T) ta σ F ds) (hR : R T ds d) (hn : ds.length = n) : EwJ K M (TakAt P w K T) (tMeth C m (spTk P w K C n Mf R) [] E0' te ta) σ F d := fun F1 H s s1 t Q q =>
  ho.up s H s1 _ fun v F2 H2 x2 dv => by
    have t2 := j.ext0 t x2
    cases dv with
    | obj a l =>
      refine ⟨_, _, _, rfl, x2.s _ _ a, l.lookN (no_meth hm), ha F2 H2 (s.trans x2.f) x2.s t2 _ fun vs F3 H3 x3 t3 l3 => ?_⟩
      rw [List.append_nil]
      exact ⟨T, F3, ds, d, t3, .cons (.obj (x3.f _ _ a) (DenF.mono x3.f _ l)) l3, hR, hn, fun v F4 H4 x4 t4 d4 => q v F4 H4 ((x2.tr x3).trans (x4.wide hM)) t4 d4⟩
end
/-! ### a, *b = tuple -/
section
variable {K : PySem.W.Frag} {F H : Hp} {σ : L2.St} {r : List Sl} {te : TE} {d : D} {ds : List D} {tz : TS} {DE : Ends}
theorem q_star {i j : Nat} (S0 : Same F H) (E : EnvD K F r σ) (h : EvD K te σ F (.tup (d :: ds))) (hl : ds.length ≤ 1000) (k : ∀ F' H' σ' p xs, H p = none → Ext [] F H F' H' → Own F' H' p (.lst xs) → DenL K F' xs ds → EnvD K F' ((r.set i (.d d)).set j (.v (.ref p))) σ' → tz DE σ' H') :
    tSeq (tAsg te (gStar2 K (gCons (gName i) (gCons (gName j) gNil)))) tz DE σ H := h H S0 _ fun v F1 H1 x1 dv => by
  cases dv with
  | tup a l =>
    cases l with
    | cons dx l =>
      refine ⟨_, _, _, rfl, same_t x1.s a, by rw [l.length]; exact hl, fun p hp => ?_⟩
      refine ⟨_, _, rfl, _, _, rfl, rfl, k F1 _ _ p _ (x1.back hp) (x1.tr (Ext.newM x1.s hp)) ⟨x1.s.free hp, upd_same⟩ l (EnvD.set j (EnvD.set i (E.up x1.f) ⟨_, rfl, dx⟩) rfl)⟩
/-- a slot that holds an object's place holds the datum behind it -/
theorem slot_to {v : V} : ∀ {r : List Sl} {σ : L2.St} {i : Nat}, EnvD K F r σ → r[i]? = some (.v v) → Den K F v d → EnvD K F (r.set i (.d d)) σ
  | _, _, _, .nil, h, _ => by simp at h
  | _, _, 0, .cons a t, h, dv => by simp at h; subst h; exact .cons ⟨v, a, dv⟩ t
  | _, _, i + 1, .cons a t, h, dv => .cons a (slot_to (i := i) t (by simpa using h) dv)
theorem rc_anyI {ns : List Int} : RcD K (rAnyI K) [.lst (ns.map D.int)] (.bl (ns.any fun i => i != 0)) := fun F H xs s hx Q q => by
  cases hx with
  | cons a t =>
    cases t
    cases a with
    | lst r l =>
      have := denL_ints l
      subst this
      exact ⟨_, ns, rfl, SqL.of (s _ _ r), q _ F H (Ext.refl s) (.bl _)⟩
end
section
variable {K : PySem.W.Frag}
theorem rv_notN {d : D} {b : Bool} (hb : (match d with | .non => false | _ => true) = b) : RvD K rNotNone d .non (.bl b) := fun F H x y s hx hy Q q => by
  cases hy
  subst hb
  refine ⟨rfl, ?_⟩
  cases hx <;> exact q _ F H (Ext.refl s) (.bl _)
theorem sta_shaped (s : Sta) : SeqAt.shaped (toPy (stD s)) = true := by
  unfold SeqAt.shaped stD
  simp [toPy, toPyL, PyData.canLay0, PyData.canLayAll0, PyData.depth, PyData.depthAll]
theorem sta_eqv (s t : Sta) : PyData.eqv (toPy (stD s)) (toPy (stD t)) = decide (s = t) := by
  obtain ⟨a, b, c, d⟩ := s
  obtain ⟨a', b', c', d'⟩ := t
  have e : ∀ i j : Nat, ((i : Int) == (j : Int)) = decide (i = j) := fun i j => by
    by_cases h : i = j
    · subst h; simp
    · have : (i : Int) ≠ j := by omega
      rw [decide_eq_false h]; exact beq_eq_false_iff_ne.mpr this
  unfold stD
  simp only [toPy, toPyL, PyData.eqv, PyData.eqvAll, e]
  by_cases h1 : a = a' <;> by_cases h2 : b = b' <;> by_cases h3 : c = c' <;> by_cases h4 : d = d' <;> simp [h1, h2, h3, h4]
theorem rv_eq_sta {s t : Sta} : RvD K (rEqA K) (stD s) (stD t) (.bl (decide (s = t))) := fun F H x y S hx hy Q q => by
  refine .inr ⟨_, _, den_dp S _ hx rfl, den_dp S _ hy rfl, sta_shaped s, sta_shaped t, ?_⟩
  rw [sta_eqv]
  exact q _ F H (Ext.refl S) (.bl _)
end
end Nm

set_option Elab.async false
set_option linter.all false
set_option maxRecDepth 100000
set_option maxHeartbeats 1000000
/-! The dicts of class Taking are filled; stars in displays. -/
namespace Nm
open PySem PySem.Spec L2
theorem nodup_le {α : Type} [DecidableEq α] : ∀ {l m : List α}, l.Nodup → (∀ z ∈ l, z ∈ m) → l.length ≤ m.length
  | [], _, _, _ => Nat.zero_le _
  | x :: l, m, nd, hs => by
    rw [List.nodup_cons] at nd
    have p := List.perm_cons_erase (hs x List.mem_cons_self)
    have len := p.length_eq
    rw [List.length_cons] at len ⊢
    have := nodup_le (m := m.erase x) nd.2 fun z hz => (List.mem_erase_of_ne (fun e : z = x => nd.1 (e ▸ hz))).mpr (hs z (List.mem_cons_of_mem _ hz))
    omega
section
variable {P : Program} {w : World} {K : PySem.W.Frag} {T : TkP} {F F' H H' : Hp} {σ : L2.St} {m : List (NestedKey × D)}
theorem kn_len (t : TakAt P w K T F H) (g : NDd P w K F H T.dk m) (h : ∀ p ∈ m, ∃ s ∈ T.sts, p.1 = stN s ∧ p.2 = stpD (stp T.fo T.ma T.key s)) : m.length < sizeLine := by
  have h1 : (m.map (·.1)).length ≤ (T.sts.map stN).length := nodup_le g.nodup fun z hz => by
    obtain ⟨p, hp, rfl⟩ := List.mem_map.mp hz
    obtain ⟨s, hs, e, _⟩ := h p hp
    exact List.mem_map.mpr ⟨s, hs, e.symm⟩
  rw [List.length_map, List.length_map] at h1
  have := t.ok.sz
  rw [sizeLine_eq]; omega
theorem en_len (t : TakAt P w K T F H) (g : NDd P w K F H T.de m) (h : ∀ p ∈ m, ∃ s ∈ T.sts, ∃ n : Nat, n < 45 ∧ p.1 = .tup [stN s, .num (n : Nat)] ∧ p.2 = .bl (ceF T.fo T.ma T.key n s)) : m.length < sizeLine := by
  have h1 : (m.map (·.1)).length ≤ (T.sts.flatMap fun s => (List.range 45).map fun n : Nat => NestedKey.tup [stN s, .num (n : Nat)]).length := nodup_le g.nodup fun z hz => by
    obtain ⟨p, hp, rfl⟩ := List.mem_map.mp hz
    obtain ⟨s, hs, n, hn, e, _⟩ := h p hp
    exact List.mem_flatMap.mpr ⟨s, hs, List.mem_map.mpr ⟨n, List.mem_range.mpr hn, e.symm⟩⟩
  have h2 : ∀ l : List Sta, (l.flatMap fun s => (List.range 45).map fun n : Nat => NestedKey.tup [stN s, .num (n : Nat)]).length = l.length * 45 := by
    intro l
    induction l with
    | nil => rfl
    | cons a l ih => rw [List.flatMap_cons, List.length_append, ih, List.length_map, List.length_range, List.length_cons]; omega
  rw [List.length_map, h2] at h1
  have := t.ok.sz
  rw [sizeLine_eq]; omega
theorem tak_known {s : Sta} (t : TakAt P w K T F H) (hs : s ∈ T.sts) (gm : ∀ p ∈ m, ∃ s ∈ T.sts, p.1 = stN s ∧ p.2 = stpD (stp T.fo T.ma T.key s)) (x : Ext [T.dk] F H F' H') (g : NDd P w K F' H' T.dk (putN m (stN s) (stpD (stp T.fo T.ma T.key s)))) : TakAt P w K T F' H' := by
  obtain ⟨m', g', p'⟩ := t.en
  refine ⟨t.ok, ⟨_, g, fun p hp => ?_⟩, ⟨m', g'.ext x (by simpa using t.ne.symm), p'⟩, t.ne⟩
  rcases putN_mem hp with rfl | hp
  · exact ⟨s, hs, rfl, rfl⟩
  · exact gm p hp
theorem tak_ends {s : Sta} {n : Nat} (t : TakAt P w K T F H) (hs : s ∈ T.sts) (hn : n < 45) (gm : ∀ p ∈ m, ∃ s ∈ T.sts, ∃ n : Nat, n < 45 ∧ p.1 = .tup [stN s, .num (n : Nat)] ∧ p.2 = .bl (ceF T.fo T.ma T.key n s)) (x : Ext [T.de] F H F' H') (g : NDd P w K F' H' T.de (putN m (.tup [stN s, .num (n : Nat)]) (.bl (ceF T.fo T.ma T.key n s)))) : TakAt P w K T F' H' := by
  obtain ⟨m', g', p'⟩ := t.kn
  refine ⟨t.ok, ⟨m', g'.ext x (by simpa using t.ne), p'⟩, ⟨_, g, fun p hp => ?_⟩, t.ne⟩
  rcases putN_mem hp with rfl | hp
  · exact ⟨s, hs, n, hn, rfl, rfl⟩
  · exact gm p hp
theorem ea_starT {te : TE} {tr : TA} {l : List Nat} {ds : List D} (h : EvD K te σ F (txt l)) (hz : l.length ≤ 16777216) (hr : EvA K tr σ F ds) : EvA K (tStarT te tr) σ F (chs l ++ ds) := fun H s Q q => h H s _ fun v F1 H1 x1 dv => by
  cases dv
  refine ⟨_, rfl, by rw [txt_len, sizeLine_eq]; exact hz, hr.up x1.f H1 x1.s _ fun vs F2 H2 x2 l2 => q _ F2 H2 (x1.tr x2) ?_⟩
  have : DenL K F2 ((sgns ⟨l.toArray⟩).map V.str) (chs l) := by
    unfold sgns chs
    rw [List.map_map]
    have : ∀ l : List Nat, DenL K F2 (l.map fun c => V.str ⟨#[c]⟩) (l.map fun c => D.str ⟨#[c]⟩) := by
      intro l
      induction l with
      | nil => exact .nil
      | cons a l ih => exact .cons (.str _) ih
    exact this l
  exact this.append l2
theorem stN_depth (s : Sta) : (stN s).depth ≤ 8 := by simp [stN, NestedKey.depth, NestedKey.depthAll]
theorem enN_depth (s : Sta) (n : Int) : (NestedKey.tup [stN s, .num n]).depth ≤ 8 := by simp [stN, NestedKey.depth, NestedKey.depthAll]
theorem enD_key (s : Sta) (n : Int) : keyN (.tup [stN s, .num n]) = .tup [stD s, .int n] := by simp [stN, stD, keyN, keyN.keyDs]
end
end Nm

set_option Elab.async false
set_option linter.all false
set_option maxRecDepth 100000
set_option maxHeartbeats 1000000
/-! A dict with tuple keys that is not written any more: its items are walked. Levels. -/
namespace Nm
open PySem PySem.Spec L2
/-- the dict at d is frozen -/
def NDz (P : Program) (w : World) (K : PySem.W.Frag) (F : Hp) (d : Addr) (m : List (NestedKey × D)) : Prop := (d == sysModules) = false ∧ m.length ≤ sizeLine ∧ ∃ G o es ep xs mv, NDe P w K G F d mv o es ep xs ∧ Paired (NdR K F) mv m
section
variable {P : Program} {w : World} {K : PySem.W.Frag} {F F' F1 H H' H1 : Hp} {d : Addr} {m : List (NestedKey × D)} {σ : L2.St} {te : TE}
theorem NDz.up (z : NDz P w K F d m) (s : Same F F') : NDz P w K F' d m := by
  obtain ⟨h1, h2, G, o, es, ep, xs, mv, e, r⟩ := z
  exact ⟨h1, h2, G, o, es, ep, xs, mv, ⟨s _ _ e.at_, e.sg.trans s, e.gd, e.ex, e.dat, e.ent, e.nd, e.rel, e.dep⟩, Paired.mapP r fun p q a => ⟨a.1, a.2.up s⟩⟩
/-- a dict of one's own is frozen -/
theorem NDd.fz {M : List Addr} (g : NDd P w K F1 H1 d m) (x : Ext M F H F1 H1) (h : H d = none) : ∃ F2, Same F1 F2 ∧ Ext M F H F2 H1 ∧ NDz P w K F2 d m ∧ ∀ a, a ≠ d → F2 a = F1 a := by
  obtain ⟨mv, ⟨h1, h2, o, es, ep, xs, z⟩, r⟩ := g
  refine ⟨upd F1 d (exO (d, o)), same_new z.gd, Ext.freeze x h z.at_ z.gd, ⟨h1, by rw [← paired_len r]; exact h2, F1, o, es, ep, xs, mv, ⟨upd_same, same_new z.gd, z.gd, z.ex, z.dat, z.ent, z.nd, z.rel, z.dep⟩, Paired.mapP r fun p q a => ⟨a.1, a.2.up (same_new z.gd)⟩⟩, fun a ha => upd_ne ha⟩
theorem ei_itemsN (z : NDz P w K F d m) (h : EvD K te σ F (.cls d)) : EvI K (iItemsN P w K te) σ F (m.map fun p => .tup [keyN p.1, p.2]) := fun H s R q => h H s _ fun v F1 H1 x1 dv => by
  cases dv
  obtain ⟨h1, h2, G, o, es, ep, xs, mv, e, r⟩ := z.up x1.f
  have e1 : NDe P w K G H1 d mv o es ep xs := ⟨x1.s _ _ e.at_, e.sg.trans x1.s, e.gd, e.ex, e.dat, e.ent, e.nd, e.rel, e.dep⟩
  refine ⟨G, d, mv, rfl, ⟨h1, by rw [paired_len r]; exact h2, o, es, ep, xs, e1⟩, fun o' es' ep' xs' e2 => q _ F1 H1 x1 ?_⟩
  have eo : F1 d = some (exO (d, o')) := by rw [e.at_, ← e1.at_, e2.at_]
  obtain ⟨hsz, hall⟩ := nde_vv e2
  have hlen : (m.map fun p => D.tup [keyN p.1, p.2]).length = es'.size := by rw [List.length_map, ← paired_len r, hsz]
  refine ⟨fun H => H d = some (exO (d, o')), fun i H v H' => ∃ T kx vx en, v = .ref T ∧ H T = none ∧ H' = upd H T (.tup [kx, vx]) ∧ es'[i]? = some en ∧ RelV kx en.key ∧ RelV vx en.val, ⟨fun i H hi hg => ⟨hg, by omega⟩, fun H hg => ⟨hg, by omega⟩, fun i H v H' hi hg y => y⟩, fun H s => s _ _ eo, fun i H v H' hi s y => ?_⟩
  obtain ⟨Tt, kx, vx, en, rfl, hT, rfl, hen, rk, rv⟩ := y
  have him : i < mv.length := by rw [paired_len r]; rw [List.length_map] at hi; exact hi
  obtain ⟨en', q', g1, g2, g3, g4⟩ := hall i mv[i] (List.getElem?_eq_getElem him)
  rw [hen] at g1
  cases g1
  have ek : kx = .ref q' := RelV.inj rk (by rw [g2]; rfl)
  have ev : vx = mv[i].2 := RelV.inj rv g4
  obtain ⟨pm, hpm, e3, e4⟩ : ∃ pm, m[i]? = some pm ∧ mv[i].1 = pm.1 ∧ Den K F1 mv[i].2 pm.2 := by
    have : ∀ {mv : List (NestedKey × V)} {m : List (NestedKey × D)} {i : Nat} {p}, Paired (NdR K F1) mv m → mv[i]? = some p → ∃ pm, m[i]? = some pm ∧ p.1 = pm.1 ∧ Den K F1 p.2 pm.2 := by
      intro mv m i p r
      induction r generalizing i with
      | nil => intro h; simp at h
      | cons a t ih =>
        intro h
        cases i with
        | zero => simp at h; subst h; exact ⟨_, rfl, a.1, a.2⟩
        | succ i => obtain ⟨pm, h1, h2⟩ := ih (i := i) (by simpa using h); exact ⟨pm, by simpa using h1, h2⟩
    exact this r (List.getElem?_eq_getElem him)
  have hx : Ext [] F1 H (upd F1 Tt (.tup [kx, vx])) (upd H Tt (.tup [kx, vx])) := Ext.new s hT
  refine ⟨_, _, by rw [List.getElem?_map, hpm]; rfl, hx, .tup (SqT.of upd_same) (.cons ?_ (.cons ?_ .nil))⟩
  · have q3 : Den K G kx (keyN pm.1) := by rw [ek, ← e3]; exact g3
    exact q3.up (e.sg.trans hx.f)
  · have q4 : Den K F1 vx pm.2 := by rw [ev]; exact e4
    exact q4.up hx.f
theorem ndJ {m : List (NestedKey × D)} : JOk [d] [] fun F H => NDd P w K F H d m where
  mem := fun F H g a ha => by rw [List.mem_singleton.mp ha]; exact g.out
  mv := fun F H F' H' g f s e n => g.move f s (e d List.mem_cons_self) (n d List.mem_cons_self)
  sub := fun a h => by cases h
theorem rc_sum {ns : List Int} : RcD K (rSum K) [.lst (ns.map D.int)] (.int ns.sum) := fun F H xs s hx Q q => by
  cases hx with
  | cons a t =>
    cases t
    cases a with
    | lst r l =>
      have := denL_ints l
      subst this
      exact ⟨_, ns, rfl, SqL.of (s _ _ r), q _ F H (Ext.refl s) (.int _)⟩
end
/-! ### levels: how many words lead to each state -/
abbrev Lev := List (Sta × Nat)
def lvD (b : Lev) : List (NestedKey × D) := b.map fun p => (stN p.1, .int (p.2 : Nat))
def lkS (b : Lev) (s : Sta) : Option Nat := (b.find? fun p => decide (p.1 = s)).map (·.2)
def putS (b : Lev) (s : Sta) (n : Nat) : Lev := if (lkS b s).isSome then b.map (fun p => if p.1 = s then (p.1, n) else p) else b ++ [(s, n)]
def addS (b : Lev) (s : Sta) (n : Nat) : Lev := putS b s ((lkS b s).getD 0 + n)
theorem lk_lvD (s : Sta) : ∀ b : Lev, lkN (lvD b) (stN s) = (lkS b s).map fun n => .int (n : Nat)
  | [] => rfl
  | p :: b => by
    have ih := lk_lvD s b
    unfold lkN lvD lkS at ih ⊢
    rw [List.map_cons, List.find?_cons, List.find?_cons]
    by_cases z : p.1 = s
    · rw [decide_eq_true (show (stN p.1 = stN s) from by rw [z]), decide_eq_true z]; rfl
    · rw [decide_eq_false (show ¬ (stN p.1 = stN s) from fun y => z (stN_inj y)), decide_eq_false z]
      exact ih
theorem put_lvD (b : Lev) (s : Sta) (n : Nat) : putN (lvD b) (stN s) (.int (n : Nat)) = lvD (putS b s n) := by
  unfold putN putS
  rw [lk_lvD, Option.isSome_map]
  split
  · unfold lvD
    rw [List.map_map, List.map_map]
    refine List.map_congr_left fun p _ => ?_
    show (if stN p.1 = stN s then (stN p.1, (D.int (n : Nat))) else (stN p.1, .int (p.2 : Nat))) = (stN (if p.1 = s then (p.1, n) else p).1, D.int ((if p.1 = s then (p.1, n) else p).2 : Nat))
    by_cases z : p.1 = s
    · rw [if_pos z, if_pos (by rw [z])]
    · rw [if_neg z, if_neg (fun y => z (stN_inj y))]
  · unfold lvD; rw [List.map_append]; rfl
/-- what one state adds -/
def addStp (stps : List (Nat × Sta)) (n : Nat) (b : Lev) : Lev := stps.foldl (fun b p => addS b p.2 n) b
def nextLv (fo : Fo) (ma : Ma) (key : List Nat) (lv : Lev) : Lev := lv.foldl (fun b p => addStp (stp fo ma key p.1) p.2 b) []
def levN (fo : Fo) (ma : Ma) (key : List Nat) : Nat → Lev
  | 0 => [((0, 0, 0, 0), 1)]
  | n + 1 => nextLv fo ma key (levN fo ma key n)
def endsOf (key : List Nat) (lv : Lev) : Nat := ((lv.filter fun p => finF key p.1).map (·.2)).sum
def cntF (fo : Fo) (ma : Ma) (key : List Nat) (n : Nat) : Nat := endsOf key (levN fo ma key n)
end Nm
namespace Nm
open PySem PySem.Spec L2
section
variable {P : Program} {w : World} {K : PySem.W.Frag} {F F' F1 H H' H1 : Hp} {d : Addr} {m : List (NestedKey × D)} {σ : L2.St} {te : TE} {b : Lev} {T : TkP} {r : List Sl}
theorem Ext.dropP {M : List Addr} {p : Addr} (x : Ext (p :: M) F H F' H') (h : H p = none) : Ext M F H F' H' :=
  ⟨x.f, fun a o m e => x.h a o (fun z => by
    rcases List.mem_cons.mp z with rfl | z
    · rw [h] at e; cases e
    · exact m z) e, x.s, x.n, x.k⟩
def lvP (p : Sta × Nat) : D := .tup [stD p.1, .int (p.2 : Nat)]
theorem items_lv (b : Lev) : ((lvD b).map fun p => D.tup [keyN p.1, p.2]) = b.map lvP := by
  unfold lvD
  rw [List.map_map]
  refine List.map_congr_left fun p _ => ?_
  show D.tup [keyN (stN p.1), .int (p.2 : Nat)] = _
  rw [stD_key]; rfl
theorem putS_keys {b : Lev} {s : Sta} {n : Nat} {p : Sta × Nat} (h : p ∈ putS b s n) : p.1 = s ∨ ∃ q ∈ b, q.1 = p.1 := by
  unfold putS at h
  split at h
  · obtain ⟨q, hq, e⟩ := List.mem_map.mp h
    split at e
    · rename_i z; rw [← e]; exact .inl z
    · rw [← e]; exact .inr ⟨q, hq, rfl⟩
  · rcases List.mem_append.mp h with h | h
    · exact .inr ⟨p, h, rfl⟩
    · rw [List.mem_singleton.mp h]; exact .inl rfl
def LvIn (T : TkP) (b : Lev) : Prop := ∀ p ∈ b, p.1 ∈ T.sts
theorem LvIn.add {s : Sta} {n : Nat} (h : LvIn T b) (hs : s ∈ T.sts) : LvIn T (addS b s n) := fun p hp => by
  rcases putS_keys hp with e | ⟨q, hq, e⟩
  · rw [e]; exact hs
  · rw [← e]; exact h q hq
theorem lv_len (ok : TkOk T) (g : NDd P w K F H d (lvD b)) (h : LvIn T b) : (lvD b).length < sizeLine := by
  have h1 : ((lvD b).map (·.1)).length ≤ (T.sts.map stN).length := nodup_le g.nodup fun z hz => by
    obtain ⟨p, hp, rfl⟩ := List.mem_map.mp hz
    unfold lvD at hp
    obtain ⟨q, hq, rfl⟩ := List.mem_map.mp hp
    exact List.mem_map.mpr ⟨q.1, h q hq, rfl⟩
  rw [List.length_map, List.length_map] at h1
  have := ok.sz
  rw [sizeLine_eq]; omega
/-- d.get(state, 0) -/
theorem at_nget {i j : Nat} {t : Sta} (g : NDd P w K F H d (lvD b)) (E : EnvD K F r σ) (hi : r[i]? = some (.v (.ref d))) (hj : r[j]? = some (.d (stD t))) : At (tNGet2 P w K (tVar i) (tVar j) (tC (.int 0))) σ H (.int (((lkS b t).getD 0 : Nat) : Int)) := fun Q q => by
  refine at_slot E hi _ ?_
  obtain ⟨mv, go, rel⟩ := g
  refine ⟨d, rfl, ⟨F, mv, go⟩, ?_⟩
  obtain ⟨o, h1, v, rfl, dv⟩ := E.get hj
  refine ⟨v, h1, F, mv, stN t, go, by rw [stD_key]; exact dv, ⟨_, rfl⟩, stN_depth t, ?_⟩
  rcases ndr_lk rel (stN t) with ⟨q1, q2⟩ | ⟨v', e, q1, q2, dv'⟩
  · rw [q1]
    rw [lk_lvD] at q2
    cases hl : lkS b t with
    | none => rw [hl] at q; exact q
    | some n => rw [hl] at q2; cases q2
  · rw [q1]
    rw [lk_lvD] at q2
    cases hl : lkS b t with
    | none => rw [hl] at q2; cases q2
    | some n =>
      rw [hl] at q2 q
      cases q2
      cases dv'
      exact q
end
end Nm

set_option Elab.async false
set_option linter.all false
set_option maxRecDepth 100000
set_option maxHeartbeats 1000000
/-! for k in d, where d is a dict with tuple keys that is not written any more. -/
namespace Nm
open PySem PySem.Spec L2
def Itkn (d : Addr) (o : Obj) (es : Array DictEntry) : It :=
  ⟨fun i H => H d = some (exO (d, o)) ∧ i < es.size, fun i H x H' => H' = H ∧ ∃ e, es[i]? = some e ∧ RelV x e.key, fun i H => H d = some (exO (d, o)) ∧ es.size ≤ i⟩
theorem turn_keysN {P : Program} {w : World} {K : PySem.W.Frag} {d : Addr} {o : Obj} {es : Array DictEntry} {ep : Nat} {tg : Expr} (it : Addr) (hod : o.data = .dict es ep) (hv : VVs es) :
    Turn P w K tg (Itkn d o es) [it] it (fun i h => h.IsKeyIter it d i es.size ep) where
  mem := by simp
  obj := fun i h st b hb => by
    have e : b = it := by simpa using hb
    subst e
    obtain ⟨oi, e, c, dd⟩ := st
    exact ⟨oi, e, fun v z => by rw [dd] at z; cases z⟩
  keep := fun i h h' st k => st.at fun oi e => k it (by simp) oi e
  item := by
    intro X hP hw hK hc i pins s σ H E I hf st hg
    subst hP hw hK
    obtain ⟨hd, hi⟩ := hg
    obtain ⟨f0, f1, f2, f3, f4, f5⟩ := hf it (by simp)
    obtain ⟨kx, vx, rk, rv⟩ := hv i es[i] (Array.getElem?_eq_getElem hi)
    refine next_key_item st (I.hok d _ hd).1 hod rfl (Array.getElem?_eq_getElem hi) fun h' st' sb => ?_
    have I1 : Inv X pins σ H { s with heap := h' } := I.turned (t' := s.toks) (fun b ob hb e => (sb.2 b hb).trans e) f0 f1 f3 f4 f5
    obtain ⟨oi, e, c, dd⟩ := id st'
    exact ⟨es[i].key, rfl, go_of (s := { s with heap := h' }) e c dd (by decide) ⟨kx, H, I1, rk, ⟨rfl, _, Array.getElem?_eq_getElem hi, rk⟩, st', fun b hb => (hf b hb).1⟩⟩
  done := by
    intro X hP hw hK hc i pins s σ H E I hf st hg
    subst hP hw hK
    obtain ⟨hd, hi⟩ := hg
    obtain ⟨f0, f1, f2, f3, f4, f5⟩ := hf it (by simp)
    exact next_key_end (I.ok.hd hc) st (I.hok d _ hd).1 hod rfl hi fun h' eb => ⟨rfl, I.turned (t' := s.toks) (fun b ob hb e => eb b ob hb e) f0 f1 f3 f4 f5⟩
  self := fun A i s Q E st h => by
    refine wpAny_pyIter_slot st.typeIs PySem.F.slot_dict_keyiterator_iter (wpAny_call_entry PySem.F.slot_dict_keyiterator_iter st.typeIs PySem.F.entry_dict_keyiterator_iter ?_ (PySem.F.args_dict_keyiterator_iter_1 _))
    show wpAny _ _ (ret (.ref it)) _ _ s
    exact wpAny_pure ⟨_, rfl, "dict_keyiterator", _, st.typeIs, PySem.F.slot_dict_keyiterator_next.lookup, h⟩
def iKeysN (P : Program) (w : World) (K : PySem.W.Frag) (td : TE) : TI := fun σ H R => td σ H fun x H1 => ∃ G d m, x = .ref d ∧ NDo P w K G H1 d m ∧ ∀ o es ep xs, NDe P w K G H1 d m o es ep xs → R (Itkn d o es) H1
theorem pi_keysN {X : Cx} {e tg : Expr} {td : TE} (he : PE X e td) : PI X tg e (iKeysN X.prog X.w X.K td) := by
  refine ⟨fun pins s σ H R I h => ?_⟩
  refine thn (he.run pins s σ H _ I h) fun u s1 ⟨x, H1, I1, rx, G, d, m, ex, g, q⟩ => ?_
  subst ex
  obtain rfl : u = Value.ref d := rx
  obtain ⟨xs, dd, rel, o, es, ep, ne, hg⟩ := nd_heap I1 g
  have vv : VVs es := fun i en hen => by
    obtain ⟨hsz, hall⟩ := nde_vv ne
    have hi : i < m.length := by have := (Array.getElem?_eq_some_iff.mp hen).1; omega
    obtain ⟨en', q, h1, h2, _, h4⟩ := hall i m[i] (List.getElem?_eq_getElem hi)
    rw [hen] at h1
    cases h1
    exact ⟨.ref q, _, h2, h4⟩
  exact iter_keys g.1 hg ne.ex ne.dat (pi_one (tk := s1.toks) I1 _ (turn_keysN _ ne.dat vv) ⟨_, Heap.get?_push_size _ rfl, rfl, rfl⟩ (q o es ep xs ne))
section
variable {P : Program} {w : World} {K : PySem.W.Frag} {F F' F1 H H' H1 : Hp} {d : Addr} {m : List (NestedKey × D)} {σ : L2.St} {te : TE}
theorem ei_keysN (z : NDz P w K F d m) (h : EvD K te σ F (.cls d)) : EvI K (iKeysN P w K te) σ F (m.map fun p => keyN p.1) := fun H s R q => h H s _ fun v F1 H1 x1 dv => by
  cases dv
  obtain ⟨h1, h2, G, o, es, ep, xs, mv, e, r⟩ := z.up x1.f
  have e1 : NDe P w K G H1 d mv o es ep xs := ⟨x1.s _ _ e.at_, e.sg.trans x1.s, e.gd, e.ex, e.dat, e.ent, e.nd, e.rel, e.dep⟩
  refine ⟨G, d, mv, rfl, ⟨h1, by rw [paired_len r]; exact h2, o, es, ep, xs, e1⟩, fun o' es' ep' xs' e2 => q _ F1 H1 x1 ?_⟩
  have eo : F1 d = some (exO (d, o')) := by rw [e.at_, ← e1.at_, e2.at_]
  obtain ⟨hsz, hall⟩ := nde_vv e2
  have hlen : (m.map fun p => keyN p.1).length = es'.size := by rw [List.length_map, ← paired_len r, hsz]
  refine ⟨fun H => H d = some (exO (d, o')), fun i H v H' => H' = H ∧ ∃ en, es'[i]? = some en ∧ RelV v en.key, ⟨fun i H hi hg => ⟨hg, by omega⟩, fun H hg => ⟨hg, by omega⟩, fun i H v H' hi hg y => y⟩, fun H s => s _ _ eo, fun i H v H' hi s y => ?_⟩
  obtain ⟨rfl, en, hen, rk⟩ := y
  have him : i < mv.length := by rw [paired_len r]; rw [List.length_map] at hi; exact hi
  obtain ⟨en', q', g1, g2, g3, g4⟩ := hall i mv[i] (List.getElem?_eq_getElem him)
  rw [hen] at g1
  cases g1
  have ek : v = .ref q' := RelV.inj rk (by rw [g2]; rfl)
  obtain ⟨pm, hpm, e3⟩ : ∃ pm, m[i]? = some pm ∧ mv[i].1 = pm.1 := by
    have h5 : (mv.map (·.1))[i]? = (m.map (·.1))[i]? := by rw [keys_eq r]
    rw [List.getElem?_map, List.getElem?_map, List.getElem?_eq_getElem him] at h5
    cases q5 : m[i]? with
    | none => rw [q5] at h5; simp at h5
    | some pm => rw [q5] at h5; simp at h5; exact ⟨pm, rfl, h5⟩
  refine ⟨_, F1, by rw [List.getElem?_map, hpm]; rfl, Ext.refl s, ?_⟩
  have q3 : Den K G v (keyN pm.1) := by rw [ek, ← e3]; exact g3
  exact q3.up e.sg
mutual
theorem den_key_del {H : Hp} {d : Addr} {p : Addr × Obj} (e : H d = some (exO p)) : ∀ (k : NestedKey) (v : V), Den K H v (keyN k) → Den K (del H d) v (keyN k)
  | .none, v, h => by unfold keyN at h ⊢; cases h; exact .non
  | .num i, v, h => by unfold keyN at h ⊢; cases h; exact .int i
  | .text x, v, h => by unfold keyN at h ⊢; cases h; exact .str x
  | .tup ks, v, h => by
    unfold keyN at h ⊢
    cases h with
    | tup q l =>
      refine .tup ?_ (den_keys_del e ks _ l)
      rcases q with (q | ⟨o, q⟩) | q
      · exact .inl (.inl (by rw [del_ne (fun z => by rw [z, e] at q; cases q)]; exact q))
      · exact .inl (.inr ⟨o, by rw [del_ne (fun z => by rw [z, e] at q; cases q)]; exact q⟩)
      · exact .inr q
theorem den_keys_del {H : Hp} {d : Addr} {p : Addr × Obj} (e : H d = some (exO p)) : ∀ (ks : List NestedKey) (vs : List V), DenL K H vs (keyN.keyDs ks) → DenL K (del H d) vs (keyN.keyDs ks)
  | [], vs, h => by unfold keyN.keyDs at h ⊢; cases h; exact .nil
  | k :: ks, vs, h => by
    unfold keyN.keyDs at h ⊢
    cases h with
    | cons a t => exact .cons (den_key_del e k _ a) (den_keys_del e ks _ t)
end
theorem del_same' {F : Hp} {p : Addr} : Nm.del F p p = none := if_pos rfl
/-- what stands frozen is read as what is held -/
theorem NDz.own (z : NDz P w K F d m) (s : Same F H) : ∃ mv p, NDo P w K (del F d) H d mv ∧ Paired (NdR K F) mv m ∧ F d = some (exO p) := by
  obtain ⟨h1, h2, G, o, es, ep, xs, mv, e, r⟩ := z
  have sg : Same G (del F d) := fun a u q => by rw [del_ne (ne_of_none q e.gd)]; exact e.sg a u q
  refine ⟨mv, _, ⟨h1, by rw [paired_len r]; exact h2, o, es, ep, xs, ⟨s _ _ e.at_, fun a u q => ?_, del_same', e.ex, e.dat, e.ent, e.nd, Paired.mapP e.rel fun p q a => ⟨a.1, a.2.1.up sg, a.2.2⟩, e.dep⟩⟩, r, e.at_⟩
  by_cases z : a = d
  · subst z; rw [del_same'] at q; cases q
  · rw [del_ne z] at q; exact s a u q
variable {ta tb tx : TE} {k : NestedKey} {e e0 : D}
theorem ev_ixNz (z : NDz P w K F d m) (ha : EvD K ta σ F (.cls d)) (hb : EvD K tb σ F (keyN k)) (hk : ∃ ks, k = .tup ks) (hd : k.depth ≤ 8) (hl : lkN m k = some e) : EvD K (tOp (rIxN P w K) ta tb) σ F e := fun H s Q q =>
  ha H s _ fun x F1 H1 x1 d1 => (hb.up x1.f) H1 x1.s _ fun y F2 H2 x2 d2 => by
    cases d1
    obtain ⟨mv, p, g, r, ep⟩ := ((z.up x1.f).up x2.f).own x2.s
    rcases ndr_lk r k with ⟨_, h⟩ | ⟨v, e', h1, h2, h3⟩
    · rw [hl] at h; cases h
    · rw [hl] at h2; cases h2
      exact ⟨_, d, mv, k, v, rfl, g, den_key_del ep k _ d2, hk, hd, h1, q v F2 H2 (x1.tr x2) h3⟩
theorem ev_ngetNz (z : NDz P w K F d m) (ha : EvD K ta σ F (.cls d)) (hb : EvD K tb σ F (keyN k)) (hx : EvD K tx σ F e0) (hk : ∃ ks, k = .tup ks) (hd : k.depth ≤ 8) : EvD K (tNGet2 P w K ta tb tx) σ F ((lkN m k).getD e0) := fun H s Q q =>
  ha H s _ fun x F1 H1 x1 d1 => by
    cases d1
    obtain ⟨mv1, p1, g1, r1, ep1⟩ := (z.up x1.f).own x1.s
    exact ⟨d, rfl, ⟨_, _, g1⟩, (hb.up x1.f) H1 x1.s _ fun y F2 H2 x2 d2 => ((hx.up x1.f).up x2.f) H2 x2.s _ fun u F3 H3 x3 d3 => by
      obtain ⟨mv, p, g, r, ep⟩ := (((z.up x1.f).up x2.f).up x3.f).own x3.s
      refine ⟨_, mv, k, g, den_key_del ep k _ (d2.up x3.f), hk, hd, ?_⟩
      rcases ndr_lk r k with ⟨h1, h2⟩ | ⟨v, e', h1, h2, h3⟩
      · rw [h1]
        exact q u F3 H3 ((x1.tr x2).tr x3) (by rw [h2]; exact d3)
      · rw [h1]
        have := q v F3 H3 ((x1.tr x2).tr x3) (by rw [h2]; exact h3)
        exact this⟩
end
end Nm

set_option Elab.async false
set_option linter.all false
set_option maxRecDepth 100000
set_option maxHeartbeats 1000000
/-! A call with defaults whose error is caught; a handler without a name; a thing that is locked ahead of a statement. -/
namespace Nm
open PySem PySem.Spec L2 PyProof.Rows
def tCallDS (sp : Sp) (dvs : List V) (E : L2.St → XK) (ta : TA) : TE := fun σ H Q => tCall sp dvs (E σ) ta σ H Q
theorem pe_callDS {X : Cx} {CX : CXT} {k : Nat} {f : Addr} {fd : FuncData} {ps : List Str} {sp : Sp} {E : L2.St → XK} {x : Str} {p pos : Pos} {e : Expr} {es : List Expr} {t : TA} {ds : List Value} {dvs : List V}
    (F : FnOk X.prog X.w X.K X.mg X.base CX k f fd ps sp) (hr : Room k X.A) (hg : Gl X x) (hm : X.mg x = some (.ref f)) (hk : PySem.W.keepIn X.K (.ref f) = true) (hb : Binds X.K fd ps ds) (hd : Vals dvs ds) (hx : ∀ σ, PassesAt CX X σ (E σ))
    (ha : PA X (e :: es) t) (hdb : (x == ("__debug__" : Str)) = false := by decide) (he : starEach (e :: es) X.env = (false, eval e X.env) :: starEach es X.env := by rfl) (hpl : (backTo pos (starEach es X.env)).any (·.1) = false := by rfl) :
    PE X (.Call (.Name x p) (e :: es) [] pos) (tCallDS sp dvs E t) := by
  have R := F.raw hb hd
  refine ⟨fun pins s σ H Q I h => ?_⟩
  refine wpAny_Call_Name_kw (ld_glob I hg hm ?_ hdb)
  refine PySem.W.callWith_K (h₀ := X.base) I.ok.mod.kin hk (thn (ha.run pos pins s σ H _ I h) fun us s1 ⟨vs, H1, I1, r, q⟩ => ⟨I1.kIn, ?_⟩) he hpl
  exact wpAny_call (run_fnRS (us := us) (vs := vs) R hr (hx σ) I1 r q)
def tTryO (K : PySem.W.Frag) (c : Value) (tb : WX → TS) (ts : Addr → Value → Option Addr → TS) : TS := fun D σ H => tb (wOnly K c ts (fun _ _ _ _ => False) D) D σ H
def tLkS (ts : TS) : TS := fun D σ H => ts D σ H ∨ ∃ d u, H d = some u ∧ Mut (some u) ∧ ∀ od, ts D σ (upd H d (.frz od u))
theorem ps_lkS {X : Cx} {st : Stmt} {t : TS} (h : PS X st t) : PS X st (tLkS t) := ⟨fun pins s σ H D I q => by
  rcases q with q | ⟨d, o, hd, mu, q⟩
  · exact h.run pins s σ H D I q
  · obtain ⟨od, I2⟩ := I.lock hd mu
    exact h.run pins s σ _ D I2 (q od)⟩
end Nm

set_option Elab.async false
set_option linter.all false
set_option maxRecDepth 100000
set_option maxHeartbeats 1000000
namespace Nm
open PySem PySem.Spec L2 PyProof.Rows
/-! ### int(truth), list * number -/
def rIntB : List V → Hp → VK → Prop := fun xs H Q => ∃ b : Bool, xs = [.bl b] ∧ Q (.int (if b then 1 else 0)) H
theorem c_intB {X : Cx} : CallR X (.type "int") rIntB := by
  intro pins s σ H xs us Q I rs h
  obtain ⟨b, rfl, h⟩ := h
  cases rs with
  | cons r1 rs =>
    cases rs
    cases r1
    exact call_int_1 (meets_int_new_bool b) (show (Made.int (if b then 1 else 0)).post _ s from ⟨rfl, ⟨.int (if b then 1 else 0), H, I.tok _, ⟨_, rfl⟩, h⟩⟩)
section
variable {K : PySem.W.Frag}
theorem rc_intB {b : Bool} : RcD K rIntB [.bl b] (.int (if b then 1 else 0)) := fun F H xs s hx Q q => by
  cases hx with
  | cons h t =>
    cases t
    cases h
    exact ⟨b, rfl, q _ F H (Ext.refl s) (.int _)⟩
theorem rv_mulB {ds : List D} {b : Bool} (hz : ds.length ≤ 16777216) : RvD K (rMulA K) (.lst ds) (.int (if b then 1 else 0)) (.lst (if b then ds else [])) := fun F H x y s hx hy Q q => by
  cases hy
  cases hx with
  | lst h1 l1 =>
    rename_i a xs
    cases b with
    | true =>
      refine .inr (.inr ⟨a, 1, xs, rfl, rfl, s _ _ h1, by decide, by decide, ?_, fun p hp => ?_⟩)
      · show xs.length * 1 ≤ _
        rw [l1.length, sizeLine_eq]; omega
      · have e : (List.replicate (1 : Int).toNat xs).flatten = xs := by simp
        rw [e]
        exact q _ _ _ (Ext.new s hp) (.lst upd_same (l1.up (Ext.new (o := .lst xs) s hp).f))
    | false =>
      refine .inr (.inr ⟨a, 0, xs, rfl, rfl, s _ _ h1, by decide, by decide, (by show xs.length * 0 ≤ _; omega), fun p hp => ?_⟩)
      have e : (List.replicate (0 : Int).toNat xs).flatten = [] := by simp
      rw [e]
      exact q _ _ _ (Ext.new s hp) (.lst upd_same .nil)
end
end Nm

set_option Elab.async false
set_option linter.all false
set_option maxRecDepth 100000
set_option maxHeartbeats 1000000
namespace Nm
open PySem PySem.Spec L2
/-! x in a list, x and its items being data of any depth -/
theorem hu65 {k : Nat} {A : Around} (hr : Room k A) : A.units + 65 < cLine := by have := hr.un; omega
section
variable {K : PySem.W.Frag} {F H : Hp} {σ : L2.St}
theorem rv_inD {x : D} {ds : List D} (px : plain x = true) (pl : plain (.lst ds) = true) (sx : SeqAt.shaped (toPy x) = true) (sl : SeqAt.shaped (toPy (.lst ds)) = true) : RvD K (rInD K) x (.lst ds) (.bl ((toPyL ds).any fun z => PyData.eqv z (toPy x))) := fun F H u v s hx hy Q q => by
  have h2 := den_dp s _ hy pl
  have e : toPy (.lst ds) = .list (toPyL ds) := by simp only [toPy]
  rw [e] at h2 sl
  exact ⟨toPy x, toPyL ds, den_dp s _ hx px, h2, sx, sl, q _ F H (Ext.refl s) (.bl _)⟩
end
end Nm

set_option Elab.async false
set_option linter.all false
set_option maxRecDepth 100000
set_option maxHeartbeats 4000000
namespace Nm
open PySem PySem.Spec L2 PyProof.Rows
def top (i : Nat) : Stmt := PySem.Challenge.pw_namesone_k47_orders_of_programs.main.body.getD i (.Pass ⟨0, 0, 0, 0⟩)
abbrev s_orders : Stmt := top 3
abbrev N_orders : List Str := ["one", "other", "order"]
abbrev P_orders : List Str := ["one", "other"]
theorem sc_orders : GScope N_orders P_orders (defScope s_orders) := ⟨rfl, rfl, rfl, by decide +kernel, rfl, by decide +kernel, by decide +kernel⟩
abbrev s_law_bag : Stmt := top 5
abbrev N_law_bag : List Str := ["_law_script", "_law_at", "_law_cell", "_law_digits"]
abbrev P_law_bag : List Str := ["_law_script", "_law_at"]
theorem sc_law_bag : FnScope N_law_bag P_law_bag (defScope s_law_bag) := ⟨rfl, rfl, rfl, by decide +kernel, rfl, by decide +kernel, by decide +kernel⟩
abbrev s_law_take : Stmt := top 6
abbrev N_law_take : List Str := ["_law_bag_here", "_law_many", "_law_mixed", "_law_digit"]
abbrev P_law_take : List Str := ["_law_bag_here", "_law_many"]
theorem sc_law_take : FnScope N_law_take P_law_take (defScope s_law_take) := ⟨rfl, rfl, rfl, by decide +kernel, rfl, by decide +kernel, by decide +kernel⟩
abbrev s_law_program : Stmt := top 7
abbrev N_law_program : List Str := ["_law_bag_here", "_law_some", "_law_turn"]
abbrev P_law_program : List Str := ["_law_bag_here"]
theorem sc_law_program : FnScope N_law_program P_law_program (defScope s_law_program) := ⟨rfl, rfl, rfl, by decide +kernel, rfl, by decide +kernel, by decide +kernel⟩
abbrev s_law_is_right : Stmt := top 8
abbrev N_law_is_right : List Str := ["_law_found", "_law_zeros", "_law_ones", "_law_k", "_law_many", "_law_top", "_law_text"]
abbrev P_law_is_right : List Str := ["_law_found", "_law_zeros", "_law_ones"]
theorem sc_law_is_right : FnScope N_law_is_right P_law_is_right (defScope s_law_is_right) := ⟨rfl, rfl, rfl, by decide +kernel, rfl, by decide +kernel, by decide +kernel⟩
abbrev s_law : Stmt := top 9
abbrev N_law : List Str := ["_law_script", "_law_at", "_law_bag_here", "_law_turn", "_law_first", "_law_one", "_law_other", "_law_found", "_law_text", "_law_inner", "_law_second"]
abbrev P_law : List Str := ["_law_script"]
theorem sc_law : FnScope N_law P_law (defScope s_law) := ⟨rfl, rfl, rfl, by decide +kernel, rfl, by decide +kernel, by decide +kernel⟩
/-- what the top has left -/
structure Txt (K : PySem.W.Frag) (mg : Str → Option Value) where
  a_orders : Addr
  fd_orders : FuncData
  g_orders : mg "orders" = some (.ref a_orders)
  k_orders : PySem.W.keepIn K (.ref a_orders) = true
  F_orders : Fun K "orders" "orders" s_orders a_orders fd_orders
  b_orders : Binds K fd_orders P_orders []
  a_law_bag : Addr
  fd_law_bag : FuncData
  g_law_bag : mg "_law_bag" = some (.ref a_law_bag)
  k_law_bag : PySem.W.keepIn K (.ref a_law_bag) = true
  F_law_bag : Fun K "_law_bag" "_law_bag" s_law_bag a_law_bag fd_law_bag
  b_law_bag : Binds K fd_law_bag P_law_bag []
  a_law_take : Addr
  fd_law_take : FuncData
  g_law_take : mg "_law_take" = some (.ref a_law_take)
  k_law_take : PySem.W.keepIn K (.ref a_law_take) = true
  F_law_take : Fun K "_law_take" "_law_take" s_law_take a_law_take fd_law_take
  b_law_take : Binds K fd_law_take P_law_take []
  a_law_program : Addr
  fd_law_program : FuncData
  g_law_program : mg "_law_program" = some (.ref a_law_program)
  k_law_program : PySem.W.keepIn K (.ref a_law_program) = true
  F_law_program : Fun K "_law_program" "_law_program" s_law_program a_law_program fd_law_program
  b_law_program : Binds K fd_law_program P_law_program []
  a_law_is_right : Addr
  fd_law_is_right : FuncData
  g_law_is_right : mg "_law_is_right" = some (.ref a_law_is_right)
  k_law_is_right : PySem.W.keepIn K (.ref a_law_is_right) = true
  F_law_is_right : Fun K "_law_is_right" "_law_is_right" s_law_is_right a_law_is_right fd_law_is_right
  b_law_is_right : Binds K fd_law_is_right P_law_is_right []
  a_law : Addr
  fd_law : FuncData
  g_law : mg "law" = some (.ref a_law)
  k_law : PySem.W.keepIn K (.ref a_law) = true
  F_law : Fun K "law" "law" s_law a_law fd_law
  b_law : Binds K fd_law P_law []
  u_FIRST : Value
  g_FIRST : mg "FIRST" = some u_FIRST
  r_FIRST : RelV (.str "0") u_FIRST
  u_SECOND : Value
  g_SECOND : mg "SECOND" = some u_SECOND
  r_SECOND : RelV (.str "1") u_SECOND
  n_abs : mg "abs" = none
  n_all : mg "all" = none
  n_len : mg "len" = none
  n_max : mg "max" = none
  n_min : mg "min" = none
  n_range : mg "range" = none
  n_repr : mg "repr" = none
  n_set : mg "set" = none
  n_sorted : mg "sorted" = none
section
variable {P : Program} {w : World} {K : PySem.W.Frag} {mg : Str → Option Value} {base : Heap}
def t_orders (K : PySem.W.Frag)  (sp_orders : SpY) (TT : Type) : TGp TT :=
    (tGIf (tOr (tTest (tOp (rEqA K) (tVar 0) (tLst tNil))) (tTest (tOp (rEqA K) (tVar 1) (tLst tNil)))) (tGy (tOp (rAddA K) (tOp (rMulA K) (tC (.str "0")) (tCB (rLenA K) (tCons (tVar 0) tNil))) (tOp (rMulA K) (tC (.str "1")) (tCB (rLenA K) (tCons (tVar 1) tNil))))) (tGs (tGFor1 (tCallY P_orders.length sp_orders (tCons (L2.tSl (rSlAny K) (tVar 0) (tSome (tC (.int 1))) tNo) (tCons (tVar 1) tNil))) (gName 2) (tOp (rAddA K) (tC (.str "0")) (tVar 2)))
    (tGFor1 (tCallY P_orders.length sp_orders (tCons (tVar 0) (tCons (L2.tSl (rSlAny K) (tVar 1) (tSome (tC (.int 1))) tNo) tNil))) (gName 2) (tOp (rAddA K) (tC (.str "1")) (tVar 2)))))
theorem d_orders (T : Txt K mg) {n0 : Nat} {cdv : Value} {A : Around} {outer : List Env} {s : Shared} {H : Hp} {pn : List (Addr × Obj)} {TT : Type} (hr : Room (2 * n0 + 2) (A.deeper (envOfC "orders" (defScope s_orders) s.heap.objs.size T.a_orders cdv))) {sp_orders : SpY} (G_orders : GFyE P w K mg base (2 * n0 + 1) T.a_orders T.fd_orders P_orders sp_orders) :
    GSsE (gX P w K mg base N_orders "orders" (defScope s_orders) T.a_orders cdv A outer s H pn) TT (defBody s_orders) (t_orders K  sp_orders TT) := by
  have g := gok_gX (P := P) (w := w) (K := K) (mg := mg) (base := base) (N := N_orders) (qual := "orders") (scope := defScope s_orders) (f := T.a_orders) (cd := cdv) (A := A) (outer := outer) (s := s) (H := H) (pn := pn)
  exact (gssE_one (gstE_if g (fun _ _ => (PW.pt (pw_or (pt_cmpR (o_eq (hu4 hr)) (pv 0) (pe_lst pa_nil) (nomark _)) (pw_or1 (pt_cmpR (o_eq (hu4 hr)) (pv 1) (pe_lst pa_nil) (nomark _)))))) (gssE_one (gstE_yield g (fun _ _ => (pe_op o_add (pe_op o_mul (pe_glob rfl T.g_FIRST T.r_FIRST) (pe_callB c_len (by rfl) T.n_len (by decide +kernel) (pa_cons (pv 0) pa_nil))) (pe_op o_mul (pe_glob rfl T.g_SECOND T.r_SECOND) (pe_callB c_len (by rfl) T.n_len (by decide +kernel) (pa_cons (pv 1) pa_nil))))))) (gssE_cons (gstE_forY1 g (hr.mono (by omega)) (fun _ _ => (pgn_callE G_orders (hr.mono (by omega)) rfl T.g_orders T.k_orders T.b_orders (pa_cons (pe_slice sl_any (pv 0) (po_some pe_int) po_none) (pa_cons (pv 1) pa_nil)) (fun _ _ z => z))) (fun _ _ => (pg_name (i := 2) sc_orders.nd rfl (Or.inl rfl))) (fun _ _ => (pe_op o_add (pe_glob rfl T.g_FIRST T.r_FIRST) (pv 2))))
    (gssE_one (gstE_forY1 g (hr.mono (by omega)) (fun _ _ => (pgn_callE G_orders (hr.mono (by omega)) rfl T.g_orders T.k_orders T.b_orders (pa_cons (pv 0) (pa_cons (pe_slice sl_any (pv 1) (po_some pe_int) po_none) pa_nil)) (fun _ _ z => z))) (fun _ _ => (pg_name (i := 2) sc_orders.nd rfl (Or.inl rfl))) (fun _ _ => (pe_op o_add (pe_glob rfl T.g_SECOND T.r_SECOND) (pv 2))))))))
def t_law_bag (K : PySem.W.Frag)   : TS :=
    (tSeq (tAsg (tIf (tTest (tOp (rLtA K) (tVar 1) (tCB (rLenA K) (tCons (tVar 0) tNil)))) (tOp (rIxA K) (tVar 0) (tVar 1)) (tC (.int 0))) (gName 2))
    (tSeq (tAsg (tIf (tTest (tOp (rGeA K) (tCB rAbs (tCons (tVar 2) tNil)) (tOp (rI CPow fun i j => V.int (i ^ j.toNat)) (tC (.int 10)) (tC (.int 18))))) (tCB rAbs (tCons (tVar 2) tNil)) (tC (.int 0))) (gName 3))
    (tRet (tLst (tCons (tVar 3) (tCons (tOp (rI (fun _ j => 0 < j) fun i j => V.int (i % j)) (tOp (rMulA K) (tOp (rAddA K) (tOp (rAddA K) (tOp (rI (fun _ j => 0 < j) fun i j => V.int (i % j)) (tVar 2) (tC (.int 2305843009213693951))) (tOp (rMulA K) (tC (.int 9043)) (tVar 1))) (tC (.int 23))) (tC (.int 6328741))) (tC (.int 2305843009213693951))) (tCons (tC (.int 0)) tNil)))))))
theorem d_law_bag (T : Txt K mg) {cdv : Value} {A : Around} {outer : List Env} {s : Shared} {H : Hp} {E : XK} (hr : Room 0 (A.deeper (envOfC "_law_bag" (defScope s_law_bag) s.heap.objs.size T.a_law_bag cdv)))  :
    PSs (cxOf CX0 P w K mg base N_law_bag "_law_bag" (defScope s_law_bag) T.a_law_bag cdv A outer s H E).nox (defBody s_law_bag) (t_law_bag K  ) :=
    (pss_cons (ps_set (i := 2) sc_law_bag.nd rfl (Or.inl rfl) (pe_ifExp (pt_cmpR (x_lt hr.units0) (pv 1) (pe_callB c_len (by rfl) T.n_len (by decide +kernel) (pa_cons (pv 0) pa_nil)) (nomark _)) (pe_ix (ix_any (hu_of hr)) (pv 0) (pv 1) (fun _ _ => rfl)) pe_int))
    (pss_cons (ps_set (i := 3) sc_law_bag.nd rfl (Or.inl rfl) (pe_ifExp (pt_cmpR (x_ge hr.units0) (pe_callB call_abs (by rfl) T.n_abs (by decide +kernel) (pa_cons (pv 2) pa_nil)) (pe_op op_pow pe_int pe_int) (nomark _)) (pe_callB call_abs (by rfl) T.n_abs (by decide +kernel) (pa_cons (pv 2) pa_nil)) pe_int))
    (pss_one (ps_ret (pe_lst (pa_cons (pv 3) (pa_cons (pe_op op_mod (pe_op o_mul (pe_op o_add (pe_op o_add (pe_op op_mod (pv 2) pe_int) (pe_op o_mul pe_int (pv 1))) pe_int) pe_int) pe_int) (pa_cons pe_int pa_nil))))))))
def t_law_take (K : PySem.W.Frag)   : TS :=
    (tSeq (tIfS (tTest (tOp (rGtA K) (tOp (rIxA K) (tVar 0) (tC (.int 0))) (tC (.int 0)))) (tSeq (tAsg (tOp (rI (fun _ j => 0 < j) fun i j => V.int (i % j)) (tOp (rIxA K) (tVar 0) (tC (.int 0))) (tVar 1)) (gName 3))
    (tSeq (tAsg (tOp (rI CDiv fun i j => V.int (i / j)) (tOp (rIxA K) (tVar 0) (tC (.int 0))) (tVar 1)) (gSub (tVar 0) (tC (.int 0)) rSetL))
    (tRet (tVar 3)))) tNext)
    (tSeq (tAsg (tOp (rAddA K) (tOp (rIxA K) (tVar 0) (tC (.int 2))) (tC (.int 1))) (gSub (tVar 0) (tC (.int 2)) rSetL))
    (tSeq (tAsg (tOp (rI (fun _ j => 0 < j) fun i j => V.int (i % j)) (tOp (rI CPow fun i j => V.int (i ^ j.toNat)) (tOp (rAddA K) (tOp (rIxA K) (tVar 0) (tC (.int 1))) (tOp (rMulA K) (tC (.int 1000033)) (tOp (rIxA K) (tVar 0) (tC (.int 2))))) (tC (.int 3))) (tC (.int 2305843009213693921))) (gName 2))
    (tSeq (tAsg (tOp (rI (fun _ j => 0 < j) fun i j => V.int (i % j)) (tOp (rI CPow fun i j => V.int (i ^ j.toNat)) (tOp (rAddA K) (tVar 2) (tOp (rMulA K) (tC (.int 15485917)) (tOp (rIxA K) (tVar 0) (tC (.int 2))))) (tC (.int 2))) (tC (.int 2305843009213693951))) (gName 2))
    (tRet (tOp (rI (fun _ j => 0 < j) fun i j => V.int (i % j)) (tOp (rI CDiv fun i j => V.int (i / j)) (tVar 2) (tC (.int 2048))) (tVar 1)))))))
theorem d_law_take (T : Txt K mg) {cdv : Value} {A : Around} {outer : List Env} {s : Shared} {H : Hp} {E : XK} (hr : Room 0 (A.deeper (envOfC "_law_take" (defScope s_law_take) s.heap.objs.size T.a_law_take cdv)))  :
    PSs (cxOf CX0 P w K mg base N_law_take "_law_take" (defScope s_law_take) T.a_law_take cdv A outer s H E).nox (defBody s_law_take) (t_law_take K  ) :=
    (pss_cons (ps_if (pt_cmpR (x_gt hr.units0) (pe_ix (ix_any (hu_of hr)) (pv 0) pe_int (fun _ _ => rfl)) pe_int (nomark _)) (pss_cons (ps_set (i := 3) sc_law_take.nd rfl (Or.inl rfl) (pe_op op_mod (pe_ix (ix_any (hu_of hr)) (pv 0) pe_int (fun _ _ => rfl)) (pv 1)))
    (pss_cons (ps_asg (pe_op op_fdiv (pe_ix (ix_any (hu_of hr)) (pv 0) pe_int (fun _ _ => rfl)) (pv 1)) (pg_sub (pv 0) pe_int set_list))
    (pss_one (ps_ret (pv 3))))) pss_nil)
    (pss_cons (ps_asg (pe_op o_add (pe_ix (ix_any (hu_of hr)) (pv 0) pe_int (fun _ _ => rfl)) pe_int) (pg_sub (pv 0) pe_int set_list))
    (pss_cons (ps_set (i := 2) sc_law_take.nd rfl (Or.inl rfl) (pe_op op_mod (pe_op op_pow (pe_op o_add (pe_ix (ix_any (hu_of hr)) (pv 0) pe_int (fun _ _ => rfl)) (pe_op o_mul pe_int (pe_ix (ix_any (hu_of hr)) (pv 0) pe_int (fun _ _ => rfl)))) pe_int) pe_int))
    (pss_cons (ps_set (i := 2) sc_law_take.nd rfl (Or.inl rfl) (pe_op op_mod (pe_op op_pow (pe_op o_add (pv 2) (pe_op o_mul pe_int (pe_ix (ix_any (hu_of hr)) (pv 0) pe_int (fun _ _ => rfl)))) pe_int) pe_int))
    (pss_one (ps_ret (pe_op op_mod (pe_op op_fdiv (pv 2) pe_int) (pv 1))))))))
def t_law_program (K : PySem.W.Frag)  (sp_law_take : Sp) : TS :=
    (tSeq (tAsg (tLst (tCons (tTup (tCons (tC (.str "folder")) (tCons (tC (.str "a")) tNil))) (tCons (tTup (tCons (tC (.str "file")) (tCons (tC (.str "b")) (tCons (tC (.int 1)) tNil)))) (tCons (tTup (tCons (tC (.str "link")) (tCons (tC (.str "c")) (tCons (tC (.str "a")) tNil)))) (tCons (tTup (tCons (tC (.str "write")) (tCons (tC (.str "b")) (tCons (tC (.int 2)) tNil)))) (tCons (tTup (tCons (tC (.str "remove")) (tCons (tC (.str "a")) tNil))) tNil)))))) (gName 1))
    (tSeq (tDrop (tBM K "list" rAppend (tVar 1) (tCons (tTup (tCons (tC (.str "move")) (tCons (tC (.str "a")) (tCons (tC (.str "b")) tNil)))) tNil)))
    (tRet (tLc (iRng1 (tCons (tCall sp_law_take [] E0 (tCons (tVar 0) (tCons (tC (.int 5)) tNil))) tNil)) (gName 2) tYes (tOp (rIxA K) (tVar 1) (tCall sp_law_take [] E0 (tCons (tVar 0) (tCons (tC (.int 6)) tNil)))) [2]))))
theorem d_law_program (T : Txt K mg) {cdv : Value} {A : Around} {outer : List Env} {s : Shared} {H : Hp} {E : XK} (hr : Room 1 (A.deeper (envOfC "_law_program" (defScope s_law_program) s.heap.objs.size T.a_law_program cdv))) {sp_law_take : Sp} (G_law_take : FnOk P w K mg base CX0 1 T.a_law_take T.fd_law_take P_law_take sp_law_take) :
    PSs (cxOf CX0 P w K mg base N_law_program "_law_program" (defScope s_law_program) T.a_law_program cdv A outer s H E).nox (defBody s_law_program) (t_law_program K  sp_law_take) :=
    (pss_cons (ps_set (i := 1) sc_law_program.nd rfl (Or.inr rfl) (pe_lst (pa_cons (pe_tup (pa_cons pe_str (pa_cons pe_str pa_nil))) (pa_cons (pe_tup (pa_cons pe_str (pa_cons pe_str (pa_cons pe_int pa_nil)))) (pa_cons (pe_tup (pa_cons pe_str (pa_cons pe_str (pa_cons pe_str pa_nil)))) (pa_cons (pe_tup (pa_cons pe_str (pa_cons pe_str (pa_cons pe_int pa_nil)))) (pa_cons (pe_tup (pa_cons pe_str (pa_cons pe_str pa_nil))) pa_nil)))))))
    (pss_cons (ps_expr (pe_bm PySem.F.plainAttrs_list PySem.F.slot_list_append PySem.F.type_list_append mt_append (pv 1) (pa_cons (pe_tup (pa_cons pe_str (pa_cons pe_str (pa_cons pe_str pa_nil)))) pa_nil)))
    (pss_one (ps_ret (pe_lc (own := [("_law_turn", 2)]) rfl sc_law_program.nd (pi_range1 rfl T.n_range (pa_cons (pe_call G_law_take (hr.mono (by decide)) rfl T.g_law_take T.k_law_take T.b_law_take .nil pass0 (pa_cons (pv 0) (pa_cons pe_int pa_nil))) pa_nil)) (blkOk_by (own := [("_law_turn", 2)]) (N := N_law_program) (sc := defScope s_law_program) (by decide +kernel)) (fun _ _ _ _ _ => (pg_name (i := 2) sc_law_program.nd rfl (Or.inl rfl))) (fun _ _ _ _ _ => pts_nil) (fun _ _ _ _ _ => (pe_ix (ix_any (hu_of hr)) (pv 1) (pe_call G_law_take (hr.mono (by decide)) rfl T.g_law_take T.k_law_take T.b_law_take .nil pass0 (pa_cons (pv 0) (pa_cons pe_int pa_nil))) (fun _ _ => rfl))))))))
def t_law_is_right (K : PySem.W.Frag) (PG : Program) (W : World)   : TS :=
    (tSeq (tAsg (tTup (tCons (tC (.int 1)) (tCons (tC (.int 1)) tNil))) (gTup K 2 (gCons (gName 4) (gCons (gName 5) gNil))))
    (tSeq (tFor (iRng1 (tCons (tVar 2) tNil)) (gName 3) (tPar 4 5 (tCons (tOp (rMulA K) (tVar 4) (tOp (rAddA K) (tOp (rAddA K) (tVar 1) (tVar 3)) (tC (.int 1)))) (tCons (tOp (rMulA K) (tVar 5) (tOp (rAddA K) (tVar 3) (tC (.int 1)))) tNil))))
    (tSeq (tIfS (tOr (tTest (tOp (rNeA K) (tCB (rLenA K) (tCons (tVar 0) tNil)) (tOp (rI CDiv fun i j => V.int (i / j)) (tVar 4) (tVar 5)))) (tTest (tOp (rNeA K) (tVar 0) (tCB (rSortedX PG W) (tCons (tCB (rSetX PG W K) (tCons (tVar 0) tNil)) tNil))))) (tRet (tC (.bl false))) tNext)
    (tRet (tCB (rAll K) (tCons (tLc (iSeq K (tVar 0)) (gName 6) tYes (tAndV (tOp (rEqA K) (tM1 rCountT (tVar 6) (tC (.str "0"))) (tVar 1)) (tOp (rEqA K) (tCB (rLenA K) (tCons (tVar 6) tNil)) (tOp (rAddA K) (tVar 1) (tVar 2)))) [6]) tNil))))))
theorem d_law_is_right (T : Txt K mg) {cdv : Value} {A : Around} {outer : List Env} {s : Shared} {H : Hp} {E : XK} (hr : Room 0 (A.deeper (envOfC "_law_is_right" (defScope s_law_is_right) s.heap.objs.size T.a_law_is_right cdv)))  :
    PSs (cxOf CX0 P w K mg base N_law_is_right "_law_is_right" (defScope s_law_is_right) T.a_law_is_right cdv A outer s H E).nox (defBody s_law_is_right) (t_law_is_right K P w  ) :=
    (pss_cons (ps_asg (pe_tup (pa_cons pe_int (pa_cons pe_int pa_nil))) (pg_tup rfl (pgs_cons (pg_name (i := 4) sc_law_is_right.nd rfl (Or.inl rfl)) (pgs_cons (pg_name (i := 5) sc_law_is_right.nd rfl (Or.inl rfl)) pgs_nil))))
    (pss_cons (ps_for PassesOwn.never rfl (pi_range1 rfl T.n_range (pa_cons (pv 2) pa_nil)) (pg_name (i := 3) sc_law_is_right.nd rfl (Or.inl rfl)) (pss_one (ps_par (by rfl) sc_law_is_right.nd (i := 4) (j := 5) rfl rfl (by decide) rfl rfl (pa_cons (pe_op o_mul (pv 4) (pe_op o_add (pe_op o_add (pv 1) (pv 3)) pe_int)) (pa_cons (pe_op o_mul (pv 5) (pe_op o_add (pv 3) pe_int)) pa_nil)) (by rfl))))
    (pss_cons (ps_if (PW.pt (pw_or (pt_cmpR (o_ne (hu4 hr)) (pe_callB c_len (by rfl) T.n_len (by decide +kernel) (pa_cons (pv 0) pa_nil)) (pe_op op_fdiv (pv 4) (pv 5)) (nomark _)) (pw_or1 (pt_cmpR (o_ne (hu4 hr)) (pv 0) (pe_callB (c_sortedX rfl) (by rfl) T.n_sorted (by decide +kernel) (pa_cons (pe_callTy (c_setX rfl) (by rfl) T.n_set (by decide +kernel) (pa_cons (pv 0) pa_nil)) pa_nil)) (nomark _))))) (pss_one (ps_ret pe_bl)) pss_nil)
    (pss_one (ps_ret (pe_callB (cr_all rfl) (by rfl) T.n_all (by decide +kernel) (pa_cons (pe_lc (own := [("_law_text", 6)]) rfl sc_law_is_right.nd (pi_seq (pv 0)) (blkOk_by (own := [("_law_text", 6)]) (N := N_law_is_right) (sc := defScope s_law_is_right) (by decide +kernel)) (fun _ _ _ _ _ => (pg_name (i := 6) sc_law_is_right.nd rfl (Or.inl rfl))) (fun _ _ _ _ _ => pts_nil) (fun _ _ _ _ _ => (pe_and (pe_cmpR (o_eq (hu4 hr)) (pe_m1 PySem.F.slot_str_count PySem.F.type_str_count mt_count (pv 6) pe_str) (pv 1) (nomark _)) (pe_one (pe_cmpR (o_eq (hu4 hr)) (pe_callB c_len (by rfl) T.n_len (by decide +kernel) (pa_cons (pv 6) pa_nil)) (pe_op o_add (pv 1) (pv 2)) (nomark _)))))) pa_nil)))))))
def t_law (K : PySem.W.Frag)  (sp_orders : SpY) (sp_law_is_right : Sp) (sp_law_program : Sp) (sp_law_bag : Sp) : TS :=
    (tSeq (tFor (iRng1 (tCons (tCB rMax2 (tCons (tC (.int 2)) (tCons (tCB rMin2 (tCons (tC (.int 4)) (tCons (tCB (rLenA K) (tCons (tVar 0) tNil)) tNil))) tNil))) tNil)) (gName 1) (tSeq (tAsg (tCall sp_law_bag [] E0 (tCons (tVar 0) (tCons (tVar 1) tNil))) (gName 2))
    (tFor (iRng1 (tCons (tC (.int 6)) tNil)) (gName 3) (tSeq (tPar 5 6 (tCons (tCall sp_law_program [] E0 (tCons (tVar 2) tNil)) (tCons (tCall sp_law_program [] E0 (tCons (tVar 2) tNil)) tNil)))
    (tSeq (tPar 7 8 (tCons (tLst tNil) (tCons (tCB (rReprA K) (tCons (tLst (tCons (tVar 5) (tCons (tVar 6) tNil))) tNil)) tNil)))
    (tSeq (tForY (tCallY P_orders.length sp_orders (tCons (tVar 5) (tCons (tVar 6) tNil))) (gName 4) (tSeq (tAsg (tLcY (tCallY P_orders.length sp_orders (tCons (tVar 5) (tCons (tVar 6) tNil))) (gName 10) (tVar 10) [10]) (gName 9))
    (tSeq (tIfS (tTest (tOp (rNeA K) (tOp (rIxA K) (tVar 9) (tCB (rLenA K) (tCons (tVar 7) tNil))) (tVar 4))) (tRet (tC (.bl false))) tNext)
    (tDrop (tBM K "list" rAppend (tVar 7) (tCons (tVar 4) tNil))))))
    (tIfS (tOr (tNot (tB (tCall sp_law_is_right [] E0 (tCons (tVar 7) (tCons (tCB (rLenA K) (tCons (tVar 5) tNil)) (tCons (tCB (rLenA K) (tCons (tVar 6) tNil)) tNil)))))) (tTest (tOp (rNeA K) (tCB (rReprA K) (tCons (tLst (tCons (tVar 5) (tCons (tVar 6) tNil))) tNil)) (tVar 8)))) (tRet (tC (.bl false))) tNext)))))))
    (tRet (tAndV (tOp (rEqA K) (tLcY (tCallY P_orders.length sp_orders (tCons (tLst tNil) (tCons (tLst tNil) tNil))) (gName 8) (tVar 8) [8]) (tLst (tCons (tC (.str "")) tNil))) (tOp (rEqA K) (tLcY (tCallY P_orders.length sp_orders (tCons (tLst (tCons (tTup (tCons (tC (.str "remove")) (tCons (tC (.str "a")) tNil))) tNil)) (tCons (tLst tNil) tNil))) (gName 8) (tVar 8) [8]) (tLst (tCons (tC (.str "0")) tNil))))))
theorem d_law (T : Txt K mg) {cdv : Value} {A : Around} {outer : List Env} {s : Shared} {H : Hp} {E : XK} (hr : Room 20 (A.deeper (envOfC "law" (defScope s_law) s.heap.objs.size T.a_law cdv))) (hg : A.guards = some []) {sp_orders : SpY} (G_orders : GFyE P w K mg base 19 T.a_orders T.fd_orders P_orders sp_orders) {sp_law_is_right : Sp} (G_law_is_right : FnOk P w K mg base CX0 1 T.a_law_is_right T.fd_law_is_right P_law_is_right sp_law_is_right) {sp_law_program : Sp} (G_law_program : FnOk P w K mg base CX0 2 T.a_law_program T.fd_law_program P_law_program sp_law_program) {sp_law_bag : Sp} (G_law_bag : FnOk P w K mg base CX0 1 T.a_law_bag T.fd_law_bag P_law_bag sp_law_bag) :
    PSs (cxOf CX0 P w K mg base N_law "law" (defScope s_law) T.a_law cdv A outer s H E).nox (defBody s_law) (t_law K  sp_orders sp_law_is_right sp_law_program sp_law_bag) :=
    (pss_cons (ps_for PassesOwn.never rfl (pi_range1 rfl T.n_range (pa_cons (pe_callB (call_max2 rfl) (by rfl) T.n_max (by decide +kernel) (pa_cons pe_int (pa_cons (pe_callB (call_min2 rfl) (by rfl) T.n_min (by decide +kernel) (pa_cons pe_int (pa_cons (pe_callB c_len (by rfl) T.n_len (by decide +kernel) (pa_cons (pv 0) pa_nil)) pa_nil))) pa_nil))) pa_nil)) (pg_name (i := 1) sc_law.nd rfl (Or.inl rfl)) (pss_cons (ps_set (i := 2) sc_law.nd rfl (Or.inl rfl) (pe_call G_law_bag (hr.mono (by decide)) rfl T.g_law_bag T.k_law_bag T.b_law_bag .nil pass0 (pa_cons (pv 0) (pa_cons (pv 1) pa_nil))))
    (pss_one (ps_for PassesOwn.never rfl (pi_range1 rfl T.n_range (pa_cons pe_int pa_nil)) (pg_name (i := 3) sc_law.nd rfl (Or.inl rfl)) (pss_cons (ps_par (by rfl) sc_law.nd (i := 5) (j := 6) rfl rfl (by decide) rfl rfl (pa_cons (pe_call G_law_program (hr.mono (by decide)) rfl T.g_law_program T.k_law_program T.b_law_program .nil pass0 (pa_cons (pv 2) pa_nil)) (pa_cons (pe_call G_law_program (hr.mono (by decide)) rfl T.g_law_program T.k_law_program T.b_law_program .nil pass0 (pa_cons (pv 2) pa_nil)) pa_nil)) (by rfl))
    (pss_cons (ps_par (by rfl) sc_law.nd (i := 7) (j := 8) rfl rfl (by decide) rfl rfl (pa_cons (pe_lst pa_nil) (pa_cons (pe_callB (c_repr hg (hu4 hr)) (by rfl) T.n_repr (by decide +kernel) (pa_cons (pe_lst (pa_cons (pv 5) (pa_cons (pv 6) pa_nil))) pa_nil)) pa_nil)) (by rfl))
    (pss_cons (ps_forYE PassesOwn.never (fun _ _ z => z) (hr.mono (by decide)) (pgn_callE G_orders (hr.mono (by decide)) rfl T.g_orders T.k_orders T.b_orders (pa_cons (pv 5) (pa_cons (pv 6) pa_nil)) (fun _ _ z => z)) (pg_name (i := 4) sc_law.nd rfl (Or.inl rfl)) (pss_cons (ps_setLcYE (i := 9) (own := [("_law_second", 10)]) (hr.mono (by decide)) sc_law.nd rfl rfl (sw_true rfl rfl rfl (by decide +kernel)) (pgn_callE G_orders (hr.mono (by decide)) rfl T.g_orders T.k_orders T.b_orders (pa_cons (pv 5) (pa_cons (pv 6) pa_nil)) (fun _ _ z => z)) (blkOk_by (own := [("_law_second", 10)]) (N := N_law) (sc := defScope s_law) (by decide +kernel)) (fun _ _ => rfl) (fun _ _ _ _ _ => (pg_name (i := 10) sc_law.nd rfl (Or.inl rfl))) (fun _ _ _ _ _ => (pv 10)))
    (pss_cons (ps_if (pt_cmpR (o_ne (hu4 hr)) (pe_ix (ix_any (hu_of hr)) (pv 9) (pe_callB c_len (by rfl) T.n_len (by decide +kernel) (pa_cons (pv 7) pa_nil)) (fun _ _ => rfl)) (pv 4) (nomark _)) (pss_one (ps_ret pe_bl)) pss_nil)
    (pss_one (ps_expr (pe_bm PySem.F.plainAttrs_list PySem.F.slot_list_append PySem.F.type_list_append mt_append (pv 7) (pa_cons (pv 4) pa_nil)))))))
    (pss_one (ps_if (PW.pt (pw_or (pt_not (pt_val (pe_call G_law_is_right (hr.mono (by decide)) rfl T.g_law_is_right T.k_law_is_right T.b_law_is_right .nil pass0 (pa_cons (pv 7) (pa_cons (pe_callB c_len (by rfl) T.n_len (by decide +kernel) (pa_cons (pv 5) pa_nil)) (pa_cons (pe_callB c_len (by rfl) T.n_len (by decide +kernel) (pa_cons (pv 6) pa_nil)) pa_nil)))))) (pw_or1 (pt_cmpR (o_ne (hu4 hr)) (pe_callB (c_repr hg (hu4 hr)) (by rfl) T.n_repr (by decide +kernel) (pa_cons (pe_lst (pa_cons (pv 5) (pa_cons (pv 6) pa_nil))) pa_nil)) (pv 8) (nomark _))))) (pss_one (ps_ret pe_bl)) pss_nil)))))))))
    (pss_one (ps_ret (pe_and (pe_cmpR (o_eq (hu4 hr)) (pe_lcYE (own := [("_law_text", 8)]) (hr.mono (by decide)) sc_law.nd (pgn_callE G_orders (hr.mono (by decide)) rfl T.g_orders T.k_orders T.b_orders (pa_cons (pe_lst pa_nil) (pa_cons (pe_lst pa_nil) pa_nil)) (fun _ _ z => z)) (blkOk_by (own := [("_law_text", 8)]) (N := N_law) (sc := defScope s_law) (by decide +kernel)) (fun _ _ => rfl) (fun _ _ _ _ _ => (pg_name (i := 8) sc_law.nd rfl (Or.inl rfl))) (fun _ _ _ _ _ => (pv 8))) (pe_lst (pa_cons pe_str pa_nil)) (nomark _)) (pe_one (pe_cmpR (o_eq (hu4 hr)) (pe_lcYE (own := [("_law_text", 8)]) (hr.mono (by decide)) sc_law.nd (pgn_callE G_orders (hr.mono (by decide)) rfl T.g_orders T.k_orders T.b_orders (pa_cons (pe_lst (pa_cons (pe_tup (pa_cons pe_str (pa_cons pe_str pa_nil))) pa_nil)) (pa_cons (pe_lst pa_nil) pa_nil)) (fun _ _ z => z)) (blkOk_by (own := [("_law_text", 8)]) (N := N_law) (sc := defScope s_law) (by decide +kernel)) (fun _ _ => rfl) (fun _ _ _ _ _ => (pg_name (i := 8) sc_law.nd rfl (Or.inl rfl))) (fun _ _ _ _ _ => (pv 8))) (pe_lst (pa_cons pe_str pa_nil)) (nomark _)))))))
end
end Nm

set_option Elab.async false
set_option linter.all false
set_option maxRecDepth 100000
set_option maxHeartbeats 400000
namespace Nm
open PySem PySem.Spec L2
local macro_rules | `(tactic| walk_at "ev") => `(tactic| first
  | (with_reducible apply ev_var; assumption; with_unfolding_all rfl)
  | (with_reducible apply ev_c; first | with_reducible exact Den.int _ | with_reducible exact Den.str _ | with_reducible exact Den.bl _ | with_reducible exact Den.non | with_reducible exact Den.ty _)
  | with_reducible exact ea_nil
  | (with_reducible apply ea_cons; walk_at "ev"; walk_at "ev")
  | (with_reducible apply ev_op; walk_at "ev"; walk_at "ev"; walk_at "rv")
  | (with_reducible apply ev_cb; walk_at "ev"; walk_at "rv")
  | (with_reducible apply ev_lst; walk_at "ev"; walk_at "sz")
  | (with_reducible apply ev_tup; walk_at "ev"; walk_at "sz")
  | (with_reducible apply ev_un; walk_at "ev"; walk_at "rv")
  | (with_reducible apply ev_chainU; walk_at "ev"; walk_at "ev"; walk_at "rv"; walk_at "ev"; walk_at "rv")
  | with_reducible exact ev_dnew
  | with_reducible exact ev_disp1 (fun _ => Den.str _)
  | (with_reducible apply et_test; walk_at "ev")
  | (with_reducible apply et_B; walk_at "ev")
  | (with_reducible apply et_not; walk_at "ev")
  | (with_reducible apply ev_not; walk_at "ev")
  | (with_reducible apply ev_sl_str; walk_at "ev"; walk_at "ev"; walk_at "ev"; walk_at "sz")
  | (with_reducible apply eo_some; walk_at "ev")
  | with_reducible exact eo_none)
local macro_rules | `(tactic| walk_at "rv") => `(tactic| first
  | with_reducible exact rv_add_int | (with_reducible apply rv_add_str; walk_at "sz") | (with_reducible apply rv_add_lst; walk_at "sz")
  | with_reducible exact rv_lt_int | with_reducible exact rv_le_int | with_reducible exact rv_gt_int | with_reducible exact rv_ge_int
  | with_reducible exact rvA_eq_int | with_reducible exact rvA_eq_str | with_reducible exact rvA_ne_int | with_reducible exact rvA_ne_str
  | (with_reducible apply rv_mul_int; walk_at "mul")
  | with_reducible exact rv_in_sign | (with_reducible apply rc_len_str; walk_at "sz") | with_reducible exact rc_len_lst | with_reducible exact rc_len_tup
  | with_reducible exact rc_abs | with_reducible exact rc_max2 | with_reducible exact rc_min2
  | with_reducible exact rc_all | with_reducible exact rc_any | with_reducible exact ru_neg
  | (with_reducible apply rc_isiA; with_unfolding_all rfl; decide +kernel)
  | (with_reducible apply rv_ix_lst; with_unfolding_all rfl) | (with_reducible apply rv_ix_tup; with_unfolding_all rfl)
  | (with_reducible apply rv_I; first | walk_at "sd" | (unfold CPow; decide) | (unfold CDiv; first | decide | omega)))
local macro_rules | `(tactic| walk_at "sz") => `(tactic| first | assumption | (rw [sizeLine_eq]; omega) | (rw [sizeLine_eq]; decide) | (simp [sizeLine_eq]; done))
local macro_rules | `(tactic| walk_at "sd") => `(tactic| first | assumption | omega | decide)
local macro_rules | `(tactic| walk_at "mul") => `(tactic| first | exact Or.inl ⟨by omega, by omega⟩ | exact Or.inr ⟨by omega, by omega⟩)
/-! ### orders -/
def ordF : Nat → Nat → List (List Nat)
  | 0, b => [List.replicate b 49]
  | a + 1, 0 => [List.replicate (a + 1) 48]
  | a + 1, b + 1 => (ordF a (b + 1)).map (48 :: ·) ++ (ordF (a + 1) b).map (49 :: ·)
theorem ordF_len : ∀ (a b : Nat) (w : List Nat), w ∈ ordF a b → w.length = a + b
  | 0, b, w, h => by
    have h : w ∈ [List.replicate b 49] := by unfold ordF at h; exact h
    rw [List.mem_singleton.mp h, List.length_replicate]; omega
  | a + 1, 0, w, h => by
    have h : w ∈ [List.replicate (a + 1) 48] := by unfold ordF at h; exact h
    rw [List.mem_singleton.mp h, List.length_replicate, Nat.add_zero]
  | a + 1, b + 1, w, h => by
    have h : w ∈ (ordF a (b + 1)).map (48 :: ·) ++ (ordF (a + 1) b).map (49 :: ·) := by rw [ordF] at h; first | exact h | assumption
    rcases List.mem_append.mp h with h | h
    · obtain ⟨z, hz, rfl⟩ := List.mem_map.mp h
      have := ordF_len a (b + 1) z hz
      rw [List.length_cons]; omega
    · obtain ⟨z, hz, rfl⟩ := List.mem_map.mp h
      have := ordF_len (a + 1) b z hz
      rw [List.length_cons]; omega
theorem ordF_base {a b : Nat} (h : a = 0 ∨ b = 0) : ordF a b = [List.replicate a 48 ++ List.replicate b 49] := by
  rcases h with rfl | rfl
  · rw [ordF]; simp
  · cases a with
    | zero => rw [ordF]; simp
    | succ a => rw [ordF]; simp
/-- a deed -/
def Gd (d : D) : Prop := plain d = true ∧ (toPy d).showable = true ∧ (toPy d).canLay0 = true ∧ (toPy d).depth ≤ 1 ∧ (toPy d).shown.length ≤ 60
theorem gd_list : ∀ {p : List D}, (∀ d ∈ p, Gd d) → plainL p = true ∧ PyData.showableAll (toPyL p) = true ∧ PyData.canLayAll0 (toPyL p) = true ∧ PyData.depthAll (toPyL p) ≤ 1 ∧ piled (PyData.shownAll (toPyL p)) ≤ p.length * 62
  | [], _ => by
    unfold plainL toPyL
    simp only [PyData.showableAll, PyData.canLayAll0, PyData.depthAll, PyData.shownAll, piled_nil]
    exact ⟨trivial, trivial, trivial, by omega, by omega⟩
  | d :: p, h => by
    obtain ⟨h1, h2, h3, h4, h5⟩ := gd_list (p := p) fun e he => h e (List.mem_cons_of_mem _ he)
    obtain ⟨k1, k2, k3, k4, k5⟩ := h d List.mem_cons_self
    unfold plainL toPyL
    simp only [PyData.showableAll, PyData.canLayAll0, PyData.depthAll, PyData.shownAll, piled_cons, h1, h2, h3, k1, k2, k3, List.length_cons]
    exact ⟨rfl, rfl, rfl, by omega, by omega⟩
def dOk (p : List D) : Prop := p.length ≤ 4 ∧ ∀ d ∈ p, Gd d
theorem rv_eq_nil47 {K : PySem.W.Frag} {p : List D} (h : dOk p) : RvD K (rEqA K) (.lst p) (.lst []) (.bl p.isEmpty) := fun F H x y s hx hy Q q => by
  obtain ⟨h1, h2, h3, h4, h5⟩ := gd_list h.2
  have pl : plain (.lst p) = true := by unfold plain; exact h1
  have sh : SeqAt.shaped (toPy (.lst p)) = true := by
    unfold SeqAt.shaped toPy
    simp only [PyData.canLay0, PyData.depth, h3, Bool.true_and]
    exact decide_eq_true (by omega)
  refine .inr ⟨_, _, den_dp s _ hx pl, den_dp s _ hy rfl, sh, by decide +kernel, ?_⟩
  rw [eqv_nil]
  exact q _ F H (Ext.refl s) (.bl _)
theorem okR_two {p q : List D} (h1 : dOk p) (h2 : dOk q) : okR (.lst [.lst p, .lst q]) = true := by
  obtain ⟨a1, a2, a3, a4, a5⟩ := gd_list h1.2
  obtain ⟨b1, b2, b3, b4, b5⟩ := gd_list h2.2
  have c1 := h1.1
  have c2 := h2.1
  have e1 := listText_le (PyData.shownAll (toPyL p))
  have e2 := listText_le (PyData.shownAll (toPyL q))
  have e3 := listText_le [listText (PyData.shownAll (toPyL p)), listText (PyData.shownAll (toPyL q))]
  unfold okR shownD
  simp only [plain, plainL, toPy, toPyL, PyData.showable, PyData.showableAll, PyData.depth, PyData.depthAll, PyData.shown, PyData.shownAll, a1, a2, b1, b2, Bool.and_self, Bool.true_or, Bool.true_and, Bool.and_eq_true, decide_eq_true_eq]
  simp only [piled_cons, piled_nil] at e3
  exact ⟨by omega, by omega⟩
/-- what orders promises its consumer (n: how deep it may go) -/
def spOrd (K : PySem.W.Frag) (n : Nat) : SpY := fun TT vs H m τ YP DN => ∃ (F : Hp) (p q : List D) (Mg : List Addr) (Cv : Nat → TT → Hp → Hp → Prop), Same F H ∧ DenL K F vs [.lst p, .lst q] ∧ dOk p ∧ dOk q ∧ p.length + q.length < n ∧
  (ordF p.length q.length).length ≤ m ∧ (∀ a ∈ Mg, H a ≠ none) ∧ Cv 0 τ F H ∧
  (∀ i τ F1 H1 F2 H2, Cv i τ F1 H1 → Same F1 F2 → Same F2 H2 → (∀ a, H a ≠ none → H2 a = H1 a ∧ (F1 a = none → F2 a = none)) → Cv i τ F2 H2) ∧
  (∀ i wd τ F1 H1 x m κ, (ordF p.length q.length)[i]? = some wd → Same F1 H1 → (∀ a, H a ≠ none → H1 a ≠ none) → Cv i τ F1 H1 → Den K F1 x (txt wd) → (∀ τ' F2 H2, Ext Mg F1 H1 F2 H2 → Cv (i + 1) τ' F2 H2 → κ τ' H2) → YP m τ x H1 κ) ∧
  (∀ τ F1 H1, Same F1 H1 → (∀ a, H a ≠ none → H1 a ≠ none) → Cv (ordF p.length q.length).length τ F1 H1 → DN τ H1)
theorem rec_noneY {K : PySem.W.Frag} {TT : Type} {vs : List V} {H : Hp} {m : Nat} {τ : TT} {YP : YPt TT} {DN : TT → Hp → Prop} (h : spOrd K 0 TT vs H m τ YP DN) : False := by
  obtain ⟨F, p, q, Mg, Cv, _, _, _, _, hn, _⟩ := h
  omega
section
variable {F H F5 H5 : Hp} {pv : List (Addr × Obj)}
theorem plus_ext {pv : List (Addr × Obj)} (s : Same F H) (ho : OffP H pv) : Ext [] F H F (plus H pv) := by
  refine Ext.of (Same.refl _) (fun a o h => plus_some ho h) (fun a o h => plus_some ho (s a o h)) fun _ h _ => h
theorem ext_minusM {M : List Addr} (s : Same F H) (ho : OffP H pv) (hM : ∀ a ∈ M, H a ≠ none) (x : Ext M F (plus H pv) F5 H5) : OnP H5 pv ∧ Ext M F H F5 (minus H5 pv) := by
  have off : ∀ {a : Addr}, H a ≠ none → ¬ inPv pv a := fun {a} h ⟨p, hp, e⟩ => h (by rw [← e]; exact ho p hp)
  have fin : ∀ {a : Addr}, inPv pv a → F5 a = none := fun {a} h => by
    refine x.n a ?_ ?_
    · cases e : F a with
      | none => rfl
      | some o => exact absurd h (off (by rw [s a o e]; simp))
    · obtain ⟨p, _, _, e⟩ := plus_in (H := H) h
      rw [e]; simp
  refine ⟨fun p hp => ?_, x.f, fun a o m e => ?_, fun a o e => ?_, fun a e k => x.n a e ?_, fun a k => ?_⟩
  · obtain ⟨q, h1, h2, h3⟩ := onP_plus (H := H) (pv := pv) p hp
    exact ⟨q, h1, h2, x.h _ _ (fun z => off (hM _ z) ⟨p, hp, rfl⟩) h3⟩
  · rw [minus_out (off (by rw [e]; simp))]
    exact x.h a o m (plus_some ho e)
  · have ni : ¬ inPv pv a := fun h => by rw [fin h] at e; cases e
    rw [minus_out ni]
    exact x.s a o e
  · cases e : H a with
    | none => exact absurd e k
    | some o => rw [plus_some ho e]; simp
  · cases e : H a with
    | none => exact absurd e k
    | some o =>
      rw [minus_out (off k)]
      exact x.k a (by rw [plus_some ho e]; simp)
end
section
variable {K : PySem.W.Frag} {TT : Type}
theorem g_nm {j : Nat} {v : V} {σ : L2.St} {H : Hp} {Q : L2.St → Hp → Prop} (h : Q (σ.set j (some v)) H) : gName j v σ H Q := h
theorem rd_forOrd {n m c i0 : Nat} {τ : TT} {σ : L2.St} {F H H0 : Hp} {p q p' q' : List D} {s2 : Sl} {ws : List (List Nat)} {Mg : List Addr} {Cv : Nat → TT → Hp → Hp → Prop} {D : GE TT} {ta : TA} {s : Str}
    (hs : s = ⟨#[c]⟩) (hA : EvA K ta σ F [.lst p', .lst q']) (hp : dOk p') (hq : dOk q') (hn : p'.length + q'.length < n)
    (hw : ∀ j wd, (ordF p'.length q'.length)[j]? = some wd → ws[i0 + j]? = some (c :: wd)) (hMg : ∀ a ∈ Mg, H0 a ≠ none)
    (stab : ∀ i τ F1 H1 F2 H2, Cv i τ F1 H1 → Same F1 F2 → Same F2 H2 → (∀ a, H0 a ≠ none → H2 a = H1 a ∧ (F1 a = none → F2 a = none)) → Cv i τ F2 H2)
    (step : ∀ i wd τ F1 H1 x m κ, ws[i]? = some wd → Same F1 H1 → (∀ a, H0 a ≠ none → H1 a ≠ none) → Cv i τ F1 H1 → Den K F1 x (txt wd) → (∀ τ' F2 H2, Ext Mg F1 H1 F2 H2 → Cv (i + 1) τ' F2 H2 → κ τ' H2) → D.yp m τ x H1 κ)
    (S : Same F H) (kp : ∀ a, H0 a ≠ none → H a ≠ none) (c0 : Cv i0 τ F H) (E : EnvD K F [.d (.lst p), .d (.lst q), s2] σ) (hm : ws.length ≤ m + i0)
    (nx : ∀ n' τ' σ' F' H' s2, Same F' H' → (∀ a, H0 a ≠ none → H' a ≠ none) → Cv (i0 + (ordF p'.length q'.length).length) τ' F' H' → EnvD K F' [.d (.lst p), .d (.lst q), s2] σ' → ws.length ≤ n' + (i0 + (ordF p'.length q'.length).length) → D.nx n' τ' σ' H') :
    tGFor1 (tCallY P_orders.length (spOrd K n) ta) (gName 2) (tOp (rAddA K) (tC (.str s)) (tVar 2)) D m τ σ H := by
  refine hA H S _ fun vs F1 H1 x1 dl => ?_
  have hl : vs.length = 2 := by rw [dl.length]; rfl
  have keep1 : ∀ a, H0 a ≠ none → H1 a = H a ∧ (F a = none → F1 a = none) := fun a ha => by
    cases e : H a with
    | none => exact absurd e (kp a ha)
    | some o => exact ⟨x1.same a o e, fun z => x1.n a z (by rw [e]; simp)⟩
  have kp1 : ∀ a, H0 a ≠ none → H1 a ≠ none := fun a ha => by rw [(keep1 a ha).1]; exact kp a ha
  refine ⟨hl, (ordF p'.length q'.length).length, fun s₀ H₀ => ?_⟩
  refine ⟨F1, p', q', Mg, fun j t F' H' => Cv (i0 + j) t.τ F' H' ∧ ws.length ≤ t.n + (i0 + j) ∧ ∃ s2, EnvD K F' [.d (.lst p), .d (.lst q), s2] t.σ, x1.s, dl, hp, hq, hn, Nat.le_refl _, fun a ha => kp1 a (hMg a ha), ⟨?_, ?_, s2, E.up x1.f⟩, ?_, ?_, ?_⟩
  · exact stab _ _ _ _ _ _ c0 x1.f x1.s keep1
  · rw [Nat.add_zero]; exact hm
  · rintro j t F2 H2 F3 H3 ⟨q1, q2, s3, q3⟩ f s k
    exact ⟨stab _ _ _ _ _ _ q1 f s fun a ha => k a (kp1 a ha), q2, s3, q3.up f⟩
  · rintro j wd t F2 H2 x m' κ hj S2 kp2 ⟨q1, q2, s3, q3⟩ dx hκ
    intro pv hoff
    have kp02 : ∀ a, H0 a ≠ none → H2 a ≠ none := fun a ha => kp2 a (kp1 a ha)
    refine g_nm ?_
    have hi := hw j wd hj
    have hlt : i0 + j < ws.length := (List.getElem?_eq_some_iff.mp hi).1
    refine ⟨t.n - 1, by omega, ?_⟩
    have xp := plus_ext S2 hoff
    have E3 : EnvD K F2 [.d (.lst p), .d (.lst q), .d (txt wd)] (t.σ.set 2 (some x)) := EnvD.set (s := .d (txt wd)) 2 q3 ⟨x, rfl, dx⟩
    have hz : wd.length ≤ 8 := by
      have := ordF_len _ _ wd (List.mem_of_getElem? hj)
      have := hp.1; have := hq.1; omega
    subst hs
    refine (ev_catT (a := [c]) (b := wd) (ev_c (.str _)) (ev_var (i := 2) E3 rfl) (by show 1 + wd.length ≤ _; omega)) (plus H2 pv) xp.s _ fun y F3 H3 x3 dy => ?_
    have x23 : Ext [] F2 H2 F3 H3 := xp.tr x3
    have keep : ∀ a, H0 a ≠ none → H3 a = H2 a ∧ (F2 a = none → F3 a = none) := fun a ha => by
      cases e : H2 a with
      | none => exact absurd e (kp02 a ha)
      | some o => exact ⟨x23.same a o e, fun z => x23.n a z (by rw [e]; simp)⟩
    refine step (i0 + j) (c :: wd) t.τ F3 H3 y (t.n - 1) _ hi x3.s (fun a ha => by rw [(keep a ha).1]; exact kp02 a ha) (stab _ _ _ _ _ _ q1 x23.f x23.s keep) dy fun τ' F4 H4 x4 cv4 => ?_
    obtain ⟨on, xm⟩ := ext_minusM S2 hoff (fun a ha => kp02 a (hMg a ha)) (x3.tr x4)
    refine ⟨on, fun s₁ H₁ => hκ _ F4 (minus H4 pv) xm ⟨?_, ?_, .d (txt wd), E3.up (x3.f.trans x4.f)⟩⟩
    · refine stab _ _ F4 H4 _ _ cv4 (Same.refl _) xm.s fun a ha => ⟨minus_out ?_, fun z => z⟩
      rintro ⟨pp, hpp, e⟩
      exact kp02 a ha (by rw [← e]; exact hoff pp hpp)
    · show ws.length ≤ t.n - 1 + (i0 + (j + 1))
      omega
  · rintro t F2 H2 S2 kp2 ⟨q1, q2, s3, q3⟩
    exact nx t.n t.τ t.σ F2 H2 s3 S2 (fun a ha => kp2 a (kp1 a ha)) q1 q3 q2
theorem dOk_drop {p : List D} (h : dOk p) : dOk (p.drop 1) := ⟨by have := h.1; rw [List.length_drop]; omega, fun d hd => h.2 d (List.mem_of_mem_drop hd)⟩
theorem rd_orders {n m : Nat} {vs : List V} {H : Hp} {τ : TT} {YP : YPt TT} {DN : TT → Hp → Prop} (h : spOrd K (n + 1) TT vs H m τ YP DN) :
    t_orders K (spOrd K n) TT { nx := fun _ τ' _ H' => DN τ' H', rt := fun _ τ' v H' => v = .non ∧ DN τ' H', yp := YP } m τ (start N_orders vs) H := by
  obtain ⟨F, p, q, Mg, Cv, S, l, hp, hq, hn, hm, hMg, c0, stab, step, done⟩ := h
  obtain ⟨v, u, rfl, hv, hu⟩ : ∃ v u, vs = [v, u] ∧ Den K F v (.lst p) ∧ Den K F u (.lst q) := by
    cases l with
    | cons a l =>
      cases l with
      | cons b l => cases l; exact ⟨_, _, rfl, a, b⟩
  have E1 : EnvD K F [.d (.lst p), .d (.lst q), .u] (start N_orders [v, u]) := .cons ⟨v, rfl, hv⟩ (.cons ⟨u, rfl, hu⟩ (.cons trivial .nil))
  have hT : EvT K (tOr (tTest (tOp (rEqA K) (tVar 0) (tLst tNil))) (tTest (tOp (rEqA K) (tVar 1) (tLst tNil)))) (start N_orders [v, u]) F (p.isEmpty || q.isEmpty) :=
    et_or (et_test (ev_op (ev_var (i := 0) E1 rfl) (ev_lst ea_nil sz0) (rv_eq_nil47 hp))) fun _ => et_test (ev_op (ev_var (i := 1) E1 rfl) (ev_lst ea_nil sz0) (rv_eq_nil47 hq))
  refine hT H S _ fun F1 H1 x1 => ?_
  have keep1 : ∀ a, H a ≠ none → H1 a = H a ∧ (F a = none → F1 a = none) := fun a ha => by
    cases e : H a with
    | none => exact absurd e ha
    | some o => exact ⟨x1.same a o e, fun z => x1.n a z (by rw [e]; simp)⟩
  have kp1 : ∀ a, H a ≠ none → H1 a ≠ none := fun a ha => by rw [(keep1 a ha).1]; exact ha
  have c1 := stab _ _ _ _ _ _ c0 x1.f x1.s keep1
  have E2 := E1.up x1.f
  by_cases hb : (p.isEmpty || q.isEmpty) = true
  · rw [if_pos hb]
    have e : ordF p.length q.length = [List.replicate p.length 48 ++ List.replicate q.length 49] := ordF_base (by
      rw [Bool.or_eq_true, List.isEmpty_iff, List.isEmpty_iff] at hb
      rcases hb with rfl | rfl
      · exact .inl rfl
      · exact .inr rfl)
    have hl1 : (ordF p.length q.length).length = 1 := by rw [e]; rfl
    have p4 := hp.1
    have q4 := hq.1
    refine ⟨m - 1, by omega, ?_⟩
    have a0 : ∀ (n c : Nat), (List.replicate n [c]).flatten = List.replicate n c := fun n c => by
      induction n with
      | zero => rfl
      | succ n ih => rw [List.replicate_succ, List.flatten_cons, ih, List.replicate_succ]; rfl
    have e1 : EvD K (tOp (rMulA K) (tC (.str "0")) (tCB (rLenA K) (tCons (tVar 0) tNil))) (start N_orders [v, u]) F1 (txt (List.replicate p.length 48)) := ev_is (ev_op (ev_is (ev_c (.str _)) (show D.str "0" = txt [48] from rfl)) (ev_cb (ea_cons (ev_var (i := 0) E2 rfl) ea_nil) rc_len_lst) (rv_mul_txt (by omega) (by show 1 * _ ≤ _; omega))) (by rw [a0])
    have e2 : EvD K (tOp (rMulA K) (tC (.str "1")) (tCB (rLenA K) (tCons (tVar 1) tNil))) (start N_orders [v, u]) F1 (txt (List.replicate q.length 49)) := ev_is (ev_op (ev_is (ev_c (.str _)) (show D.str "1" = txt [49] from rfl)) (ev_cb (ea_cons (ev_var (i := 1) E2 rfl) ea_nil) rc_len_lst) (rv_mul_txt (by omega) (by show 1 * _ ≤ _; omega))) (by rw [a0])
    refine (ev_catT e1 e2 (by rw [List.length_replicate, List.length_replicate]; omega)) H1 x1.s _ fun y F2 H2 x2 d2 => ?_
    have keep2 : ∀ a, H a ≠ none → H2 a = H1 a ∧ (F1 a = none → F2 a = none) := fun a ha => by
      cases e : H1 a with
      | none => exact absurd e (kp1 a ha)
      | some o => exact ⟨x2.same a o e, fun z => x2.n a z (by rw [e]; simp)⟩
    have kp2 : ∀ a, H a ≠ none → H2 a ≠ none := fun a ha => by rw [(keep2 a ha).1]; exact kp1 a ha
    refine step 0 _ τ F2 H2 y (m - 1) _ (by rw [e]; rfl) x2.s kp2 (stab _ _ _ _ _ _ c1 x2.f x2.s keep2) d2 fun τ' F3 H3 x3 cv => done τ' F3 H3 x3.s (fun a ha => x3.k a (kp2 a ha)) (by rw [hl1]; exact cv)
  · rw [if_neg hb]
    have hb : p ≠ [] ∧ q ≠ [] := by
      simp only [Bool.or_eq_true, List.isEmpty_iff, not_or] at hb
      exact hb
    obtain ⟨d1, p', rfl⟩ : ∃ d p', p = d :: p' := by
      cases p with
      | nil => exact absurd rfl hb.1
      | cons d p => exact ⟨d, p, rfl⟩
    obtain ⟨d2, q', rfl⟩ : ∃ d q', q = d :: q' := by
      cases q with
      | nil => exact absurd rfl hb.2
      | cons d q => exact ⟨d, q, rfl⟩
    have hw : ordF (d1 :: p').length (d2 :: q').length = (ordF p'.length (d2 :: q').length).map (48 :: ·) ++ (ordF (d1 :: p').length q'.length).map (49 :: ·) := by
      show ordF (p'.length + 1) (q'.length + 1) = _
      rw [ordF]; rfl
    have hn' : p'.length + 1 + (q'.length + 1) < n + 1 := hn
    have hp' : dOk p' := dOk_drop hp
    have hq' : dOk q' := dOk_drop hq
    refine rd_forOrd (i0 := 0) (c := 48) (H0 := H) (ws := ordF (d1 :: p').length (d2 :: q').length) (p' := p') (q' := d2 :: q') rfl (ea_cons (ev_is (ev_tail (ev_var (i := 0) E2 rfl)) rfl) (ea_cons (ev_var (i := 1) E2 rfl) ea_nil)) hp' hq (by rw [List.length_cons]; omega) (fun j wd hj => ?_) hMg stab step x1.s kp1 c1 E2 (by omega) ?_
    · rw [hw, Nat.zero_add, List.getElem?_append_left (by rw [List.length_map]; exact (List.getElem?_eq_some_iff.mp hj).1), List.getElem?_map, hj]; rfl
    intro n' τ' σ' F2 H2 s2 S2 kp2 cv2 E3 hm2
    refine rd_forOrd (i0 := 0 + (ordF p'.length (d2 :: q').length).length) (c := 49) (H0 := H) (ws := ordF (d1 :: p').length (d2 :: q').length) (p' := d1 :: p') (q' := q') rfl (ea_cons (ev_var (i := 0) E3 rfl) (ea_cons (ev_is (ev_tail (ev_var (i := 1) E3 rfl)) rfl) ea_nil)) hp hq' (by rw [List.length_cons]; omega) (fun j wd hj => ?_) hMg stab step S2 kp2 cv2 E3 (by omega) ?_
    · rw [hw, Nat.zero_add, List.getElem?_append_right (by rw [List.length_map]; omega), List.length_map, Nat.add_sub_cancel_left, List.getElem?_map, hj]; rfl
    intro n3 τ3 σ3 F4 H4 s4 S4 kp4 cv4 E4 hm4
    refine done τ3 F4 H4 S4 kp4 ?_
    have hl : (ordF (d1 :: p').length (d2 :: q').length).length = 0 + (ordF p'.length (d2 :: q').length).length + (ordF (d1 :: p').length q'.length).length := by
      rw [hw, List.length_append, List.length_map, List.length_map]; omega
    rw [hl]
    exact cv4
end
end Nm

set_option Elab.async false
set_option linter.all false
set_option maxRecDepth 100000
set_option maxHeartbeats 400000
namespace Nm
open PySem PySem.Spec L2
local macro_rules | `(tactic| walk_at "ev") => `(tactic| first
  | (with_reducible apply ev_var; assumption; with_unfolding_all rfl)
  | (with_reducible apply ev_c; first | with_reducible exact Den.int _ | with_reducible exact Den.str _ | with_reducible exact Den.bl _ | with_reducible exact Den.non | with_reducible exact Den.ty _)
  | with_reducible exact ea_nil
  | (with_reducible apply ea_cons; walk_at "ev"; walk_at "ev")
  | (with_reducible apply ev_op; walk_at "ev"; walk_at "ev"; walk_at "rv")
  | (with_reducible apply ev_cb; walk_at "ev"; walk_at "rv")
  | (with_reducible apply ev_lst; walk_at "ev"; walk_at "sz")
  | (with_reducible apply ev_tup; walk_at "ev"; walk_at "sz")
  | (with_reducible apply ev_un; walk_at "ev"; walk_at "rv")
  | (with_reducible apply ev_chainU; walk_at "ev"; walk_at "ev"; walk_at "rv"; walk_at "ev"; walk_at "rv")
  | with_reducible exact ev_dnew
  | with_reducible exact ev_disp1 (fun _ => Den.str _)
  | (with_reducible apply et_test; walk_at "ev")
  | (with_reducible apply et_B; walk_at "ev")
  | (with_reducible apply et_not; walk_at "ev")
  | (with_reducible apply ev_not; walk_at "ev")
  | (with_reducible apply ev_sl_str; walk_at "ev"; walk_at "ev"; walk_at "ev"; walk_at "sz")
  | (with_reducible apply eo_some; walk_at "ev")
  | with_reducible exact eo_none)
local macro_rules | `(tactic| walk_at "rv") => `(tactic| first
  | with_reducible exact rv_add_int | (with_reducible apply rv_add_str; walk_at "sz") | (with_reducible apply rv_add_lst; walk_at "sz")
  | with_reducible exact rv_lt_int | with_reducible exact rv_le_int | with_reducible exact rv_gt_int | with_reducible exact rv_ge_int
  | with_reducible exact rvA_eq_int | with_reducible exact rvA_eq_str | with_reducible exact rvA_ne_int | with_reducible exact rvA_ne_str
  | (with_reducible apply rv_mul_int; walk_at "mul")
  | with_reducible exact rv_in_sign | (with_reducible apply rc_len_str; walk_at "sz") | with_reducible exact rc_len_lst | with_reducible exact rc_len_tup
  | with_reducible exact rc_abs | with_reducible exact rc_max2 | with_reducible exact rc_min2
  | with_reducible exact rc_all | with_reducible exact rc_any | with_reducible exact ru_neg
  | (with_reducible apply rc_isiA; with_unfolding_all rfl; decide +kernel)
  | (with_reducible apply rv_ix_lst; with_unfolding_all rfl) | (with_reducible apply rv_ix_tup; with_unfolding_all rfl)
  | (with_reducible apply rv_I; first | walk_at "sd" | (unfold CPow; decide) | (unfold CDiv; first | decide | omega)))
local macro_rules | `(tactic| walk_at "sz") => `(tactic| first | assumption | (rw [sizeLine_eq]; omega) | (rw [sizeLine_eq]; decide) | (simp [sizeLine_eq]; done))
local macro_rules | `(tactic| walk_at "sd") => `(tactic| first | assumption | omega | decide)
local macro_rules | `(tactic| walk_at "mul") => `(tactic| first | exact Or.inl ⟨by omega, by omega⟩ | exact Or.inr ⟨by omega, by omega⟩)
/-! ### the strings -/
theorem ordF_cnt : ∀ (a b : Nat) (w : List Nat), w ∈ ordF a b → w.count 48 = a ∧ ∀ c ∈ w, c = 48 ∨ c = 49
  | 0, b, w, h => by
    have h : w ∈ [List.replicate b 49] := by unfold ordF at h; exact h
    rw [List.mem_singleton.mp h]
    exact ⟨List.count_eq_zero.mpr fun z => by have := List.eq_of_mem_replicate z; omega, fun c hc => .inr (List.eq_of_mem_replicate hc)⟩
  | a + 1, 0, w, h => by
    have h : w ∈ [List.replicate (a + 1) 48] := by unfold ordF at h; exact h
    rw [List.mem_singleton.mp h]
    exact ⟨List.count_replicate_self, fun c hc => .inl (List.eq_of_mem_replicate hc)⟩
  | a + 1, b + 1, w, h => by
    have h : w ∈ (ordF a (b + 1)).map (48 :: ·) ++ (ordF (a + 1) b).map (49 :: ·) := by rw [ordF] at h; exact h
    rcases List.mem_append.mp h with h | h
    · obtain ⟨z, hz, rfl⟩ := List.mem_map.mp h
      obtain ⟨h1, h2⟩ := ordF_cnt a (b + 1) z hz
      refine ⟨by rw [List.count_cons_self, h1], fun c hc => ?_⟩
      rcases List.mem_cons.mp hc with rfl | hc
      · exact .inl rfl
      · exact h2 c hc
    · obtain ⟨z, hz, rfl⟩ := List.mem_map.mp h
      obtain ⟨h1, h2⟩ := ordF_cnt (a + 1) b z hz
      refine ⟨by rw [List.count_cons_of_ne (by decide), h1], fun c hc => ?_⟩
      rcases List.mem_cons.mp hc with rfl | hc
      · exact .inr rfl
      · exact h2 c hc
theorem cons_ltL (c : Nat) {x y : List Nat} (h : x < y) : (c :: x) < (c :: y) := List.cons_lt_cons_iff.mpr (.inr ⟨rfl, h⟩)
theorem ordF_asc : ∀ (a b : Nat), (ordF a b).Pairwise (· < ·)
  | 0, b => by unfold ordF; exact List.pairwise_singleton _ _
  | a + 1, 0 => by unfold ordF; exact List.pairwise_singleton _ _
  | a + 1, b + 1 => by
    rw [ordF]
    refine List.pairwise_append.mpr ⟨List.pairwise_map.mpr ((ordF_asc a (b + 1)).imp fun h => cons_ltL _ h), List.pairwise_map.mpr ((ordF_asc (a + 1) b).imp fun h => cons_ltL _ h), fun x hx y hy => ?_⟩
    obtain ⟨z, _, rfl⟩ := List.mem_map.mp hx
    obtain ⟨u, _, rfl⟩ := List.mem_map.mp hy
    exact List.cons_lt_cons_iff.mpr (.inl (by decide))
theorem ordF_nodup (a b : Nat) : (ordF a b).Nodup := (ordF_asc a b).imp fun h e => by subst e; exact List.lt_irrefl _ h
theorem ordF_leS (a b : Nat) : ((ordF a b).map mkS).Pairwise leS := List.pairwise_map.mpr ((ordF_asc a b).imp fun {x y} h z => by
  have z : y < x := by simpa [mkS] using z
  exact List.lt_irrefl _ (List.lt_trans h z))
theorem ordF_set (a b : Nat) : setS ((ordF a b).map mkS) = (ordF a b).map mkS := by
  have nd : ((ordF a b).map mkS).Nodup := List.pairwise_map.mpr ((ordF_nodup a b).imp fun h e => h (mkS_inj e))
  exact sort_unique (nodup_perm (setS_nodup _) nd fun z => setS_mem) (sortS_pair _) (ordF_leS a b)
def sumT (f : Nat → Nat) : Nat → Nat
  | 0 => f 0
  | b + 1 => sumT f b + f (b + 1)
def pas : Nat → Nat → Nat
  | 0, _ => 1
  | a + 1, b => sumT (pas a) b
theorem pas_zero : ∀ a, pas a 0 = 1
  | 0 => rfl
  | a + 1 => by show sumT (pas a) 0 = 1; exact pas_zero a
theorem ordF_pas : ∀ (a b : Nat), (ordF a b).length = pas a b
  | 0, b => by unfold ordF; rfl
  | a + 1, 0 => by unfold ordF; exact (pas_zero (a + 1)).symm
  | a + 1, b + 1 => by
    rw [ordF, List.length_append, List.length_map, List.length_map, ordF_pas a (b + 1), ordF_pas (a + 1) b]
    show _ = sumT (pas a) b + pas a (b + 1)
    show pas a (b + 1) + sumT (pas a) b = _
    omega
def mnF (a : Nat) : Nat → Nat
  | 0 => 1
  | k + 1 => mnF a k * (a + k + 1)
def tpF : Nat → Nat
  | 0 => 1
  | k + 1 => tpF k * (k + 1)
theorem binom : ∀ a < 5, ∀ b < 5, pas a b = mnF a b / tpF b ∧ pas a b ≤ 100 ∧ 0 < tpF b ∧ tpF b ≤ 1000 ∧ mnF a b ≤ 100000 := by decide +kernel
theorem ordF_small {a b : Nat} (ha : a ≤ 4) (hb : b ≤ 4) : (ordF a b).length ≤ 100 := by
  rw [ordF_pas]
  exact (binom a (by omega) b (by omega)).2.1
/-! ### [x for x in orders(..)] -/
section
variable {K : PySem.W.Frag}
theorem heap47 {H2 : Hp} {pv : List (Addr × Obj)} {C D : Addr} {o o' : Obj} {l : HO} (hD : H2 D ≠ none) (hC : H2 C ≠ none) (ne : D ≠ C) (off : OffP H2 pv) :
    minus (plus (upd (minus (plus H2 pv) [(C, o)]) D l) [(C, o')]) pv = upd (upd H2 D l) C (exO (C, o')) := by
  funext a
  by_cases ha : inPv pv a
  · rw [minus_in ha]
    obtain ⟨p, hp, rfl⟩ := ha
    have z := off p hp
    rw [upd_ne (fun e : p.1 = C => hC (by rw [← e]; exact z)), upd_ne (fun e : p.1 = D => hD (by rw [← e]; exact z)), z]
  · rw [minus_out ha]
    by_cases hc : a = C
    · subst hc
      obtain ⟨q, hq, _, e⟩ := plus_in (H := upd (minus (plus H2 pv) [(a, o)]) D l) (pv := [(a, o')]) (b := a) ⟨_, List.mem_singleton.mpr rfl, rfl⟩
      rw [e, List.mem_singleton.mp hq, upd_same]
    · have n1 : ∀ o : Obj, ¬ inPv [(C, o)] a := fun o ⟨p, hp, e⟩ => hc (by rw [List.mem_singleton.mp hp] at e; exact e.symm)
      rw [plus_out (n1 _), upd_ne hc]
      by_cases hd : a = D
      · subst hd; rw [upd_same, upd_same]
      · rw [upd_ne hd, upd_ne hd, minus_out (n1 _), plus_out ha]
theorem ev_lcOrd {n j : Nat} {σ : L2.St} {F : Hp} {ta : TA} {p q : List D} (hA : EvA K ta σ F [.lst p, .lst q]) (hp : dOk p) (hq : dOk q) (hn : p.length + q.length < n) (hj : j < σ.length) :
    EvD K (tLcY (tCallY P_orders.length (spOrd K n) ta) (gName j) (tVar j) [j]) σ F (.lst ((ordF p.length q.length).map txt)) := by
  intro H S Q k
  have small := ordF_small hp.1 hq.1
  refine hA H S _ fun vs F1 H1 x1 dl => ?_
  have hl : vs.length = 2 := by rw [dl.length]; rfl
  refine ⟨hl, fun Da Ca ne hD hC => ⟨(ordF p.length q.length).length, fun o => ?_⟩⟩
  have hst : ∀ a, H1 a ≠ none → plus (upd H1 Da (.lst [])) [(Ca, o)] a = H1 a := fun a ha => by
    have n1 : a ≠ Ca := fun e => ha (e ▸ hC)
    have n2 : a ≠ Da := fun e => ha (e ▸ hD)
    rw [plus_out (fun ⟨p, hp, e⟩ => n1 (by rw [List.mem_singleton.mp hp] at e; exact e.symm)), upd_ne n2]
  have stD : plus (upd H1 Da (.lst [])) [(Ca, o)] Da = some (.lst []) := by
    rw [plus_out (fun ⟨p, hp, e⟩ => ne (by rw [List.mem_singleton.mp hp] at e; exact e.symm)), upd_same]
  have stC : plus (upd H1 Da (.lst [])) [(Ca, o)] Ca = some (exO (Ca, o)) := by
    obtain ⟨q, hq, _, e⟩ := plus_in (H := upd H1 Da (.lst [])) (pv := [(Ca, o)]) (b := Ca) ⟨_, List.mem_singleton.mpr rfl, rfl⟩
    rw [e, List.mem_singleton.mp hq]
  have fD : F1 Da = none := x1.s.free hD
  have fC : F1 Ca = none := x1.s.free hC
  generalize hws : ordF p.length q.length = ws at *
  refine ⟨F1, p, q, [Da, Ca], fun i t F' H' => t.σ = wipe σ [j] ∧ Same F1 F' ∧ (∀ a o, H1 a = some o → H' a = some o) ∧ (∀ a, F1 a = none → H1 a ≠ none → F' a = none) ∧ F' Da = none ∧ F' Ca = none ∧ H' Ca = some (exO (Ca, t.o)) ∧ ∃ xs, H' Da = some (.lst xs) ∧ DenL K F' xs ((ws.take i).map txt), ?_, dl, hp, hq, hn, ?_, ?_, ⟨rfl, Same.refl _, fun a o h => ?_, fun a h _ => h, fD, fC, stC, [], stD, .nil⟩, ?_, ?_, ?_⟩
  · intro a u h
    rw [hst a (by rw [x1.s a u h]; simp)]
    exact x1.s a u h
  · rw [hws]; exact Nat.le_refl _
  · intro a ha
    simp only [List.mem_cons, List.not_mem_nil, or_false] at ha
    rcases ha with rfl | rfl
    · rw [stD]; simp
    · rw [stC]; simp
  · rw [hst a (by rw [h]; simp)]; exact h
  · rintro i t F' H' F2 H2 ⟨q1, q2, q3, q4, q5, q6, q7, xs, q8, q9⟩ f s kk
    have kk1 : ∀ a, H1 a ≠ none → H2 a = H' a ∧ (F' a = none → F2 a = none) := fun a ha => kk a (by rw [hst a ha]; exact ha)
    obtain ⟨kD, kD'⟩ := kk Da (by rw [stD]; simp)
    obtain ⟨kC, kC'⟩ := kk Ca (by rw [stC]; simp)
    refine ⟨q1, q2.trans f, fun a o h => ?_, fun a h h' => (kk1 a h').2 (q4 a h h'), kD' q5, kC' q6, by rw [kC]; exact q7, xs, by rw [kD]; exact q8, q9.up f⟩
    rw [(kk1 a (by rw [h]; simp)).1]
    exact q3 a o h
  · rw [hws]
    rintro i wd t F2 H2 x m κ hi S2 kp ⟨q1, q2, q3, q4, q5, q6, q7, xs, q8, q9⟩ dx hκ
    refine ⟨fun pp hpp => by rw [one_mem hpp]; exact ⟨_, List.mem_singleton.mpr rfl, rfl, q7⟩, fun pv off => ?_⟩
    refine g_nm ⟨by rw [q1, wipe_set (List.mem_singleton.mpr rfl), wipe_wipe], ?_⟩
    refine at_var (v := x) (by rw [q1, List.getElem?_set_self (by rw [wipe_length]; exact hj)]) _ ?_
    have nD : H2 Da ≠ none := by rw [q8]; simp
    have nC : H2 Ca ≠ none := by rw [q7]; simp
    have hlt : i < ws.length := (List.getElem?_eq_some_iff.mp hi).1
    have e1 : minus (plus H2 pv) [(Ca, t.o)] Da = some (.lst xs) := by
      rw [minus_out (fun ⟨pp, hpp, e⟩ => ne (by rw [one_mem hpp] at e; exact e.symm)), plus_some off q8]
    have hxl : xs.length = i := by rw [q9.length, List.length_map, List.length_take]; omega
    refine ⟨xs, e1, by rw [hxl, sizeLine_eq]; omega, fun o' off' => ?_⟩
    refine ⟨fun pp hpp => ?_, ?_⟩
    · obtain ⟨z, hz, ez, e⟩ := onP_plus (H := H2) (pv := pv) pp hpp
      have z2 := off pp hpp
      have n1 : pp.1 ≠ Ca := fun e => nC (e ▸ z2)
      have n2 : pp.1 ≠ Da := fun e => nD (e ▸ z2)
      refine ⟨z, hz, ez, ?_⟩
      rw [plus_out (fun ⟨p3, h3, e3⟩ => n1 (by rw [one_mem h3] at e3; exact e3.symm)), upd_ne n2, minus_out (fun ⟨p3, h3, e3⟩ => n1 (by rw [one_mem h3] at e3; exact e3.symm))]
      exact e
    · rw [heap47 nD nC ne off]
      refine hκ ⟨t.σ, o'⟩ F2 _ ⟨Same.refl _, fun a u hm h => ?_, fun a u h => ?_, fun _ h _ => h, fun a h => upd_keeps a (upd_keeps a h)⟩ ⟨q1, q2, fun a u h => ?_, q4, q5, q6, upd_same, xs ++ [x], by rw [upd_ne ne, upd_same], ?_⟩
      · simp only [List.mem_cons, List.not_mem_nil, or_false, not_or] at hm
        rw [upd_ne hm.2, upd_ne hm.1]; exact h
      · rw [upd_ne (fun e => by rw [e, q6] at h; cases h), upd_ne (fun e => by rw [e, q5] at h; cases h)]
        exact S2 a u h
      · rw [upd_ne (fun e => by rw [e, hC] at h; cases h), upd_ne (fun e => by rw [e, hD] at h; cases h)]
        exact q3 a u h
      · rw [take_succ' hi, List.map_append]
        exact q9.append (.cons dx .nil)
  · rw [hws]
    rintro t F2 H2 S2 kp ⟨q1, q2, q3, q4, q5, q6, q7, xs, q8, q9⟩
    refine ⟨fun pp hpp => by rw [one_mem hpp]; exact ⟨_, List.mem_singleton.mpr rfl, rfl, q7⟩, ?_⟩
    rw [List.take_length] at q9
    have nCa : ∀ {a : Addr}, a ≠ Ca → ¬ inPv [(Ca, t.o)] a := fun {a} h ⟨pp, hpp, e⟩ => h (by rw [one_mem hpp] at e; exact e.symm)
    have sF : Same F2 (upd F2 Da (.lst xs)) := same_new q5
    refine k (.ref Da) (upd F2 Da (.lst xs)) _ (x1.tr (Ext.of (q2.trans sF) (fun a u h => ?_) (fun a u h => ?_) fun a h h' => ?_)) (.lst upd_same (q9.up sF))
    · rw [minus_out (nCa fun e => by rw [e, hC] at h; cases h)]
      exact q3 a u h
    · by_cases hd : a = Da
      · subst hd
        rw [upd_same] at h
        rw [minus_out (nCa ne), q8]; exact h
      · rw [upd_ne hd] at h
        rw [minus_out (nCa fun e => by rw [e, q6] at h; cases h)]
        exact S2 a u h
    · rw [upd_ne (fun e : a = Da => h' (by rw [e]; exact hD))]
      exact q4 a h h'
end
end Nm

set_option Elab.async false
set_option linter.all false
set_option maxRecDepth 100000
set_option maxHeartbeats 400000
namespace Nm
open PySem PySem.Spec L2
local macro_rules | `(tactic| walk_at "ev") => `(tactic| first
  | (with_reducible apply ev_var; assumption; with_unfolding_all rfl)
  | (with_reducible apply ev_c; first | with_reducible exact Den.int _ | with_reducible exact Den.str _ | with_reducible exact Den.bl _ | with_reducible exact Den.non | with_reducible exact Den.ty _)
  | with_reducible exact ea_nil
  | (with_reducible apply ea_cons; walk_at "ev"; walk_at "ev")
  | (with_reducible apply ev_op; walk_at "ev"; walk_at "ev"; walk_at "rv")
  | (with_reducible apply ev_cb; walk_at "ev"; walk_at "rv")
  | (with_reducible apply ev_lst; walk_at "ev"; walk_at "sz")
  | (with_reducible apply ev_tup; walk_at "ev"; walk_at "sz")
  | (with_reducible apply ev_un; walk_at "ev"; walk_at "rv")
  | (with_reducible apply ev_chainU; walk_at "ev"; walk_at "ev"; walk_at "rv"; walk_at "ev"; walk_at "rv")
  | with_reducible exact ev_dnew
  | with_reducible exact ev_disp1 (fun _ => Den.str _)
  | (with_reducible apply et_test; walk_at "ev")
  | (with_reducible apply et_B; walk_at "ev")
  | (with_reducible apply et_not; walk_at "ev")
  | (with_reducible apply ev_not; walk_at "ev")
  | (with_reducible apply ev_sl_str; walk_at "ev"; walk_at "ev"; walk_at "ev"; walk_at "sz")
  | (with_reducible apply eo_some; walk_at "ev")
  | with_reducible exact eo_none)
local macro_rules | `(tactic| walk_at "rv") => `(tactic| first
  | with_reducible exact rv_add_int | (with_reducible apply rv_add_str; walk_at "sz") | (with_reducible apply rv_add_lst; walk_at "sz")
  | with_reducible exact rv_lt_int | with_reducible exact rv_le_int | with_reducible exact rv_gt_int | with_reducible exact rv_ge_int
  | with_reducible exact rvA_eq_int | with_reducible exact rvA_eq_str | with_reducible exact rvA_ne_int | with_reducible exact rvA_ne_str
  | (with_reducible apply rv_mul_int; walk_at "mul")
  | with_reducible exact rv_in_sign | (with_reducible apply rc_len_str; walk_at "sz") | with_reducible exact rc_len_lst | with_reducible exact rc_len_tup
  | with_reducible exact rc_abs | with_reducible exact rc_max2 | with_reducible exact rc_min2
  | with_reducible exact rc_all | with_reducible exact rc_any | with_reducible exact ru_neg
  | (with_reducible apply rc_isiA; with_unfolding_all rfl; decide +kernel)
  | (with_reducible apply rv_ix_lst; with_unfolding_all rfl) | (with_reducible apply rv_ix_tup; with_unfolding_all rfl)
  | (with_reducible apply rv_I; first | walk_at "sd" | (unfold CPow; decide) | (unfold CDiv; first | decide | omega)))
local macro_rules | `(tactic| walk_at "sz") => `(tactic| first | assumption | (rw [sizeLine_eq]; omega) | (rw [sizeLine_eq]; decide) | (simp [sizeLine_eq]; done))
local macro_rules | `(tactic| walk_at "sd") => `(tactic| first | assumption | omega | decide)
local macro_rules | `(tactic| walk_at "mul") => `(tactic| first | exact Or.inl ⟨by omega, by omega⟩ | exact Or.inr ⟨by omega, by omega⟩)
/-! ### a list of one's own that grows -/
structure Grow (K : PySem.W.Frag) (F0 H0 : Hp) (p : Addr) (ds : List D) (F H : Hp) : Prop where
  x : Ext [] F0 H0 F H
  n : H0 p = none
  o : ∃ xs, Own F H p (.lst xs) ∧ DenL K F xs ds ∧ xs.length = ds.length
section
variable {K : PySem.W.Frag} {F H F0 H0 : Hp} {σ : L2.St} {te ta : TE} {r : List Sl} {DE : Ends} {tz : TS} {d : D} {ds : List D} {p : Addr}
theorem Grow.ext {F' H' : Hp} (g : Grow K F0 H0 p ds F H) (x : Ext [] F H F' H') : Grow K F0 H0 p ds F' H' := by
  obtain ⟨xs, o, l, e⟩ := g.o
  exact ⟨g.x.tr x, g.n, xs, o.ext0 x, l.up x.f, e⟩
theorem q_grow {i : Nat} (E : EnvD K F r σ) (hp : r[i]? = some (.v (.ref p))) (g : Grow K F0 H0 p ds F H) (h : EvD K te σ F d) (hz : ds.length < 1000)
    (k : ∀ F' H', Grow K F0 H0 p (ds ++ [d]) F' H' → EnvD K F' r σ → tz DE σ H') : tSeq (tDrop (tBM K "list" rAppend (tVar i) (tCons te tNil))) tz DE σ H := by
  obtain ⟨xs, o, l, e⟩ := g.o
  refine q_app g.x.s E hp o h (by omega) fun v F' H' x o' dv => ?_
  refine k F' _ ⟨Ext.mutNew (g.x.tr x) g.n o'.f, g.n, xs ++ [v], ⟨o'.f, upd_same⟩, (l.up x.f).append (.cons dv .nil), by rw [List.length_append, List.length_append, e]; rfl⟩ (E.up x.f)
theorem grow_new {j : Nat} (S : Same F H) (x : Ext [] F0 H0 F H) (E : EnvD K F r σ) (h : EvL K te σ F ds) (k : ∀ p F' H' σ', Grow K F0 H0 p ds F' H' → EnvD K F' (r.set j (.v (.ref p))) σ' → tz DE σ' H') : tSeq (tAsg te (gName j)) tz DE σ H :=
  q_asgL S E h fun p xs F' H' σ' hp x' o l E' => k p F' H' σ' ⟨x.tr x', x.back hp, xs, o, l, l.length⟩ E'
/-- it is not changed any more -/
theorem Grow.fin {i : Nat} (E : EnvD K F r σ) (hp : r[i]? = some (.v (.ref p))) (g : Grow K F0 H0 p ds F H) : ∃ F', Ext [] F0 H0 F' H ∧ Same F F' ∧ EvD K (tVar i) σ F' (.lst ds) := by
  obtain ⟨xs, o, l, e⟩ := g.o
  obtain ⟨o1, g1, g2⟩ := E.get hp
  have g2 : o1 = some (.ref p) := g2
  subst g2
  refine ⟨upd F p (.lst xs), Ext.freeze g.x g.n o.h o.f, same_new o.f, fun H s Q q => ⟨_, g1, q _ _ H (Ext.refl s) (.lst upd_same (l.up (same_new o.f)))⟩⟩
end

theorem range_get47 {n i : Nat} {f : Nat → D} {d : D} (h : ((List.range n).map f)[i]? = some d) : i < n ∧ d = f i := by
  rw [List.getElem?_map] at h
  obtain ⟨m, h1, h2⟩ := Option.map_eq_some_iff.mp h
  have h3 := (List.getElem?_eq_some_iff.mp h1).1
  have e := (List.getElem?_eq_some_iff.mp h1).2
  rw [List.getElem_range] at e
  rw [List.length_range] at h3
  subst e
  exact ⟨h3, h2.symm⟩
section
variable {K : PySem.W.Frag} {F H : Hp} {σ : L2.St} {r : List Sl} {DE : Ends} {d e : D}
theorem s_par {i j : Nat} {tr : TA} (S : Same F H) (E : EnvD K F r σ) (h : EvA K tr σ F [d, e]) (k : ∀ F' H' σ', Ext [] F H F' H' → EnvD K F' ((r.set i (.d d)).set j (.d e)) σ' → DE.nx σ' H') : tPar i j tr DE σ H := q_par (tz := fun D σ H => D.nx σ H) (DE := DE) S E h k
end
/-! ### programs -/
def dD47 : List D := [.tup [.str "folder", .str "a"], .tup [.str "file", .str "b", .int 1], .tup [.str "link", .str "c", .str "a"], .tup [.str "write", .str "b", .int 2], .tup [.str "remove", .str "a"], .tup [.str "move", .str "a", .str "b"]]
def Pg47 (p : List D) : Prop := p.length ≤ 4 ∧ ∀ d ∈ p, d ∈ dD47
theorem dD47_ok : ∀ d ∈ dD47, Gd d := by
  intro d hd
  simp only [dD47, List.mem_cons, List.not_mem_nil, or_false] at hd
  rcases hd with rfl | rfl | rfl | rfl | rfl | rfl <;> (unfold Gd; decide +kernel)
theorem pg_ok {p : List D} (h : Pg47 p) : dOk p := ⟨h.1, fun d hd => dD47_ok d (h.2 d hd)⟩
def preNo47 (ds : List D) : Prop := True
def postPg47 (_ : List D) (d : D) : Prop := ∃ p, Pg47 p ∧ d = .lst p
abbrev spProg (K : PySem.W.Frag) : Sp := spB K 0 5 preNo47 postPg47
section
variable {K : PySem.W.Frag} {vs : List V} {H : Hp} {Q : VK} {E : XK}
theorem rd_law_program (h : spProg K vs H Q E) : t_law_program K (spTake K) { nx := fun _ H' => Q .non H', rt := Q } (start N_law_program vs) H := by
  obtain ⟨F, b, n, ws, ds, rfl, S, w, l, e, _, k⟩ := h
  have e0 : ds = [] := List.length_eq_zero_iff.mp e
  subst e0
  cases l
  have E1 : EnvD K F [.v (.ref b), .u, .u] (start N_law_program [.ref b]) := .cons rfl (.cons trivial (.cons trivial .nil))
  refine grow_new (j := 1) (ds := dD47.take 5) S (Ext.refl S) E1 (el_lst (ea_cons (ev_tup (ea_cons (ev_c (.str _)) (ea_cons (ev_c (.str _)) ea_nil)) sz2) (ea_cons (ev_tup (ea_cons (ev_c (.str _)) (ea_cons (ev_c (.str _)) (ea_cons (ev_c (.int 1)) ea_nil))) sz3) (ea_cons (ev_tup (ea_cons (ev_c (.str _)) (ea_cons (ev_c (.str _)) (ea_cons (ev_c (.str _)) ea_nil))) sz3) (ea_cons (ev_tup (ea_cons (ev_c (.str _)) (ea_cons (ev_c (.str _)) (ea_cons (ev_c (.int 2)) ea_nil))) sz3) (ea_cons (ev_tup (ea_cons (ev_c (.str _)) (ea_cons (ev_c (.str _)) ea_nil)) sz2) ea_nil))))) (by rw [sizeLine_eq]; decide)) fun p F1 H1 σ1 g1 E1 => ?_
  refine q_grow (i := 1) E1 rfl g1 (ev_tup (ea_cons (ev_c (.str _)) (ea_cons (ev_c (.str _)) (ea_cons (ev_c (.str _)) ea_nil))) sz3) (by decide) fun F2 H2 g2 E2 => ?_
  obtain ⟨xs, o, l, e⟩ := g2.o
  have g3 := Ext.freeze g2.x g2.n o.h o.f
  have E3 := (E2.up (same_new (o := .lst xs) o.f)).seeV (i := 1) rfl (.lst upd_same (l.up (same_new o.f)))
  generalize upd F2 p (.lst xs) = F3 at g3 E3
  have E3 : EnvD K F3 [.v (.ref b), .d (.lst dD47), .u] σ1 := E3
  refine s_retB (b := b) (n := n) (c := (1 + 0) + 4 * 1) (R := postPg47 []) g3.s (w.ext0 g3) (eb_lc (N := 4) (ce := 1) (I := fun ds => ds.length ≤ 4) (RE := fun _ e => e ∈ dD47) E3 (ebi_rng1 (c := 1 + 0) (S := fun ds => ∃ m : Nat, ds = [.int (m : Nat)] ∧ m ≤ 4) (eb_cons (eb_take (m := 5) E3 rfl (ev_c (.int 5)) (by decide) (by decide)) eb_nil ?_) ?_) (fun ds h => h) (by rw [sizeLine_eq]; decide) (wipe1 2) (fun ds d F' σ' _ _ s E' => eb_pick_lst (m := 6) E' rfl (ev_var (i := 1) E' rfl) (ev_c (.int 6)) (by decide) rfl (by decide)) ?_) fun v d F' H' hr x w' dv => ?_
  · rintro x xs ⟨m, rfl, hm⟩ rfl
    exact ⟨m, rfl, by omega⟩
  · rintro ds ⟨m, rfl, hm⟩
    exact ⟨m, rfl, by omega, by rw [List.length_map, List.length_range]; exact hm⟩
  · intro ds es hd hl hre
    refine ⟨es, ⟨by omega, fun d hd' => ?_⟩, rfl⟩
    obtain ⟨i, hi⟩ := List.mem_iff_getElem?.mp hd'
    have hlt : i < ds.length := by rw [← hl]; exact (List.getElem?_eq_some_iff.mp hi).1
    exact hre i _ d (List.getElem?_eq_getElem hlt) hi
  · exact k v d F' H' (g3.tr x) w' hr dv
end
/-! ### whether strings are all orders -/
def R_right47 (ds : List D) (d : D) : Prop := ∃ a b : Nat, a ≤ 4 ∧ b ≤ 4 ∧ ds = [.lst ((ordF a b).map txt), .int (a : Nat), .int (b : Nat)] ∧ d = .bl true
section
variable {K : PySem.W.Frag} {vs : List V} {H : Hp} {Q : VK} {E : XK} {P : Program} {w : World}
theorem rd_law_is_right (h : spR K 3 R_right47 vs H Q E) : t_law_is_right K P w { nx := fun _ H' => Q .non H', rt := Q } (start N_law_is_right vs) H := by
  obtain ⟨F, v, u, t, _, _, _, d, rfl, S, hv, hu, ht, ⟨a, b, ha, hb, e, rfl⟩, k⟩ := spR3 h
  cases e
  have E1 : EnvD K F [.d (.lst ((ordF a b).map txt)), .d (.int (a : Nat)), .d (.int (b : Nat)), .u, .u, .u, .u] (start N_law_is_right [v, u, t]) := .cons ⟨v, rfl, hv⟩ (.cons ⟨u, rfl, hu⟩ (.cons ⟨t, rfl, ht⟩ (.cons trivial (.cons trivial (.cons trivial (.cons trivial .nil))))))
  obtain ⟨b1, b2, b3, b4, b5⟩ := binom a (by omega) b (by omega)
  have mono : ∀ i ≤ b, mnF a i ≤ 100000 ∧ tpF i ≤ 1000 := fun i hi => by
    obtain ⟨_, _, _, q4, q5⟩ := binom a (by omega) i (by omega)
    exact ⟨q5, q4⟩
  refine q_asgG (d := .tup [.int 1, .int 1]) S E1 (ev_tup (as := [.int 1, .int 1]) (ea_cons (ev_c (.int 1)) (ea_cons (ev_c (.int 1)) ea_nil)) sz2) tg_two fun F2 H2 σ2 x2 E2 => ?_
  have E2 : EnvD K F2 [.d (.lst ((ordF a b).map txt)), .d (.int (a : Nat)), .d (.int (b : Nat)), .u, .d (.int 1), .d (.int 1), .u] σ2 := E2
  refine q_for [] (fun i F' H' r => ∃ s3, r = [.d (.lst ((ordF a b).map txt)), .d (.int (a : Nat)), .d (.int (b : Nat)), s3, .d (.int (mnF a i : Nat)), .d (.int (tpF i : Nat)), .u]) (items := (List.range b).map fun i => .int (i : Nat)) x2.s E2 (ei_rng1 (n := (b : Nat)) (ea_cons (ev_var (i := 2) E2 rfl) ea_nil) (by omega) (by omega)) (fun F' H' x' => ⟨_, rfl⟩) ?_ ?_
  · rintro i d F3 H3 F4 H4 r' σ' N hd x3 ⟨s3, rfl⟩ x4 E4 kN
    obtain ⟨hi, rfl⟩ := range_get47 hd
    obtain ⟨m1, m2⟩ := mono i (by omega)
    have E4 : EnvD K F4 [.d (.lst ((ordF a b).map txt)), .d (.int (a : Nat)), .d (.int (b : Nat)), .d (.int (i : Nat)), .d (.int (mnF a i : Nat)), .d (.int (tpF i : Nat)), .u] σ' := E4
    refine s_par (i := 4) (j := 5) (d := .int (mnF a (i + 1) : Nat)) (e := .int (tpF (i + 1) : Nat)) x4.s E4 (ea_cons (ev_is (ev_op (ev_var (i := 4) E4 rfl) (ev_op (d := .int ((a : Int) + (i : Int) + 1)) (ev_op (d := .int ((a : Int) + (i : Int))) (ev_var (i := 1) E4 rfl) (ev_var (i := 3) E4 rfl) rv_add_int) (ev_c (.int 1)) rv_add_int) (rv_mul_int (.inl ⟨by omega, by omega⟩))) ?_) (ea_cons (ev_is (ev_op (ev_var (i := 5) E4 rfl) (ev_op (d := .int ((i : Int) + 1)) (ev_var (i := 3) E4 rfl) (ev_c (.int 1)) rv_add_int) (rv_mul_int (.inl ⟨by omega, by omega⟩))) ?_) ea_nil)) fun F5 H5 σ5 x5 E5 => ?_
    · show D.int _ = D.int ((mnF a i * (a + i + 1) : Nat) : Int)
      congr 1
    · show D.int _ = D.int ((tpF i * (i + 1) : Nat) : Int)
      congr 1
    · exact kN F5 H5 _ _ (x5.wide (by simp)) E5 ⟨_, rfl⟩
  · rintro F3 H3 r' σ3 x3 E3 ⟨s3, rfl⟩
    rw [List.length_map, List.length_range] at E3
    have sml := ordF_small ha hb
    have cs : ∀ w ∈ ordF a b, ∀ c ∈ w, c < 1114112 := fun w hw c hc => by rcases (ordF_cnt a b w hw).2 c hc with rfl | rfl <;> decide
    obtain ⟨t1, t2⟩ := txts_lst (ws := ordF a b) cs
    have hlen : EvD K (tCB (rLenA K) (tCons (tVar 0) tNil)) σ3 F3 (.int ((ordF a b).length : Nat)) := ev_is (ev_cb (ea_cons (ev_var (i := 0) E3 rfl) ea_nil) rc_len_lst) (by rw [List.length_map])
    have hdiv : EvD K (tOp (rI CDiv fun i j => V.int (i / j)) (tVar 4) (tVar 5)) σ3 F3 (.int ((ordF a b).length : Nat)) := ev_is (ev_op (ev_var (i := 4) E3 rfl) (ev_var (i := 5) E3 rfl) (rv_I (g := fun i j => i / j) (by unfold CDiv; omega))) (by rw [ordF_pas, b1, Int.natCast_ediv])
    have hsort : EvD K (tCB (rSortedX P w) (tCons (tCB (rSetX P w K) (tCons (tVar 0) tNil)) tNil)) σ3 F3 (.lst ((ordF a b).map txt)) := by
      have e1 : (ordF a b).map txt = ((ordF a b).map mkS).map D.str := by rw [List.map_map]; rfl
      have := el_sortset (P := P) (w := w) (K := K) (F := F3) (σ := σ3) (ks := (ordF a b).map mkS) (ea_cons (ev_var (i := 0) E3 rfl) ea_nil) e1 (by rw [List.length_map]; omega)
      rw [ordF_set, ← e1] at this
      exact this.toD
    refine q_if (K := K) (b := false) x3.s (et_is (et_or (a := false) (et_is (et_test (ev_op hlen hdiv rvA_ne_int)) (by simp)) fun _ => et_test (ev_op (ev_var (i := 0) E3 rfl) hsort (rv_ne_self t1 (by omega)))) rfl) (fun z => nomatch z) fun _ F4 H4 x4 => ?_
    have E4 := E3.up x4.f
    unfold tNext
    dsimp only
    refine s_ret (K := K) (d := .bl true) x4.s (ev_is (ev_cb (ea_cons (ev_is (ev_lc (f := fun _ => .bl true) E4 (ei_lst (ev_var (i := 0) E4 rfl)) (by rw [List.length_map, sizeLine_eq]; omega) (wipe1 6) (fun d F' σ' hd _ E' => ?_)) (?_ : _ = D.lst (((ordF a b).map fun _ => true).map D.bl))) ea_nil) rc_all) ?_) fun v5 F5 H5 x5 d5 => k v5 F5 H5 ((x2.tr (x3.wide (by simp))).tr (x4.tr x5)) d5
    · obtain ⟨wd, hw, rfl⟩ := List.mem_map.mp hd
      obtain ⟨c1, c2⟩ := ordF_cnt a b wd hw
      have l1 := ordF_len a b wd hw
      refine ev_is (ev_and (a := true) (ev_is (ev_op (ev_count (l := wd) (c := 48) (ev_var (i := 6) E' rfl) (ev_c (.str _))) (ev_var (i := 1) E' rfl) rvA_eq_int) (by rw [c1]; simp)) fun _ => ev_is (d := .bl true) (ev_op (ev_lenT (l := wd) (ev_var (i := 6) E' rfl) (by omega)) (ev_op (d := .int ((a : Int) + (b : Int))) (ev_var (i := 1) E' rfl) (ev_var (i := 2) E' rfl) rv_add_int) rvA_eq_int) (by rw [l1]; simp)) rfl
    · rw [List.map_map, List.map_map]; rfl
    · simp
end
end Nm

set_option Elab.async false
set_option linter.all false
set_option maxRecDepth 100000
set_option maxHeartbeats 400000
namespace Nm
open PySem PySem.Spec L2
local macro_rules | `(tactic| walk_at "ev") => `(tactic| first
  | (with_reducible apply ev_var; assumption; with_unfolding_all rfl)
  | (with_reducible apply ev_c; first | with_reducible exact Den.int _ | with_reducible exact Den.str _ | with_reducible exact Den.bl _ | with_reducible exact Den.non | with_reducible exact Den.ty _)
  | with_reducible exact ea_nil
  | (with_reducible apply ea_cons; walk_at "ev"; walk_at "ev")
  | (with_reducible apply ev_op; walk_at "ev"; walk_at "ev"; walk_at "rv")
  | (with_reducible apply ev_cb; walk_at "ev"; walk_at "rv")
  | (with_reducible apply ev_lst; walk_at "ev"; walk_at "sz")
  | (with_reducible apply ev_tup; walk_at "ev"; walk_at "sz")
  | (with_reducible apply ev_un; walk_at "ev"; walk_at "rv")
  | (with_reducible apply ev_chainU; walk_at "ev"; walk_at "ev"; walk_at "rv"; walk_at "ev"; walk_at "rv")
  | with_reducible exact ev_dnew
  | with_reducible exact ev_disp1 (fun _ => Den.str _)
  | (with_reducible apply et_test; walk_at "ev")
  | (with_reducible apply et_B; walk_at "ev")
  | (with_reducible apply et_not; walk_at "ev")
  | (with_reducible apply ev_not; walk_at "ev")
  | (with_reducible apply ev_sl_str; walk_at "ev"; walk_at "ev"; walk_at "ev"; walk_at "sz")
  | (with_reducible apply eo_some; walk_at "ev")
  | with_reducible exact eo_none)
local macro_rules | `(tactic| walk_at "rv") => `(tactic| first
  | with_reducible exact rv_add_int | (with_reducible apply rv_add_str; walk_at "sz") | (with_reducible apply rv_add_lst; walk_at "sz")
  | with_reducible exact rv_lt_int | with_reducible exact rv_le_int | with_reducible exact rv_gt_int | with_reducible exact rv_ge_int
  | with_reducible exact rvA_eq_int | with_reducible exact rvA_eq_str | with_reducible exact rvA_ne_int | with_reducible exact rvA_ne_str
  | (with_reducible apply rv_mul_int; walk_at "mul")
  | with_reducible exact rv_in_sign | (with_reducible apply rc_len_str; walk_at "sz") | with_reducible exact rc_len_lst | with_reducible exact rc_len_tup
  | with_reducible exact rc_abs | with_reducible exact rc_max2 | with_reducible exact rc_min2
  | with_reducible exact rc_all | with_reducible exact rc_any | with_reducible exact ru_neg
  | (with_reducible apply rc_isiA; with_unfolding_all rfl; decide +kernel)
  | (with_reducible apply rv_ix_lst; with_unfolding_all rfl) | (with_reducible apply rv_ix_tup; with_unfolding_all rfl)
  | (with_reducible apply rv_I; first | walk_at "sd" | (unfold CPow; decide) | (unfold CDiv; first | decide | omega)))
local macro_rules | `(tactic| walk_at "sz") => `(tactic| first | assumption | (rw [sizeLine_eq]; omega) | (rw [sizeLine_eq]; decide) | (simp [sizeLine_eq]; done))
local macro_rules | `(tactic| walk_at "sd") => `(tactic| first | assumption | omega | decide)
local macro_rules | `(tactic| walk_at "mul") => `(tactic| first | exact Or.inl ⟨by omega, by omega⟩ | exact Or.inr ⟨by omega, by omega⟩)
/-! ### the bag -/
section
variable {K : PySem.W.Frag} {vs : List V} {H : Hp} {Q : VK} {E : XK}
theorem mix_small {y z : Int} {m : Nat} (hy : 0 ≤ y) (hy2 : y < 2305843009213693951) (hz : 0 ≤ z) (hz2 : z ≤ 1000000000) (c : Int) (hc : 0 ≤ c) (hc2 : c ≤ 1000000000) : (y + c * z).natAbs < 2 ^ 64 := by
  have h1 : 0 ≤ c * z := Int.mul_nonneg hc hz
  have h2 : c * z ≤ 1000000000 * 1000000000 := Int.mul_le_mul hc2 hz2 hz (by decide)
  omega
theorem rd_law_take (h : spTake K vs H Q E) : t_law_take K { nx := fun _ H' => Q .non H', rt := Q } (start N_law_take vs) H := by
  obtain ⟨F, b, n, ws, ds, rfl, S, ⟨x, y, z, o, hx, hy, hy2, hz, hz2⟩, l, e, pre, k⟩ := h
  match ds, l, e, pre, k with
  | [.int m], .cons (.int _) .nil, _, ⟨m0, m1⟩, k =>
  refine ⟨.ref b, rfl, .inl (.inl ⟨b, _, 0, _, rfl, rfl, SqL.of o.h, rfl, .inl ⟨x, 0, rfl, rfl, _, rfl, ?_⟩⟩)⟩
  refine ite2 (fun hp => ?_) (fun hp => ?_)
  · have hp := of_decide_eq_true hp
    refine ⟨.ref b, rfl, .inl (.inl ⟨b, _, 0, _, rfl, rfl, SqL.of o.h, rfl, .int m, rfl, x, m, rfl, rfl, m0, ?_⟩)⟩
    refine ⟨.ref b, rfl, .inl (.inl ⟨b, _, 0, _, rfl, rfl, SqL.of o.h, rfl, .int m, rfl, x, m, rfl, rfl, ⟨m0, m1⟩, ?_⟩)⟩
    refine ⟨.ref b, rfl, b, _, 0, 0, rfl, rfl, o.h, rfl, .int (x % m), rfl, ?_⟩
    refine k _ (.int (x % m)) F _ (o.set S) ⟨x / m, y, z, ⟨o.f, upd_same⟩, Int.ediv_nonneg hx (by omega), hy, hy2, hz, by omega⟩ ⟨Int.emod_nonneg _ (by omega), Int.emod_lt_of_pos _ m0⟩ (.int _)
  · -- bag[2] = bag[2] + 1
    refine ⟨.ref b, rfl, .inl (.inl ⟨b, _, 2, _, rfl, rfl, SqL.of o.h, rfl, .inl ⟨z, 1, rfl, rfl, ?_⟩⟩)⟩
    refine ⟨.ref b, rfl, b, _, 2, 2, rfl, rfl, o.h, rfl, ?_⟩
    have o2 : Own F (upd H b (.lst [.int x, .int y, .int (z + 1)])) b (.lst [.int x, .int y, .int (z + 1)]) := ⟨o.f, upd_same⟩
    -- the first mixing
    refine ⟨.ref b, rfl, .inl (.inl ⟨b, _, 1, _, rfl, rfl, SqL.of o2.h, rfl, .ref b, rfl, .inl (.inl ⟨b, _, 2, _, rfl, rfl, SqL.of o2.h, rfl, .inl ⟨_, z + 1, rfl, rfl, .inl ⟨by decide, by decide⟩, .inl ⟨_, _, rfl, rfl, _, _, rfl, rfl, ⟨by decide, by decide, mix_small (m := 0) hy hy2 (by omega) (by omega) _ (by decide) (by decide)⟩, _, _, rfl, rfl, (show (0 : Int) < 2305843009213693921 by decide), ?_⟩⟩⟩)⟩)⟩
    have m3 := Int.emod_nonneg ((y + 1000033 * (z + 1)) ^ (3 : Int).toNat) (show (2305843009213693921 : Int) ≠ 0 by decide)
    have m4 := Int.emod_lt_of_pos ((y + 1000033 * (z + 1)) ^ (3 : Int).toNat) (show (0 : Int) < 2305843009213693921 by decide)
    -- the second one
    refine ⟨_, rfl, .ref b, rfl, .inl (.inl ⟨b, _, 2, _, rfl, rfl, SqL.of o2.h, rfl, .inl ⟨_, z + 1, rfl, rfl, .inl ⟨by decide, by decide⟩, .inl ⟨_, _, rfl, rfl, _, _, rfl, rfl, ⟨by decide, by decide, mix_small (m := 0) m3 (by omega) (by omega) (by omega) _ (by decide) (by decide)⟩, _, _, rfl, rfl, (show (0 : Int) < 2305843009213693951 by decide), ?_⟩⟩⟩)⟩
    refine ⟨_, rfl, _, _, rfl, rfl, ⟨by decide, by decide⟩, .int m, rfl, _, m, rfl, rfl, m0, ?_⟩
    refine k _ (.int _) F _ (o.set S) ⟨x, y, z + 1, o2, hx, hy, hy2, by omega, by omega⟩ ⟨Int.emod_nonneg _ (by omega), Int.emod_lt_of_pos _ m0⟩ (.int _)
end
section
variable {K : PySem.W.Frag} {vs : List V} {H : Hp} {Q : VK} {E : XK}
theorem rd_law_bag (h : spBag K vs H Q E) : t_law_bag K { nx := fun _ H' => Q .non H', rt := Q } (start N_law_bag vs) H := by
  obtain ⟨F, a, ns, i, rfl, S, hs, h0, h1, k⟩ := h
  have hs' := same_l S hs
  -- whatever the cell is
  have rest : ∀ c : Int, tSeq (tAsg (tIf (tTest (tOp (rGeA K) (tCB rAbs (tCons (tVar 2) tNil)) (tOp (rI CPow fun i j => V.int (i ^ j.toNat)) (tC (.int 10)) (tC (.int 18))))) (tCB rAbs (tCons (tVar 2) tNil)) (tC (.int 0))) (gName 3))
      (tRet (tLst (tCons (tVar 3) (tCons (tOp (rI (fun _ j => 0 < j) fun i j => V.int (i % j)) (tOp (rMulA K) (tOp (rAddA K) (tOp (rAddA K) (tOp (rI (fun _ j => 0 < j) fun i j => V.int (i % j)) (tVar 2) (tC (.int 2305843009213693951))) (tOp (rMulA K) (tC (.int 9043)) (tVar 1))) (tC (.int 23))) (tC (.int 6328741))) (tC (.int 2305843009213693951))) (tCons (tC (.int 0)) tNil))))) { nx := fun _ H' => Q .non H', rt := Q } [some (.ref a), some (.int i), some (.int c), none] H := by
    intro c
    have fin : ∀ x : Int, 0 ≤ x → tRet (tLst (tCons (tVar 3) (tCons (tOp (rI (fun _ j => 0 < j) fun i j => V.int (i % j)) (tOp (rMulA K) (tOp (rAddA K) (tOp (rAddA K) (tOp (rI (fun _ j => 0 < j) fun i j => V.int (i % j)) (tVar 2) (tC (.int 2305843009213693951))) (tOp (rMulA K) (tC (.int 9043)) (tVar 1))) (tC (.int 23))) (tC (.int 6328741))) (tC (.int 2305843009213693951))) (tCons (tC (.int 0)) tNil)))) { nx := fun _ H' => Q .non H', rt := Q } [some (.ref a), some (.int i), some (.int c), some (.int x)] H := by
      intro x hx
      have c0 := Int.emod_nonneg c (show (2305843009213693951 : Int) ≠ 0 by decide)
      have c1 := Int.emod_lt_of_pos c (show (0 : Int) < 2305843009213693951 by decide)
      refine ⟨_, rfl, _, rfl, _, _, rfl, rfl, (show (0 : Int) < 2305843009213693951 by decide), _, rfl, .inl ⟨_, i, rfl, rfl, .inl ⟨by decide, by decide⟩, .inl ⟨_, _, rfl, rfl, .inl ⟨_, _, rfl, rfl, .inl ⟨_, _, rfl, rfl, .inl ⟨by omega, by omega⟩, _, _, rfl, rfl, (show (0 : Int) < 2305843009213693951 by decide), ?_⟩⟩⟩⟩⟩
      refine ⟨by show 3 ≤ sizeLine; decide, fun p hp => k p _ hp (Ext.newM S hp) ⟨_, _, 0, ⟨S.free hp, upd_same⟩, hx, Int.emod_nonneg _ (by decide), Int.emod_lt_of_pos _ (by decide), Int.le_refl _, by decide⟩⟩
    refine ⟨_, rfl, c, rfl, _, _, rfl, rfl, ⟨by decide, by decide, by decide⟩, .inl ⟨_, _, rfl, rfl, _, rfl, ?_⟩⟩
    refine ite2 (fun _ => ?_) (fun _ => ?_)
    · refine ⟨_, rfl, c, rfl, fin _ ?_⟩
      split <;> omega
    · exact fin 0 (Int.le_refl _)
  refine ⟨.int i, rfl, .ref a, rfl, .inl ⟨a, _, rfl, .inl hs', .inl ⟨i, _, rfl, rfl, _, rfl, ?_⟩⟩⟩
  refine ite2 (fun hp => ?_) (fun hp => ?_)
  · have hp := of_decide_eq_true hp
    rw [List.length_map] at hp
    obtain ⟨j, rfl⟩ : ∃ j : Nat, i = (j : Int) := ⟨i.toNat, by omega⟩
    have hj : j < ns.length := by omega
    refine ⟨.ref a, rfl, .int j, rfl, .inl (.inl ⟨a, _, _, .int ns[j], rfl, rfl, hs', ?_, rest ns[j]⟩)⟩
    exact atI_nat (by rw [List.getElem?_map, List.getElem?_eq_getElem hj]; rfl)
  · exact rest 0
end
end Nm

set_option Elab.async false
set_option linter.all false
set_option maxRecDepth 100000
set_option maxHeartbeats 400000
namespace Nm
open PySem PySem.Spec L2
local macro_rules | `(tactic| walk_at "ev") => `(tactic| first
  | (with_reducible apply ev_var; assumption; with_unfolding_all rfl)
  | (with_reducible apply ev_c; first | with_reducible exact Den.int _ | with_reducible exact Den.str _ | with_reducible exact Den.bl _ | with_reducible exact Den.non | with_reducible exact Den.ty _)
  | with_reducible exact ea_nil
  | (with_reducible apply ea_cons; walk_at "ev"; walk_at "ev")
  | (with_reducible apply ev_op; walk_at "ev"; walk_at "ev"; walk_at "rv")
  | (with_reducible apply ev_cb; walk_at "ev"; walk_at "rv")
  | (with_reducible apply ev_lst; walk_at "ev"; walk_at "sz")
  | (with_reducible apply ev_tup; walk_at "ev"; walk_at "sz")
  | (with_reducible apply ev_un; walk_at "ev"; walk_at "rv")
  | (with_reducible apply ev_chainU; walk_at "ev"; walk_at "ev"; walk_at "rv"; walk_at "ev"; walk_at "rv")
  | with_reducible exact ev_dnew
  | with_reducible exact ev_disp1 (fun _ => Den.str _)
  | (with_reducible apply et_test; walk_at "ev")
  | (with_reducible apply et_B; walk_at "ev")
  | (with_reducible apply et_not; walk_at "ev")
  | (with_reducible apply ev_not; walk_at "ev")
  | (with_reducible apply ev_sl_str; walk_at "ev"; walk_at "ev"; walk_at "ev"; walk_at "sz")
  | (with_reducible apply eo_some; walk_at "ev")
  | with_reducible exact eo_none)
local macro_rules | `(tactic| walk_at "rv") => `(tactic| first
  | with_reducible exact rv_add_int | (with_reducible apply rv_add_str; walk_at "sz") | (with_reducible apply rv_add_lst; walk_at "sz")
  | with_reducible exact rv_lt_int | with_reducible exact rv_le_int | with_reducible exact rv_gt_int | with_reducible exact rv_ge_int
  | with_reducible exact rvA_eq_int | with_reducible exact rvA_eq_str | with_reducible exact rvA_ne_int | with_reducible exact rvA_ne_str
  | (with_reducible apply rv_mul_int; walk_at "mul")
  | with_reducible exact rv_in_sign | (with_reducible apply rc_len_str; walk_at "sz") | with_reducible exact rc_len_lst | with_reducible exact rc_len_tup
  | with_reducible exact rc_abs | with_reducible exact rc_max2 | with_reducible exact rc_min2
  | with_reducible exact rc_all | with_reducible exact rc_any | with_reducible exact ru_neg
  | (with_reducible apply rc_isiA; with_unfolding_all rfl; decide +kernel)
  | (with_reducible apply rv_ix_lst; with_unfolding_all rfl) | (with_reducible apply rv_ix_tup; with_unfolding_all rfl)
  | (with_reducible apply rv_I; first | walk_at "sd" | (unfold CPow; decide) | (unfold CDiv; first | decide | omega)))
local macro_rules | `(tactic| walk_at "sz") => `(tactic| first | assumption | (rw [sizeLine_eq]; omega) | (rw [sizeLine_eq]; decide) | (simp [sizeLine_eq]; done))
local macro_rules | `(tactic| walk_at "sd") => `(tactic| first | assumption | omega | decide)
local macro_rules | `(tactic| walk_at "mul") => `(tactic| first | exact Or.inl ⟨by omega, by omega⟩ | exact Or.inr ⟨by omega, by omega⟩)
abbrev lw_turn (K : PySem.W.Frag) : TS :=
  (tSeq (tPar 5 6 (tCons (tCall (spProg K) [] E0 (tCons (tVar 2) tNil)) (tCons (tCall (spProg K) [] E0 (tCons (tVar 2) tNil)) tNil)))
    (tSeq (tPar 7 8 (tCons (tLst tNil) (tCons (tCB (rReprA K) (tCons (tLst (tCons (tVar 5) (tCons (tVar 6) tNil))) tNil)) tNil)))
    (tSeq (tForY (tCallY P_orders.length (spOrd K 9) (tCons (tVar 5) (tCons (tVar 6) tNil))) (gName 4) (tSeq (tAsg (tLcY (tCallY P_orders.length (spOrd K 9) (tCons (tVar 5) (tCons (tVar 6) tNil))) (gName 10) (tVar 10) [10]) (gName 9))
    (tSeq (tIfS (tTest (tOp (rNeA K) (tOp (rIxA K) (tVar 9) (tCB (rLenA K) (tCons (tVar 7) tNil))) (tVar 4))) (tRet (tC (.bl false))) tNext)
    (tDrop (tBM K "list" rAppend (tVar 7) (tCons (tVar 4) tNil))))))
    (tIfS (tOr (tNot (tB (tCall (spR K 3 R_right47) [] E0 (tCons (tVar 7) (tCons (tCB (rLenA K) (tCons (tVar 5) tNil)) (tCons (tCB (rLenA K) (tCons (tVar 6) tNil)) tNil)))))) (tTest (tOp (rNeA K) (tCB (rReprA K) (tCons (tLst (tCons (tVar 5) (tCons (tVar 6) tNil))) tNil)) (tVar 8)))) (tRet (tC (.bl false))) tNext))))
abbrev lw_body (K : PySem.W.Frag) : TS :=
  (tFor (iRng1 (tCons (tC (.int 6)) tNil)) (gName 3) (tSeq (tPar 5 6 (tCons (tCall (spProg K) [] E0 (tCons (tVar 2) tNil)) (tCons (tCall (spProg K) [] E0 (tCons (tVar 2) tNil)) tNil)))
    (tSeq (tPar 7 8 (tCons (tLst tNil) (tCons (tCB (rReprA K) (tCons (tLst (tCons (tVar 5) (tCons (tVar 6) tNil))) tNil)) tNil)))
    (tSeq (tForY (tCallY P_orders.length (spOrd K 9) (tCons (tVar 5) (tCons (tVar 6) tNil))) (gName 4) (tSeq (tAsg (tLcY (tCallY P_orders.length (spOrd K 9) (tCons (tVar 5) (tCons (tVar 6) tNil))) (gName 10) (tVar 10) [10]) (gName 9))
    (tSeq (tIfS (tTest (tOp (rNeA K) (tOp (rIxA K) (tVar 9) (tCB (rLenA K) (tCons (tVar 7) tNil))) (tVar 4))) (tRet (tC (.bl false))) tNext)
    (tDrop (tBM K "list" rAppend (tVar 7) (tCons (tVar 4) tNil))))))
    (tIfS (tOr (tNot (tB (tCall (spR K 3 R_right47) [] E0 (tCons (tVar 7) (tCons (tCB (rLenA K) (tCons (tVar 5) tNil)) (tCons (tCB (rLenA K) (tCons (tVar 6) tNil)) tNil)))))) (tTest (tOp (rNeA K) (tCB (rReprA K) (tCons (tLst (tCons (tVar 5) (tCons (tVar 6) tNil))) tNil)) (tVar 8)))) (tRet (tC (.bl false))) tNext)))))
abbrev lw_end (K : PySem.W.Frag) : TS :=
  (tRet (tAndV (tOp (rEqA K) (tLcY (tCallY P_orders.length (spOrd K 9) (tCons (tLst tNil) (tCons (tLst tNil) tNil))) (gName 8) (tVar 8) [8]) (tLst (tCons (tC (.str "")) tNil))) (tOp (rEqA K) (tLcY (tCallY P_orders.length (spOrd K 9) (tCons (tLst (tCons (tTup (tCons (tC (.str "remove")) (tCons (tC (.str "a")) tNil))) tNil)) (tCons (tLst tNil) tNil))) (gName 8) (tVar 8) [8]) (tLst (tCons (tC (.str "0")) tNil)))))
/-! ### k47: the law -/
section
variable {K : PySem.W.Frag} {F H : Hp} {σ : L2.St} {b p : Addr} {n : Nat} {DE : Ends} {tz : TS} {R : List Sl} {te : TE} {r : List Sl} {d : D}
theorem q_parB {i j n c : Nat} {tr : TA} {R : List D → Prop} (S : Same F H) (E : EnvD K F r σ) (w : BagAt F H b (n + c)) (h : EvBA K b c tr σ F R) (h2 : ∀ ds, R ds → ds.length = 2)
    (k : ∀ d e F' H' σ', R [d, e] → Ext [b] F H F' H' → BagAt F' H' b n → EnvD K F' ((r.set i (.d d)).set j (.d e)) σ' → tz DE σ' H') : tSeq (tPar i j tr) tz DE σ H :=
  h H n S w _ fun vs ds F' H' x w' hr l => by
    have := h2 ds hr
    cases l with
    | nil => cases this
    | cons a t =>
      cases t with
      | nil => cases this
      | cons a2 t =>
        cases t with
        | nil => exact ⟨_, _, rfl, k _ _ F' H' _ hr x w' (EnvD.set j (EnvD.set i (E.up x.f) ⟨_, rfl, a⟩) ⟨_, rfl, a2⟩)⟩
        | cons _ _ => cases this
theorem q_parND {i j : Nat} (S : Same F H) (E : EnvD K F r σ) (h : EvD K te σ F d) (k : ∀ p F' H' σ', H p = none → Ext [] F H F' H' → Own F' H' p (.lst []) → EnvD K F' ((r.set i (.v (.ref p))).set j (.d d)) σ' → tz DE σ' H') : tSeq (tPar i j (tCons (tLst tNil) (tCons te tNil))) tz DE σ H :=
  ⟨sz0, fun p hp => by
    have y := Ext.newM (o := .lst []) S hp
    refine h _ y.s _ fun v F' H' x dv => ⟨_, _, rfl, k p F' H' _ hp (y.tr x) ?_ (EnvD.set j (EnvD.set (s := .v (.ref p)) i (E.up x.f) rfl) ⟨_, rfl, dv⟩)⟩
    exact Own.ext0 ⟨S.free hp, upd_same⟩ x⟩
theorem ext_stab {M : List Addr} {F1 H1 F2 H2 Hs : Hp} (x : Ext M F H F1 H1) (f : Same F1 F2) (s : Same F2 H2) (k : ∀ a, Hs a ≠ none → H2 a = H1 a ∧ (F1 a = none → F2 a = none)) (hs : ∀ a, H a ≠ none → Hs a ≠ none) : Ext M F H F2 H2 :=
  ⟨x.f.trans f, fun a o m h => by rw [(k a (hs a (by rw [h]; simp))).1]; exact x.h a o m h, s, fun a h h' => (k a (hs a h')).2 (x.n a h h'), fun a h => by rw [(k a (hs a h)).1]; exact x.k a h⟩
theorem own_stab {F1 H1 F2 H2 Hs : Hp} {o : HO} (w : Own F1 H1 p o) (k : ∀ a, Hs a ≠ none → H2 a = H1 a ∧ (F1 a = none → F2 a = none)) (hs : Hs p ≠ none) : Own F2 H2 p o := ⟨(k p hs).2 w.f, by rw [(k p hs).1]; exact w.h⟩
theorem bag_stab {F1 H1 F2 H2 Hs : Hp} {m : Nat} (w : BagAt F1 H1 b m) (k : ∀ a, Hs a ≠ none → H2 a = H1 a ∧ (F1 a = none → F2 a = none)) (hs : Hs b ≠ none) : BagAt F2 H2 b m := by
  obtain ⟨x, y, z, o, h⟩ := w
  exact ⟨x, y, z, own_stab o k hs, h⟩
theorem str_self {z : Str} : RvD K (rNeA K) (.str z) (.str z) (.bl false) := fun F H x y s hx hy Q q => by
  have := rvA_ne_str (K := K) (i := z) (j := z) F H x y s hx hy Q
  rw [decide_eq_true rfl] at this
  exact this q
theorem rd_turn47 {s0 s1 s3 s4 s5 s6 s7 s8 s9 s10 : Sl} (S : Same F H) (w : BagAt F H b (n + 10)) (E : EnvD K F [s0, s1, .v (.ref b), s3, s4, s5, s6, s7, s8, s9, s10] σ)
    (k : ∀ F' H' σ' s4 s5 s6 s7 s8 s9 s10, Ext [b] F H F' H' → BagAt F' H' b n → EnvD K F' [s0, s1, .v (.ref b), s3, s4, s5, s6, s7, s8, s9, s10] σ' → DE.nx σ' H') : lw_turn K DE σ H := by
  have pg : EvB K b 5 (tCall (spProg K) [] L2.E0 (tCons (tVar 2) tNil)) σ F (fun d => ∃ p, Pg47 p ∧ d = .lst p) :=
    eb_call (c1 := 0) (c2 := 5) (m := 0) (pre := preNo47) (post := postPg47) (E := L2.E0) (R := fun d => ∃ p, Pg47 p ∧ d = .lst p) (S := fun ds => ds = []) E rfl eb_nil (by rintro ds rfl; exact ⟨rfl, trivial⟩) (fun ds d _ p => p)
  refine q_parB (b := b) (n := n) (c := 5 + (5 + 0)) (R := fun ds => ∃ p q, Pg47 p ∧ Pg47 q ∧ ds = [.lst p, .lst q]) S E w (eb_cons (S := fun ds => ∃ q, Pg47 q ∧ ds = [.lst q]) pg (eb_cons pg eb_nil ?_) ?_) ?_ ?_
  · rintro x xs ⟨q, hq, rfl⟩ rfl
    exact ⟨q, hq, rfl⟩
  · rintro x xs ⟨p, hp, rfl⟩ ⟨q, hq, rfl⟩
    exact ⟨p, q, hp, hq, rfl⟩
  · rintro ds ⟨p, q, _, _, rfl⟩; rfl
  rintro d e F1 H1 σ1 ⟨p, q, hp, hq, e0⟩ x1 w1 E1
  cases e0
  have E1 : EnvD K F1 [s0, s1, .v (.ref b), s3, s4, .d (.lst p), .d (.lst q), s7, s8, s9, s10] σ1 := E1
  have okp := pg_ok hp
  have okq := pg_ok hq
  have ok2 := okR_two okp okq
  have rep : ∀ {F' : Hp} {σ' : L2.St} {t4 t7 t8 t9 t10 : Sl}, EnvD K F' [s0, s1, .v (.ref b), s3, t4, .d (.lst p), .d (.lst q), t7, t8, t9, t10] σ' → EvD K (tCB (rReprA K) (tCons (tLst (tCons (tVar 5) (tCons (tVar 6) tNil))) tNil)) σ' F' (.str (shownD (.lst [.lst p, .lst q]))) := fun {F' σ' t4 t7 t8 t9 t10} E' =>
    ev_cb (ea_cons (ev_lst (ea_cons (ev_var (i := 5) E' rfl) (ea_cons (ev_var (i := 6) E' rfl) ea_nil)) (by rw [sizeLine_eq]; show 2 ≤ 16777216; decide)) ea_nil) (rc_repr ok2)
  refine q_parND (i := 7) (j := 8) x1.s E1 (rep E1) fun pf F2 H2 σ2 hpf x2 o2 E2 => ?_
  generalize shownD (.lst [.lst p, .lst q]) = z at rep E2
  have E2 : EnvD K F2 [s0, s1, .v (.ref b), s3, s4, .d (.lst p), .d (.lst q), .v (.ref pf), .d (.str z), s9, s10] σ2 := E2
  have hpn : H pf = none := x1.back hpf
  have w2 := w1.ext0 x2
  have xb2 := x1.tl x2
  have bp : b ≠ pf := fun e => w1.ne (by rw [e]; exact hpf)
  have hA : EvA K (tCons (tVar 5) (tCons (tVar 6) tNil)) σ2 F2 [.lst p, .lst q] := ea_cons (ev_var (i := 5) E2 rfl) (ea_cons (ev_var (i := 6) E2 rfl) ea_nil)
  unfold tSeq tForY tCallY
  dsimp only
  refine hA H2 x2.s _ fun vs F3 H3 x3 dl => ?_
  have hl : vs.length = 2 := by rw [dl.length]; rfl
  have o3 := o2.ext0 x3
  have w3 := w2.ext0 x3
  have xb3 := xb2.tl x3
  have small := ordF_small hp.1 hq.1
  have hp4 := hp.1
  have hq4 := hq.1
  have hb3 : H3 b ≠ none := by
    obtain ⟨_, _, _, o, _⟩ := w3
    rw [o.h]; simp
  refine ⟨hl, (ordF p.length q.length).length, ?_⟩
  refine ⟨F3, p, q, [pf], fun i σ' F' H' => Ext [b] F H F' H' ∧ BagAt F' H' b n ∧ (∃ s4 s9 s10, EnvD K F' [s0, s1, .v (.ref b), s3, s4, .d (.lst p), .d (.lst q), .v (.ref pf), .d (.str z), s9, s10] σ') ∧ ∃ xs, Own F' H' pf (.lst xs) ∧ DenL K F' xs (((ordF p.length q.length).take i).map txt), x3.s, dl, okp, okq, by omega, Nat.le_refl _, ?_, ⟨xb3, w3, ⟨_, _, _, E2.up x3.f⟩, [], o3, .nil⟩, ?_, ?_, ?_⟩
  · intro a ha
    rw [List.mem_singleton.mp ha, o3.h]; simp
  · rintro i τ F4 H4 F5 H5 ⟨q1, q2, ⟨t4, t9, t10, q3⟩, xs, q4, q5⟩ f s kk
    exact ⟨ext_stab q1 f s kk (fun a ha => xb3.k a ha), bag_stab q2 kk hb3, ⟨t4, t9, t10, q3.up f⟩, xs, own_stab q4 kk (by rw [o3.h]; simp), q5.up f⟩
  · rintro i wd τ F4 H4 x m κ hi S4 kp ⟨xb4, w4, ⟨t4, t9, t10, E4⟩, xs, o4, l4⟩ dx hκ
    intro pv off
    refine g_nm ?_
    have xp := plus_ext S4 off
    have E5 : EnvD K F4 [s0, s1, .v (.ref b), s3, .d (txt wd), .d (.lst p), .d (.lst q), .v (.ref pf), .d (.str z), t9, t10] (τ.set 4 (some x)) := EnvD.set (s := .d (txt wd)) 4 E4 ⟨x, rfl, dx⟩
    have hlen : 10 < (τ.set 4 (some x)).length := by
      have := Paired.length E5
      rw [← this]; show 10 < 11; decide
    refine q_asg (j := 9) (d := .lst ((ordF p.length q.length).map txt)) xp.s E5 (ev_lcOrd (ea_cons (ev_var (i := 5) E5 rfl) (ea_cons (ev_var (i := 6) E5 rfl) ea_nil)) okp okq (by omega) hlen) fun F6 H6 σ6 x6 E6 => ?_
    have E6 : EnvD K F6 [s0, s1, .v (.ref b), s3, .d (txt wd), .d (.lst p), .d (.lst q), .v (.ref pf), .d (.str z), .d (.lst ((ordF p.length q.length).map txt)), t10] σ6 := E6
    have o6 : Own F6 H6 pf (.lst xs) := (o4.ext0 xp).ext0 x6
    have hlt : i < (ordF p.length q.length).length := (List.getElem?_eq_some_iff.mp hi).1
    have e1 : (((ordF p.length q.length).take i).map txt).length = i := by rw [List.length_map, List.length_take]; omega
    have hxl : xs.length = i := by rw [l4.length, e1]
    refine q_ifLend (i := 7) (ds := ((ordF p.length q.length).take i).map txt) (bb := false) x6.s E6 rfl o6 (l4.up x6.f) (fun F' f E' => ?_) (fun z => nomatch z) fun _ F7 H7 x7 o7 => ?_
    · refine et_test (ev_op (a := txt wd) (ev_op (b := .int (i : Nat)) (ev_var (i := 9) E' rfl) (ev_is (ev_cb (ea_cons (ev_var (i := 7) E' rfl) ea_nil) rc_len_lst) (by rw [e1])) (rv_ix_lst (atI_nat (by rw [List.getElem?_map, hi]; rfl)))) (ev_var (i := 4) E' rfl) str_self)
    · unfold tNext
      dsimp only
      have E7 := E6.up x7.f
      refine s_app (i := 7) (d := txt wd) x7.s E7 rfl o7 (ev_var (i := 4) E7 rfl) (by omega) fun v F8 H8 x8 o8 dv => ?_
      have y8 : Ext [pf] F8 H8 F8 (upd H8 pf (.lst (xs ++ [v]))) := o8.set x8.s
      obtain ⟨on, xm⟩ := ext_minusM (M := [pf]) S4 off (fun a ha => by rw [List.mem_singleton.mp ha, o4.h]; simp) ((((x6.tr x7).tr x8).wide (by simp)).trans y8)
      refine ⟨on, hκ σ6 F8 _ xm ⟨Ext.dropM xb4 xm (fun a ha => .inr (by rw [List.mem_singleton.mp ha]; exact hpn)), w4.ext xm (by simpa using bp), ⟨_, _, _, E7.up x8.f⟩, xs ++ [v], ⟨o8.f, ?_⟩, ?_⟩⟩
      · rw [minus_out]
        · exact upd_same
        · rintro ⟨pp, hpp, e⟩
          have z1 := off pp hpp
          rw [e, o4.h] at z1
          cases z1
      · rw [take_succ' hi, List.map_append]
        exact (l4.up (x6.f.trans (x7.f.trans x8.f))).append (.cons dv .nil)
  · rintro τ F4 H4 S4 kp ⟨xb4, w4, ⟨t4, t9, t10, E4⟩, xs, o4, l4⟩
    rw [List.take_length] at l4
    have sF := same_new (o := .lst xs) o4.f
    have xz := Ext.freeze xb4 hpn o4.h o4.f
    have E5 := (E4.up sF).seeV (i := 7) rfl (.lst upd_same (l4.up sF))
    have w5 : BagAt (upd F4 pf (.lst xs)) H4 b n := by
      obtain ⟨x, y, zz, o, h⟩ := w4
      exact ⟨x, y, zz, ⟨by rw [upd_ne bp]; exact o.f, o.h⟩, h⟩
    generalize upd F4 pf (.lst xs) = F5 at xz E5 w5
    have E5 : EnvD K F5 [s0, s1, .v (.ref b), s3, t4, .d (.lst p), .d (.lst q), .d (.lst ((ordF p.length q.length).map txt)), .d (.str z), t9, t10] τ := E5
    refine s_if (K := K) (b := false) xz.s (et_is (et_or (a := false) (et_is (et_not (et_B (ev_callR (R := R_right47) (ds := [.lst ((ordF p.length q.length).map txt), .int (p.length : Nat), .int (q.length : Nat)]) (ea_cons (ev_var (i := 7) E5 rfl) (ea_cons (ev_cb (ea_cons (ev_var (i := 5) E5 rfl) ea_nil) rc_len_lst) (ea_cons (ev_cb (ea_cons (ev_var (i := 6) E5 rfl) ea_nil) rc_len_lst) ea_nil))) ⟨p.length, q.length, hp4, hq4, rfl, rfl⟩ rfl))) rfl) fun _ => et_test (ev_op (rep E5) (ev_var (i := 8) E5 rfl) str_self)) rfl) (fun z => nomatch z) fun _ F6 H6 x6 => ?_
    exact k F6 H6 τ _ _ _ _ _ _ _ (xz.tl x6) (w5.ext0 x6) (E5.up x6.f)
theorem rd_end47 {s0 s1 s2 s3 s4 s5 s6 s7 s8 s9 s10 : Sl} {Q : VK} (S : Same F H) (E : EnvD K F [s0, s1, s2, s3, s4, s5, s6, s7, s8, s9, s10] σ) (hQ : DE.rt = Q) (k : ∀ H', Q (.bl true) H') : lw_end K DE σ H := by
  have hlen : 8 < σ.length := by
    have := Paired.length E
    rw [← this]; show 8 < 11; decide
  have ok0 : dOk [] := ⟨by show 0 ≤ 4; decide, fun d hd => by cases hd⟩
  have ok1 : dOk [.tup [.str "remove", .str "a"]] := ⟨by show 1 ≤ 4; decide, fun d hd => dD47_ok d (by rw [List.mem_singleton.mp hd]; simp [dD47])⟩
  refine s_ret (K := K) (d := .bl true) S (ev_andT (ev_op (a := .lst [.str ""]) (ev_is (ev_lcOrd (p := []) (q := []) (ea_cons (ev_lst ea_nil sz0) (ea_cons (ev_lst ea_nil sz0) ea_nil)) ok0 ok0 (by decide) hlen) (by rw [List.length_nil, ordF]; rfl)) (ev_lst (ea_cons (ev_c (.str _)) ea_nil) sz1) (rv_eq_self (by decide +kernel) (by decide +kernel))) (ev_op (a := .lst [.str "0"]) (ev_is (ev_lcOrd (p := [.tup [.str "remove", .str "a"]]) (q := []) (ea_cons (ev_lst (ea_cons (ev_tup (ea_cons (ev_c (.str _)) (ea_cons (ev_c (.str _)) ea_nil)) sz2) ea_nil) sz1) (ea_cons (ev_lst ea_nil sz0) ea_nil)) ok1 ok0 (by decide) hlen) (by rw [List.length_nil, List.length_singleton, ordF]; rfl)) (ev_lst (ea_cons (ev_c (.str _)) ea_nil) sz1) (rv_eq_self (by decide +kernel) (by decide +kernel)))) fun v F5 H5 x5 d5 => by cases d5; rw [hQ]; exact k H5
end
section
variable {K : PySem.W.Frag} {vs : List V} {H : Hp} {Q : VK} {E : XK}
theorem rd_law (h : spLaw K vs H Q E) : t_law K (spOrd K 9) (spR K 3 R_right47) (spProg K) (spBag K) { nx := fun _ H' => Q .non H', rt := Q } (start N_law vs) H := by
  obtain ⟨a, ns, rfl, hs, hlen, k⟩ := h
  have S0 : Same H H := Same.refl H
  have EV0 : EnvD K H [.v (.ref a), .u, .u, .u, .u, .u, .u, .u, .u, .u, .u] (start N_law [.ref a]) :=
    .cons rfl (.cons trivial (.cons trivial (.cons trivial (.cons trivial (.cons trivial (.cons trivial (.cons trivial (.cons trivial (.cons trivial (.cons trivial .nil))))))))))
  refine q_cells (j := 1) (t := 2) (R := fun r => ∃ s1 s2 s3 s4 s5 s6 s7 s8 s9 s10, r = [.v (.ref a), s1, s2, s3, s4, s5, s6, s7, s8, s9, s10]) S0 EV0 hs hlen ⟨by decide, by decide⟩ ⟨by decide, by decide⟩ ?_ ?_ (by decide) ⟨_, _, _, _, _, _, _, _, _, _, rfl⟩ ?_ ?_
  · rintro r ⟨s1, s2, s3, s4, s5, s6, s7, s8, s9, s10, rfl⟩; rfl
  · rintro r ⟨s1, s2, s3, s4, s5, s6, s7, s8, s9, s10, rfl⟩; show 1 < 11; decide
  · rintro m F1 H1 b r' σ1 N g1 S1 ⟨s1, s2, s3, s4, s5, s6, s7, s8, s9, s10, rfl⟩ w1 E1 kN
    have E1 : EnvD K F1 ([.v (.ref a), .d (.int (m : Nat)), .v (.ref b), s3, s4, s5, s6, s7, s8, s9, s10] : List Sl) σ1 := E1
    refine s_turns (b := b) (n := 0) (items := (List.range 6).map fun i => .int (i : Nat)) (R := fun r => ∃ s3 s4 s5 s6 s7 s8 s9 s10, r = [.v (.ref a), .d (.int (m : Nat)), .v (.ref b), s3, s4, s5, s6, s7, s8, s9, s10]) 10 S1 E1 (w1.less (by rw [List.length_map, List.length_range]; decide)) (ei_rng1 (n := 6) (ea_cons (ev_c (.int 6)) ea_nil) (by decide) (by decide)) ⟨_, _, _, _, _, _, _, _, rfl⟩ ?_ ?_
    · rintro d F2 H2 r2 σ2 m2 N2 hd f2 S2 ⟨s3, s4, s5, s6, s7, s8, s9, s10, rfl⟩ w2 E2 kN2
      have E2 : EnvD K F2 ([.v (.ref a), .d (.int (m : Nat)), .v (.ref b), .d d, s4, s5, s6, s7, s8, s9, s10] : List Sl) σ2 := E2
      refine rd_turn47 (n := m2) S2 w2 E2 fun F5 H5 σ5 t4 t5 t6 t7 t8 t9 t10 x5 w5 E5 => ?_
      exact kN2 F5 H5 _ _ x5 w5 E5 ⟨_, _, _, _, _, _, _, _, rfl⟩
    · rintro F2 H2 r2 σ2 x2 w2 E2 ⟨s3, s4, s5, s6, s7, s8, s9, s10, rfl⟩
      exact kN F2 H2 _ _ x2 E2 ⟨_, _, _, _, _, _, _, _, _, _, rfl⟩
  · rintro F' H' r' σ' _ S' E' ⟨s1, s2, s3, s4, s5, s6, s7, s8, s9, s10, rfl⟩
    exact rd_end47 (DE := { nx := _, rt := Q }) S' E' rfl k
end
end Nm

set_option Elab.async false
set_option linter.all false
set_option maxRecDepth 100000
set_option maxHeartbeats 4000000
namespace Nm
open PySem PySem.Spec L2 PyProof.Rows
section
variable {P : Program} {w : World} {K : PySem.W.Frag} {mg : Str → Option Value} {base : Heap}
theorem ok_law_bag (T : Txt K mg) : FnOk P w K mg base CX0 1 T.a_law_bag T.fd_law_bag P_law_bag (spBag K) :=
  T.F_law_bag.ok sc_law_bag (fun vs H Q E h => spBag_len h) fun cdv A outer s H vs Q E hr h => ⟨_, d_law_bag T hr , rd_law_bag h⟩
theorem ok_law_take (T : Txt K mg) : FnOk P w K mg base CX0 1 T.a_law_take T.fd_law_take P_law_take (spTake K) :=
  T.F_law_take.ok sc_law_take (fun vs H Q E h => spB_len h) fun cdv A outer s H vs Q E hr h => ⟨_, d_law_take T hr , rd_law_take h⟩
theorem ok_law_is_right (T : Txt K mg) : FnOk P w K mg base CX0 1 T.a_law_is_right T.fd_law_is_right P_law_is_right (spR K 3 R_right47) :=
  T.F_law_is_right.ok sc_law_is_right (fun vs H Q E h => spR_len h) fun cdv A outer s H vs Q E hr h => ⟨_, d_law_is_right T hr , rd_law_is_right h⟩
theorem ok_law_program (T : Txt K mg) : FnOk P w K mg base CX0 2 T.a_law_program T.fd_law_program P_law_program (spProg K) :=
  T.F_law_program.ok sc_law_program (fun vs H Q E h => spB_len h) fun cdv A outer s H vs Q E hr h => ⟨_, d_law_program T hr (ok_law_take T), rd_law_program h⟩
theorem ok_orders (T : Txt K mg) : ∀ n : Nat, GFyE P w K mg base (2 * n + 1) T.a_orders T.fd_orders P_orders (spOrd K n)
  | 0 => Fun.genE T.F_orders sc_orders fun cdv A outer s H pn TT hr => ⟨fun _ _ _ _ _ => False, gssE_never, fun vs H2 n τ YP DN h => rec_noneY h⟩
  | n + 1 => Fun.genE T.F_orders sc_orders fun cdv A outer s H pn TT hr => ⟨_, d_orders T hr (ok_orders T n), fun vs H2 m τ YP DN h => rd_orders h⟩
theorem ok_law (T : Txt K mg) : FnOkG P w K mg base CX0 21 T.a_law T.fd_law P_law (spLaw K) :=
  fnG0 T.F_law sc_law (fun vs H Q E h => spLaw_len h) fun cdv A outer s H vs Q E g hr h => ⟨_, d_law T hr g (ok_orders T 9) (ok_law_is_right T) (ok_law_program T) (ok_law_bag T), rd_law h⟩
end
theorem fin {l : PySem.W.OpenLaw} {w : World} {K : PySem.W.Frag} {h : Heap} {mg : Str → Option Value} {fa : Addr} (X : K.In h) (G : h.Ns mainGlobals mg) (hfa : mg "law" = some (.ref fa))
    {f0 : Addr} {oc0 kV0 dc0 pm0 cd0 ct0 : Value} {od0 an0 : Option Addr} {sl0 : Array (Option Value)} (a0 : PySem.W.nsIn K mainGlobals "orders" = some (some (.ref f0))) (l0 : K.lookup f0 = some ⟨oc0, od0, .func (PySem.W.fnOf "orders" "orders" (defArgs s_orders) (defBody s_orders) (defScope s_orders) .none kV0 dc0 pm0 an0 cd0 ct0), sl0⟩) (c0 : PySem.W.codeIn K cd0 "orders" = true) (k0 : PySem.W.keepIn K (.ref f0) = true)
    {f1 : Addr} {oc1 kV1 dc1 pm1 cd1 ct1 : Value} {od1 an1 : Option Addr} {sl1 : Array (Option Value)} (a1 : PySem.W.nsIn K mainGlobals "_law_bag" = some (some (.ref f1))) (l1 : K.lookup f1 = some ⟨oc1, od1, .func (PySem.W.fnOf "_law_bag" "_law_bag" (defArgs s_law_bag) (defBody s_law_bag) (defScope s_law_bag) .none kV1 dc1 pm1 an1 cd1 ct1), sl1⟩) (c1 : PySem.W.codeIn K cd1 "_law_bag" = true) (k1 : PySem.W.keepIn K (.ref f1) = true)
    {f2 : Addr} {oc2 kV2 dc2 pm2 cd2 ct2 : Value} {od2 an2 : Option Addr} {sl2 : Array (Option Value)} (a2 : PySem.W.nsIn K mainGlobals "_law_take" = some (some (.ref f2))) (l2 : K.lookup f2 = some ⟨oc2, od2, .func (PySem.W.fnOf "_law_take" "_law_take" (defArgs s_law_take) (defBody s_law_take) (defScope s_law_take) .none kV2 dc2 pm2 an2 cd2 ct2), sl2⟩) (c2 : PySem.W.codeIn K cd2 "_law_take" = true) (k2 : PySem.W.keepIn K (.ref f2) = true)
    {f3 : Addr} {oc3 kV3 dc3 pm3 cd3 ct3 : Value} {od3 an3 : Option Addr} {sl3 : Array (Option Value)} (a3 : PySem.W.nsIn K mainGlobals "_law_program" = some (some (.ref f3))) (l3 : K.lookup f3 = some ⟨oc3, od3, .func (PySem.W.fnOf "_law_program" "_law_program" (defArgs s_law_program) (defBody s_law_program) (defScope s_law_program) .none kV3 dc3 pm3 an3 cd3 ct3), sl3⟩) (c3 : PySem.W.codeIn K cd3 "_law_program" = true) (k3 : PySem.W.keepIn K (.ref f3) = true)
    {f4 : Addr} {oc4 kV4 dc4 pm4 cd4 ct4 : Value} {od4 an4 : Option Addr} {sl4 : Array (Option Value)} (a4 : PySem.W.nsIn K mainGlobals "_law_is_right" = some (some (.ref f4))) (l4 : K.lookup f4 = some ⟨oc4, od4, .func (PySem.W.fnOf "_law_is_right" "_law_is_right" (defArgs s_law_is_right) (defBody s_law_is_right) (defScope s_law_is_right) .none kV4 dc4 pm4 an4 cd4 ct4), sl4⟩) (c4 : PySem.W.codeIn K cd4 "_law_is_right" = true) (k4 : PySem.W.keepIn K (.ref f4) = true)
    {f5 : Addr} {oc5 kV5 dc5 pm5 cd5 ct5 : Value} {od5 an5 : Option Addr} {sl5 : Array (Option Value)} (a5 : PySem.W.nsIn K mainGlobals "law" = some (some (.ref f5))) (l5 : K.lookup f5 = some ⟨oc5, od5, .func (PySem.W.fnOf "law" "law" (defArgs s_law) (defBody s_law) (defScope s_law) .none kV5 dc5 pm5 an5 cd5 ct5), sl5⟩) (c5 : PySem.W.codeIn K cd5 "law" = true) (k5 : PySem.W.keepIn K (.ref f5) = true)
    {u0 : Value} (v0 : PySem.W.nsIn K mainGlobals "FIRST" = some (some u0)) (r0 : RelV (.str "0") u0)
    {u1 : Value} (v1 : PySem.W.nsIn K mainGlobals "SECOND" = some (some u1)) (r1 : RelV (.str "1") u1)
    (z0 : PySem.W.nsIn K mainGlobals "abs" = some none)
    (z1 : PySem.W.nsIn K mainGlobals "all" = some none)
    (z2 : PySem.W.nsIn K mainGlobals "len" = some none)
    (z3 : PySem.W.nsIn K mainGlobals "max" = some none)
    (z4 : PySem.W.nsIn K mainGlobals "min" = some none)
    (z5 : PySem.W.nsIn K mainGlobals "range" = some none)
    (z6 : PySem.W.nsIn K mainGlobals "repr" = some none)
    (z7 : PySem.W.nsIn K mainGlobals "set" = some none)
    (z8 : PySem.W.nsIn K mainGlobals "sorted" = some none) :
    ∃ fd : FuncData, (∀ (s : Shared) (v : Value), BindsTo s fd ⟨[v], []⟩ [("_law_script", v)]) ∧ ∀ base : Heap, K.In base → base.Ns mainGlobals mg → FnOkG l.prog w K mg base CX0 21 fa fd ["_law_script"] (spLaw K) := by
  have e := hfa.symm.trans (PySem.W.mg_of X G a5)
  cases e
  let T : Txt K mg := {
    a_orders := f0
    fd_orders := _
    g_orders := PySem.W.mg_of X G a0
    k_orders := k0
    F_orders := fun_mk (st := s_orders) l0 c0 k0
    b_orders := (fun_mk (st := s_orders) l0 c0 k0).binds (ps := P_orders) fun _ _ _ _ _ _ us hl => match us, hl with | [_, _], _ => rfl
    a_law_bag := f1
    fd_law_bag := _
    g_law_bag := PySem.W.mg_of X G a1
    k_law_bag := k1
    F_law_bag := fun_mk (st := s_law_bag) l1 c1 k1
    b_law_bag := (fun_mk (st := s_law_bag) l1 c1 k1).binds (ps := P_law_bag) fun _ _ _ _ _ _ us hl => match us, hl with | [_, _], _ => rfl
    a_law_take := f2
    fd_law_take := _
    g_law_take := PySem.W.mg_of X G a2
    k_law_take := k2
    F_law_take := fun_mk (st := s_law_take) l2 c2 k2
    b_law_take := (fun_mk (st := s_law_take) l2 c2 k2).binds (ps := P_law_take) fun _ _ _ _ _ _ us hl => match us, hl with | [_, _], _ => rfl
    a_law_program := f3
    fd_law_program := _
    g_law_program := PySem.W.mg_of X G a3
    k_law_program := k3
    F_law_program := fun_mk (st := s_law_program) l3 c3 k3
    b_law_program := (fun_mk (st := s_law_program) l3 c3 k3).binds (ps := P_law_program) fun _ _ _ _ _ _ us hl => match us, hl with | [_], _ => rfl
    a_law_is_right := f4
    fd_law_is_right := _
    g_law_is_right := PySem.W.mg_of X G a4
    k_law_is_right := k4
    F_law_is_right := fun_mk (st := s_law_is_right) l4 c4 k4
    b_law_is_right := (fun_mk (st := s_law_is_right) l4 c4 k4).binds (ps := P_law_is_right) fun _ _ _ _ _ _ us hl => match us, hl with | [_, _, _], _ => rfl
    a_law := fa
    fd_law := _
    g_law := PySem.W.mg_of X G a5
    k_law := k5
    F_law := fun_mk (st := s_law) l5 c5 k5
    b_law := (fun_mk (st := s_law) l5 c5 k5).binds (ps := P_law) fun _ _ _ _ _ _ us hl => match us, hl with | [_], _ => rfl
    u_FIRST := u0
    g_FIRST := PySem.W.mg_of X G v0
    r_FIRST := r0
    u_SECOND := u1
    g_SECOND := PySem.W.mg_of X G v1
    r_SECOND := r1
    n_abs := PySem.W.mg_none_of X G z0
    n_all := PySem.W.mg_none_of X G z1
    n_len := PySem.W.mg_none_of X G z2
    n_max := PySem.W.mg_none_of X G z3
    n_min := PySem.W.mg_none_of X G z4
    n_range := PySem.W.mg_none_of X G z5
    n_repr := PySem.W.mg_none_of X G z6
    n_set := PySem.W.mg_none_of X G z7
    n_sorted := PySem.W.mg_none_of X G z8 }
  exact ⟨T.fd_law, fun s v => .of_eq rfl, fun base _ _ => ok_law T⟩
end Nm
open PySem PySem.W PyProof.Rows
set_option maxRecDepth 100000 in
set_option maxHeartbeats 0 in
theorem PySem.Challenge.cw_namesone_k47_orders_of_programs_holds : PySem.Challenge.rw_namesone_k47_orders_of_programs.Holds := by
  w_on; o_law; k_head; (case hw => w_witness2)
  k_fill
  refine Nm.walkG (l := PySem.Challenge.rw_namesone_k47_orders_of_programs) (n := 63) (k := 21) (x := "_law_script") (sp := Nm.spLaw) rfl (by decide) rfl ⟨rfl, by decide, by decide⟩ (fun w h Y => PySem.W.kIn_of Y) ?F (fun K H a ns hl _ hS => ⟨a, ns, rfl, hS, hl, fun _ => rfl⟩)
  case F =>
    intro w mg fa h KX G hmg
    refine' Nm.fin KX G hmg ?a0 ?l0 ?c0 ?k0 ?a1 ?l1 ?c1 ?k1 ?a2 ?l2 ?c2 ?k2 ?a3 ?l3 ?c3 ?k3 ?a4 ?l4 ?c4 ?k4 ?a5 ?l5 ?c5 ?k5 ?v0 ?r0 ?v1 ?r1 ?z0 ?z1 ?z2 ?z3 ?z4 ?z5 ?z6 ?z7 ?z8
    (case a0 => k_is)
    (case l0 => k_is)
    (case c0 => k_is)
    (case k0 => k_is)
    (case a1 => k_is)
    (case l1 => k_is)
    (case c1 => k_is)
    (case k1 => k_is)
    (case a2 => k_is)
    (case l2 => k_is)
    (case c2 => k_is)
    (case k2 => k_is)
    (case a3 => k_is)
    (case l3 => k_is)
    (case c3 => k_is)
    (case k3 => k_is)
    (case a4 => k_is)
    (case l4 => k_is)
    (case c4 => k_is)
    (case k4 => k_is)
    (case a5 => k_is)
    (case l5 => k_is)
    (case c5 => k_is)
    (case k5 => k_is)
    (case v0 => k_is)
    (case r0 => exact ⟨_, rfl⟩)
    (case v1 => k_is)
    (case r1 => exact ⟨_, rfl⟩)
    (case z0 => k_is)
    (case z1 => k_is)
    (case z2 => k_is)
    (case z3 => k_is)
    (case z4 => k_is)
    (case z5 => k_is)
    (case z6 => k_is)
    (case z7 => k_is)
    (case z8 => k_is)
#print axioms PySem.Challenge.cw_namesone_k47_orders_of_programs_holds

